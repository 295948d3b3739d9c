import PyProof.Rows.All
import Wide.All
import OpenK.AllK
import Wide.FinOn
import HandS.ForMost
import HandS.ForExc
import HandS.IsInst
import HandS.CallSlots
import HandS.TryMany
import HandS.SetBool
import HandS.TupAny
import HandS.Flow
import HandS.Wide
import HandS.StrMore
import HandS.WordsExc
import KE.LtData
import HandS.CallLocal
import HandS.HeadHook3
import HandS.Zip
import HandS.Deep
import KE.GoesEnum
import KE.DataMinMax
import KE.SortData
import KE.SortKeyHeap
import OpenK.KCall
import HandS.SortKw
import HandS.ReplaceLit
import HandS.ReplaceList
import PyProof.Rows.StrDouble
import PyProof.StrLawsReplace
import HandS.Exc
import HandS.ExcOwn
import HandS.ExcInit
import HandS.ExcField
import HandS.ExcIs
import HandS.Small
import KE.KExcIs
import HandS.DictComp
import KE.KDictList
import KE.KIndexOf
import HandS.TupSets
import HandS.SetKeys
import KE.DataEq
import PySem.Challenge.RW_peristyle_k15_schemas
set_option Elab.async false
set_option linter.all false
set_option maxRecDepth 100000
set_option autoImplicit false
set_option maxHeartbeats 4000000
/-! DL1: a layer of plain data over the hand layer: what a value stands for (Den), the slots of a frame as data (SR), readings by plain functions. -/
namespace DL
open PySem PySem.Spec PyProof.Rows L2

/-! ### what a value stands for -/
def kD : Key → PyData
  | .inl i => .int i
  | .inr x => .str x
mutual
inductive Den (K : PySem.W.Frag) (F : Hp) : V → PyData → Prop where
  | non : Den K F .non .none
  | bl (b : Bool) : Den K F (.bl b) (.bool b)
  | int (i : Int) : Den K F (.int i) (.int i)
  | str (x : Str) : Den K F (.str x) (.str x)
  | lst {a : Addr} {xs : List V} {ds : List PyData} : SqL K F a xs → Dens K F xs ds → Den K F (.ref a) (.list ds)
  | tup {a : Addr} {xs : List V} {ds : List PyData} : SqT K F a xs → Dens K F xs ds → Den K F (.ref a) (.tuple ds)
  | dic {a : Addr} {kvs : List (Key × V)} {ps : List (PyData × PyData)} : F a = some (.dK kvs) → DenKV K F kvs ps → Den K F (.ref a) (.dict ps)
inductive Dens (K : PySem.W.Frag) (F : Hp) : List V → List PyData → Prop where
  | nil : Dens K F [] []
  | cons {v : V} {vs : List V} {d : PyData} {ds : List PyData} : Den K F v d → Dens K F vs ds → Dens K F (v :: vs) (d :: ds)
inductive DenKV (K : PySem.W.Frag) (F : Hp) : List (Key × V) → List (PyData × PyData) → Prop where
  | nil : DenKV K F [] []
  | cons {k : Key} {v : V} {kvs : List (Key × V)} {d : PyData} {ps : List (PyData × PyData)} : Den K F v d → DenKV K F kvs ps → DenKV K F ((k, v) :: kvs) ((kD k, d) :: ps)
end

def Ex (H H' : Hp) : Prop := ∀ a o, H a = some o → H' a = some o
theorem Ex.refl (H : Hp) : Ex H H := fun _ _ h => h
theorem Ex.trans {H H1 H2 : Hp} (a : Ex H H1) (b : Ex H1 H2) : Ex H H2 := fun x o h => b x o (a x o h)
theorem Ex.new {H : Hp} {p : Addr} {o : HO} (h : H p = none) : Ex H (upd H p o) := fun a u e => by
  rw [upd_ne (ne_of_none e h)]
  exact e
theorem Ex.rd {H H' : Hp} {a : Addr} {u : HO} (e : Ex H H') (h : Rd H a u) : Rd H' a u := by
  rcases h with h | ⟨o, h⟩
  · exact .inl (e a _ h)
  · exact .inr ⟨o, e a _ h⟩
theorem Ex.sl {K : PySem.W.Frag} {H H' : Hp} {a : Addr} {xs : List V} (e : Ex H H') (h : SqL K H a xs) : SqL K H' a xs := by
  rcases h with h | h
  · exact .inl (e.rd h)
  · exact .inr h
theorem Ex.st {K : PySem.W.Frag} {H H' : Hp} {a : Addr} {xs : List V} (e : Ex H H') (h : SqT K H a xs) : SqT K H' a xs := by
  rcases h with h | h
  · exact .inl (e.rd h)
  · exact .inr h

section
variable {K : PySem.W.Frag} {F F' : Hp}
mutual
theorem Den.mono (e : Ex F F') : ∀ {v : V} {d : PyData}, Den K F v d → Den K F' v d
  | _, _, .non => .non
  | _, _, .bl b => .bl b
  | _, _, .int i => .int i
  | _, _, .str x => .str x
  | _, _, .lst h q => .lst (e.sl h) (Dens.mono e q)
  | _, _, .tup h q => .tup (e.st h) (Dens.mono e q)
  | _, _, .dic h q => .dic (e _ _ h) (DenKV.mono e q)
theorem Dens.mono (e : Ex F F') : ∀ {vs : List V} {ds : List PyData}, Dens K F vs ds → Dens K F' vs ds
  | _, _, .nil => .nil
  | _, _, .cons h q => .cons (Den.mono e h) (Dens.mono e q)
theorem DenKV.mono (e : Ex F F') : ∀ {vs : List (Key × V)} {ds : List (PyData × PyData)}, DenKV K F vs ds → DenKV K F' vs ds
  | _, _, .nil => .nil
  | _, _, .cons h q => .cons (Den.mono e h) (DenKV.mono e q)
end
theorem Dens.length : ∀ {vs : List V} {ds : List PyData}, Dens K F vs ds → vs.length = ds.length
  | _, _, .nil => rfl
  | _, _, .cons _ q => congrArg (· + 1) (Dens.length q)
theorem Dens.append : ∀ {vs : List V} {ds : List PyData} {ws : List V} {es : List PyData}, Dens K F vs ds → Dens K F ws es → Dens K F (vs ++ ws) (ds ++ es)
  | _, _, _, _, .nil, h => h
  | _, _, _, _, .cons d q, h => .cons d (Dens.append q h)
theorem Dens.get : ∀ {vs : List V} {ds : List PyData} {i : Nat} {d : PyData}, Dens K F vs ds → ds[i]? = some d → ∃ v, vs[i]? = some v ∧ Den K F v d
  | _, _, _, _, .nil, e => by simp at e
  | _, _, 0, _, .cons h _, e => by simp at e; subst e; exact ⟨_, rfl, h⟩
  | _, _, i + 1, _, .cons _ q, e => by
    obtain ⟨v, h1, h2⟩ := Dens.get (i := i) q (by simpa using e)
    exact ⟨v, by simpa using h1, h2⟩
theorem Dens.getV : ∀ {vs : List V} {ds : List PyData} {i : Nat} {v : V}, Dens K F vs ds → vs[i]? = some v → ∃ d, ds[i]? = some d ∧ Den K F v d
  | _, _, _, _, .nil, e => by simp at e
  | _, _, 0, _, .cons h _, e => by simp at e; subst e; exact ⟨_, rfl, h⟩
  | _, _, i + 1, _, .cons _ q, e => by
    obtain ⟨v, h1, h2⟩ := Dens.getV (i := i) q (by simpa using e)
    exact ⟨v, by simpa using h1, h2⟩
theorem Dens.take : ∀ {vs : List V} {ds : List PyData} (n : Nat), Dens K F vs ds → Dens K F (vs.take n) (ds.take n)
  | _, _, 0, _ => .nil
  | _, _, _ + 1, .nil => .nil
  | _, _, n + 1, .cons r t => .cons r (Dens.take n t)
theorem Dens.drop : ∀ {vs : List V} {ds : List PyData} (n : Nat), Dens K F vs ds → Dens K F (vs.drop n) (ds.drop n)
  | _, _, 0, r => r
  | _, _, _ + 1, .nil => .nil
  | _, _, n + 1, .cons _ t => Dens.drop n t
theorem Dens.nil_iff {vs : List V} {ds : List PyData} (r : Dens K F vs ds) : vs = [] ↔ ds = [] := by
  cases r with
  | nil => simp
  | cons _ _ => simp
theorem Dens.ints : ∀ {vs : List V} {ns : List Int}, Dens K F vs (ns.map PyData.int) → vs = ns.map V.int
  | _, [], h => by cases h; rfl
  | _, n :: ns, h => by
    rw [List.map_cons] at h
    cases h with
    | cons a b => cases a; rw [Dens.ints b]; rfl
theorem Dens.of_ints : ∀ (ns : List Int), Dens K F (ns.map V.int) (ns.map PyData.int)
  | [] => .nil
  | n :: ns => .cons (.int n) (Dens.of_ints ns)
theorem Dens.strs : ∀ {vs : List V} {ns : List Str}, Dens K F vs (ns.map PyData.str) → vs = ns.map V.str
  | _, [], h => by cases h; rfl
  | _, n :: ns, h => by
    rw [List.map_cons] at h
    cases h with
    | cons a b => cases a; rw [Dens.strs b]; rfl
theorem Dens.of_strs : ∀ (ns : List Str), Dens K F (ns.map V.str) (ns.map PyData.str)
  | [] => .nil
  | n :: ns => .cons (.str n) (Dens.of_strs ns)
theorem Dens.bools : ∀ {vs : List V} {ns : List Bool}, Dens K F vs (ns.map PyData.bool) → vs = ns.map V.bl
  | _, [], h => by cases h; rfl
  | _, n :: ns, h => by
    rw [List.map_cons] at h
    cases h with
    | cons a b => cases a; rw [Dens.bools b]; rfl

/-! flat data: no heap -/
def flatD : PyData → Bool
  | .none | .bool _ | .int _ | .str _ => true
  | _ => false
def flatOf : PyData → V
  | .bool b => .bl b
  | .int i => .int i
  | .str x => .str x
  | _ => .non
theorem Den.flat {v : V} {d : PyData} (h : Den K F v d) (f : flatD d = true) : v = flatOf d := by
  cases h <;> first | rfl | cases f
theorem Den.of_flat {d : PyData} (f : flatD d = true) : Den K F (flatOf d) d := by
  cases d <;> first | exact .non | exact .bl _ | exact .int _ | exact .str _ | cases f
theorem Den.toFlat {v : V} {d : PyData} (h : Den K F v d) (f : flatD d = true) (F2 : Hp) : Den K F2 v d := by
  rw [h.flat f]; exact .of_flat f
theorem Den.flatV {v : V} {d : PyData} (h : Den K F v d) (f : flatD d = true) : L2.flatV v = true := by
  cases h <;> first | rfl | cases f
theorem Dens.flatV : ∀ {vs : List V} {ds : List PyData}, Dens K F vs ds → ds.all flatD = true → vs.all L2.flatV = true
  | _, _, .nil, _ => rfl
  | _, _, .cons h q, f => by
    rw [List.all_cons, Bool.and_eq_true] at f
    rw [List.all_cons, h.flatV f.1, Dens.flatV q f.2]; rfl

/-! to the hand layer's own data (no dicts) -/
mutual
def noDic : PyData → Bool
  | .none => true
  | .bool _ => true
  | .int _ => true
  | .str _ => true
  | .list xs => noDics xs
  | .tuple xs => noDics xs
  | .dict _ => false
def noDics : List PyData → Bool
  | [] => true
  | x :: xs => noDic x && noDics xs
end
mutual
theorem Den.dp : ∀ {v : V} {d : PyData}, Den K F v d → noDic d = true → Dp K F v d
  | _, _, .non, _ => .non
  | _, _, .bl b, _ => .bl b
  | _, _, .int i, _ => .int i
  | _, _, .str x, _ => .str x
  | _, _, .lst h q, f => .lst h (Dens.dp q (by simpa [noDic] using f))
  | _, _, .tup h q, f => .tup h (Dens.dp q (by simpa [noDic] using f))
  | _, _, .dic h q, f => by simp [noDic] at f
theorem Dens.dp : ∀ {vs : List V} {ds : List PyData}, Dens K F vs ds → noDics ds = true → DpAll K F vs ds
  | _, _, .nil, _ => .nil
  | _, _, .cons h q, f => by
    rw [noDics, Bool.and_eq_true] at f
    exact .cons (Den.dp h f.1) (Dens.dp q f.2)
end

/-! types, for isinstance -/
def tyOf : PyData → String
  | .none => "NoneType"
  | .bool _ => "bool"
  | .int _ => "int"
  | .str _ => "str"
  | .list _ => "list"
  | .tuple _ => "tuple"
  | .dict _ => "dict"
theorem Den.tyx {H : Hp} (e : Ex F H) {v : V} {d : PyData} (h : Den K F v d) : TyX K H v (.type (tyOf d)) := by
  cases h with
  | non => exact .base .non
  | bl b => exact .base (.bl b)
  | int i => exact .base (.int i)
  | str x => exact .base (.str x)
  | lst h _ =>
    rcases h with (h | ⟨o, h⟩) | ⟨o, its, n, hk, hc, _⟩
    · exact .base (.lst (e _ _ h))
    · exact .base (.frz (e _ _ h))
    · exact .kList hk hc
  | tup h _ =>
    rcases h with (h | ⟨o, h⟩) | ⟨o, its, n, hk, hc, _⟩
    · exact .base (.tup (e _ _ h))
    · exact .fTuple (e _ _ h)
    · exact .kTuple hk hc
  | dic h _ => exact .base (.dK (e _ _ h))
end

/-! ### outcomes -/
/-- so that simp writes its steps down -/
theorem nd {α : Sort _} {a b : α} (h : a = b) : a = b := h
structure Xn where
  nm : Str
  fs : List (Str × V)
inductive Res (α : Type) where
  | ok (a : α)
  | exc (x : Xn)
  | bad
def Res.bind {α β : Type} : Res α → (α → Res β) → Res β
  | .ok a, f => f a
  | .exc x, _ => .exc x
  | .bad, _ => .bad
instance : Monad Res where
  pure := .ok
  bind := Res.bind
@[simp] theorem bind_ok {α β : Type} (a : α) (f : α → Res β) : (Res.ok a >>= f) = f a := nd rfl
@[simp] theorem bind_exc {α β : Type} (x : Xn) (f : α → Res β) : (Res.exc x >>= f) = .exc x := nd rfl
@[simp] theorem bind_bad {α β : Type} (f : α → Res β) : (Res.bad >>= f) = .bad := nd rfl
@[simp] theorem pure_ok {α : Type} (a : α) : (pure a : Res α) = .ok a := nd rfl
theorem bind_assoc {α β γ : Type} (x : Res α) (f : α → Res β) (g : β → Res γ) : (x >>= f) >>= g = x >>= fun a => f a >>= g := by cases x <;> rfl
def noX {α : Type} : Res α → Res α
  | .ok a => .ok a
  | _ => .bad
@[simp] theorem noX_ok {α : Type} (a : α) : noX (Res.ok a) = .ok a := nd rfl

/-- the dict at a has these truth values as keys -/
def BDict (a : Addr) (kvs : List (Bool × V)) (h : Heap) : Prop := kvs.length ≤ sizeLine ∧ (a == sysModules) = false ∧ ∃ vs, KV kvs vs ∧ ∀ (P : Program) (w : World), h.DictOf (PpSet.boolK P w) a vs
/-! ### slots -/
inductive Sl where
  | un
  | val (d : PyData)
  | own (ds : List PyData)
  | adr (a : Addr)
  | dcK (kvs : List (Key × V))
  | dcB (kvs : List (Bool × V))
abbrev Sls := List Sl
def SlOk (K : PySem.W.Frag) (H F : Hp) (o : Option (Option V)) : Sl → Prop
  | .un => True
  | .val d => ∃ v, o = some (some v) ∧ Den K F v d
  | .own ds => ∃ a xs, o = some (some (.ref a)) ∧ H a = some (.lst xs) ∧ F a = none ∧ Dens K F xs ds
  | .adr a => o = some (some (.ref a))
  | .dcK kvs => ∃ a, o = some (some (.ref a)) ∧ F a = some (.dK kvs)
  | .dcB kvs => ∃ a, o = some (some (.ref a)) ∧ F a = some (.ext (BDict a kvs))
def OwnAt (ρ : Sls) (σ : L2.St) (i : Nat) (a : Addr) : Prop := (∃ ds, ρ[i]? = some (.own ds)) ∧ σ[i]? = some (some (.ref a))

structure Gr (F H F' H' : Hp) : Prop where
  ff : Ex F F'
  hh : Ex H H'
  fh : Ex F' H'
  nf : ∀ a, F a = none → H a ≠ none → F' a = none
  nz : ∀ a o u, H a = none → F' a ≠ some (.frz o u)
theorem not_of_none {H H' : Hp} (e : Ex H H') {a : Addr} (h : H' a = none) : H a = none := by
  cases q : H a with
  | none => rfl
  | some o => rw [e a o q] at h; cases h
theorem Gr.refl {F H : Hp} (e : Ex F H) : Gr F H F H := ⟨.refl _, .refl _, e, fun _ h _ => h, fun a o u h z => by rw [not_of_none e h] at z; cases z⟩
theorem Gr.trans {F H F1 H1 F2 H2 : Hp} (a : Gr F H F1 H1) (b : Gr F1 H1 F2 H2) : Gr F H F2 H2 :=
  ⟨a.ff.trans b.ff, a.hh.trans b.hh, b.fh, fun x h n => b.nf x (a.nf x h n) fun z => n (not_of_none a.hh z), fun x o u h z => by
    cases q : F1 x with
    | some v =>
      have e := b.ff x v q
      rw [z] at e
      cases e
      exact a.nz x o u h q
    | none =>
      by_cases n : H1 x = none
      · exact b.nz x o u n z
      · rw [b.nf x q n] at z; cases z⟩
/-- a new object, frozen at once -/
theorem Gr.new {F H : Hp} {p : Addr} {o : HO} (e : Ex F H) (h : H p = none) (hz : ∀ ob u, o ≠ .frz ob u := by intro _ _ z; cases z) : Gr F H (upd F p o) (upd H p o) := by
  have hF : F p = none := not_of_none e h
  refine ⟨Ex.new hF, Ex.new h, fun a u q => ?_, fun a h1 h2 => ?_, fun a ob u h1 h2 => ?_⟩
  · by_cases ha : a = p
    · subst ha; rw [upd_same] at q ⊢; exact q
    · rw [upd_ne ha] at q ⊢; exact e a u q
  · have ha : a ≠ p := fun z => h2 (z ▸ h)
    rw [upd_ne ha]; exact h1
  · by_cases ha : a = p
    · subst ha; rw [upd_same] at h2; exact hz _ _ (Option.some.inj h2)
    · rw [upd_ne ha, not_of_none e h1] at h2; cases h2
/-- a new object, kept apart -/
theorem Gr.newO {F H : Hp} {p : Addr} {o : HO} (e : Ex F H) (h : H p = none) : Gr F H F (upd H p o) := by
  refine ⟨.refl _, Ex.new h, fun a u q => ?_, fun a h1 h2 => h1, fun a ob u h1 h2 => by rw [not_of_none e h1] at h2; cases h2⟩
  have ha : a ≠ p := fun z => by subst z; rw [not_of_none e h] at q; cases q
  rw [upd_ne ha]; exact e a u q

structure SR (K : PySem.W.Frag) (F0 H0 : Hp) (ρ : Sls) (σ : L2.St) (H F : Hp) : Prop where
  gr : Gr F0 H0 F H
  len : ρ.length = σ.length
  sl : ∀ (i : Nat) (s : Sl), ρ[i]? = some s → SlOk K H F σ[i]? s
  own0 : ∀ (i : Nat) (a : Addr), OwnAt ρ σ i a → H0 a = none
  sep : ∀ (i j : Nat) (a : Addr), OwnAt ρ σ i a → OwnAt ρ σ j a → i = j
theorem SlOk.grow {K : PySem.W.Frag} {H F H' F' : Hp} {o : Option (Option V)} {s : Sl} (h : SlOk K H F o s) (g : Gr F H F' H') : SlOk K H' F' o s := by
  cases s with
  | un => exact True.intro
  | val d => obtain ⟨v, e, q⟩ := h; exact ⟨v, e, q.mono g.ff⟩
  | adr a => exact h
  | dcK kvs => obtain ⟨a, e, q⟩ := h; exact ⟨a, e, g.ff _ _ q⟩
  | dcB kvs => obtain ⟨a, e, q⟩ := h; exact ⟨a, e, g.ff _ _ q⟩
  | own ds => obtain ⟨a, xs, e, h1, h2, q⟩ := h; exact ⟨a, xs, e, g.hh _ _ h1, g.nf a h2 (by rw [h1]; simp), q.mono g.ff⟩
section
variable {K : PySem.W.Frag} {F0 H0 : Hp} {ρ : Sls} {σ : L2.St} {H F H' F' : Hp}
theorem SR.grow (r : SR K F0 H0 ρ σ H F) (g : Gr F H F' H') : SR K F0 H0 ρ σ H' F' :=
  ⟨r.gr.trans g, r.len, fun i s e => (r.sl i s e).grow g, r.own0, r.sep⟩
theorem SR.ex (r : SR K F0 H0 ρ σ H F) : Ex F H := r.gr.fh
/-- a slot takes a datum -/
theorem SR.set (r : SR K F0 H0 ρ σ H F) {v : V} {d : PyData} (h : Den K F v d) (i : Nat) : SR K F0 H0 (ρ.set i (.val d)) (σ.set i (some v)) H F := by
  have ow : ∀ j a, OwnAt (ρ.set i (.val d)) (σ.set i (some v)) j a → j ≠ i ∧ OwnAt ρ σ j a := fun j a ⟨⟨ds, e1⟩, e2⟩ => by
    by_cases hj : j = i
    · subst hj
      by_cases hl : j < ρ.length
      · rw [List.getElem?_set_self hl] at e1; cases e1
      · rw [List.getElem?_eq_none (by simpa using hl)] at e1; cases e1
    · rw [List.getElem?_set_ne (Ne.symm hj)] at e1 e2
      exact ⟨hj, ⟨ds, e1⟩, e2⟩
  refine ⟨r.gr, by simp [r.len], fun j s e => ?_, fun j a o => r.own0 j a (ow j a o).2, fun j k a o1 o2 => r.sep j k a (ow j a o1).2 (ow k a o2).2⟩
  by_cases hj : j = i
  · subst hj
    by_cases hl : j < ρ.length
    · rw [List.getElem?_set_self hl] at e; cases e
      rw [List.getElem?_set_self (by rw [← r.len]; exact hl)]
      exact ⟨v, rfl, h⟩
    · rw [List.getElem?_eq_none (by simpa using hl)] at e; cases e
  · rw [List.getElem?_set_ne (Ne.symm hj)] at e ⊢
    exact r.sl j s e
/-- a slot takes a new list -/
theorem SR.setO (r : SR K F0 H0 ρ σ H F) {a : Addr} {xs : List V} {ds : List PyData} (h1 : H a = some (.lst xs)) (h2 : F a = none) (h3 : H0 a = none) (h4 : ∀ j, ¬ OwnAt ρ σ j a) (h : Dens K F xs ds) (i : Nat) : SR K F0 H0 (ρ.set i (.own ds)) (σ.set i (some (.ref a))) H F := by
  have ow : ∀ j b, OwnAt (ρ.set i (.own ds)) (σ.set i (some (.ref a))) j b → (j = i ∧ b = a) ∨ OwnAt ρ σ j b := fun j b ⟨⟨ds', e1⟩, e2⟩ => by
    by_cases hj : j = i
    · subst hj
      by_cases hl : j < ρ.length
      · rw [List.getElem?_set_self (by rw [← r.len]; exact hl)] at e2
        have e3 : V.ref a = V.ref b := Option.some.inj (Option.some.inj e2)
        cases e3
        exact .inl ⟨rfl, rfl⟩
      · rw [List.getElem?_eq_none (by simpa using hl)] at e1; cases e1
    · rw [List.getElem?_set_ne (Ne.symm hj)] at e1 e2
      exact .inr ⟨⟨ds', e1⟩, e2⟩
  refine ⟨r.gr, by simp [r.len], fun j s e => ?_, fun j b o => ?_, fun j k b o1 o2 => ?_⟩
  · by_cases hj : j = i
    · subst hj
      by_cases hl : j < ρ.length
      · rw [List.getElem?_set_self hl] at e; cases e
        rw [List.getElem?_set_self (by rw [← r.len]; exact hl)]
        exact ⟨a, xs, rfl, h1, h2, h⟩
      · rw [List.getElem?_eq_none (by simpa using hl)] at e; cases e
    · rw [List.getElem?_set_ne (Ne.symm hj)] at e ⊢
      exact r.sl j s e
  · rcases ow j b o with ⟨_, rfl⟩ | o
    · exact h3
    · exact r.own0 j b o
  · rcases ow j b o1 with ⟨rfl, rfl⟩ | p1
    · rcases ow k b o2 with ⟨rfl, _⟩ | p2
      · rfl
      · exact absurd p2 (h4 k)
    · rcases ow k b o2 with ⟨rfl, rfl⟩ | p2
      · exact absurd p1 (h4 j)
      · exact r.sep j k b p1 p2
theorem SR.ownNe (r : SR K F0 H0 ρ σ H F) {j : Nat} {a : Addr} (o : OwnAt ρ σ j a) : H a ≠ none := by
  obtain ⟨⟨ds, e1⟩, e2⟩ := o
  obtain ⟨b, xs, e3, h1, _⟩ := r.sl j _ e1
  rw [e2] at e3
  have e4 : V.ref a = V.ref b := Option.some.inj (Option.some.inj e3)
  cases e4
  rw [h1]; simp
/-- an own list becomes data -/
theorem SR.freeze (r : SR K F0 H0 ρ σ H F) {i : Nat} {ds : List PyData} (e : ρ[i]? = some (.own ds)) :
    ∃ a xs F', σ[i]? = some (some (.ref a)) ∧ H a = some (.lst xs) ∧ F a = none ∧ F' = upd F a (.lst xs) ∧ Den K F' (.ref a) (.list ds) ∧ Ex F F' ∧ SR K F0 H0 (ρ.set i (.val (.list ds))) σ H F' := by
  obtain ⟨a, xs, e2, h1, h2, h3⟩ := r.sl i _ e
  have hx : Ex F (upd F a (.lst xs)) := Ex.new h2
  have den : Den K (upd F a (.lst xs)) (.ref a) (.list ds) := .lst (.inl (.inl upd_same)) (h3.mono hx)
  have oa : OwnAt ρ σ i a := ⟨⟨ds, e⟩, e2⟩
  have hl : i < ρ.length := (List.getElem?_eq_some_iff.mp e).1
  have ow : ∀ j b, OwnAt (ρ.set i (.val (.list ds))) σ j b → j ≠ i ∧ OwnAt ρ σ j b := fun j b ⟨⟨ds', e1⟩, e2⟩ => by
    by_cases hj : j = i
    · subst hj
      rw [List.getElem?_set_self hl] at e1; cases e1
    · rw [List.getElem?_set_ne (Ne.symm hj)] at e1
      exact ⟨hj, ⟨ds', e1⟩, e2⟩
  refine ⟨a, xs, _, e2, h1, h2, rfl, den, hx, ⟨r.gr.ff.trans hx, r.gr.hh, fun b u q => ?_, fun b q1 q2 => ?_, fun b ob u q1 q2 => ?_⟩, by simp [r.len], fun j s e' => ?_, fun j b o => r.own0 j b (ow j b o).2, fun j k b o1 o2 => r.sep j k b (ow j b o1).2 (ow k b o2).2⟩
  · by_cases hb : b = a
    · subst hb; rw [upd_same] at q; rw [h1]; exact q
    · rw [upd_ne hb] at q; exact r.gr.fh b u q
  · have hb : b ≠ a := fun z => q2 (z ▸ r.own0 i a oa)
    rw [upd_ne hb]; exact r.gr.nf b q1 q2
  · by_cases hb : b = a
    · subst hb; rw [upd_same] at q2; cases q2
    · rw [upd_ne hb] at q2; exact r.gr.nz b ob u q1 q2
  · by_cases hj : j = i
    · subst hj
      rw [List.getElem?_set_self hl] at e'; cases e'
      exact ⟨_, e2, den⟩
    · rw [List.getElem?_set_ne (Ne.symm hj)] at e'
      have q := r.sl j s e'
      cases s with
      | un => exact True.intro
      | adr a => exact q
      | dcK kvs => obtain ⟨b, e3, q⟩ := q; exact ⟨b, e3, hx _ _ q⟩
      | dcB kvs => obtain ⟨b, e3, q⟩ := q; exact ⟨b, e3, hx _ _ q⟩
      | val d => obtain ⟨v, e3, q⟩ := q; exact ⟨v, e3, q.mono hx⟩
      | own ds2 =>
        obtain ⟨b, ys, e3, k1, k2, k3⟩ := q
        have hb : b ≠ a := fun z => hj (r.sep j i a ⟨⟨ds2, e'⟩, z ▸ e3⟩ oa)
        exact ⟨b, ys, e3, k1, by rw [upd_ne hb]; exact k2, k3.mono hx⟩
/-- an own list is changed -/
theorem SR.change (r : SR K F0 H0 ρ σ H F) {i : Nat} {ds : List PyData} (e : ρ[i]? = some (.own ds)) {a : Addr} (e2 : σ[i]? = some (some (.ref a))) {xs : List V} {ds' : List PyData} (h : Dens K F xs ds') :
    SR K F0 H0 (ρ.set i (.own ds')) σ (upd H a (.lst xs)) F := by
  have oa : OwnAt ρ σ i a := ⟨⟨ds, e⟩, e2⟩
  obtain ⟨a', ys, e3, k1, k2, k3⟩ := r.sl i _ e
  rw [e2] at e3
  have e4 : V.ref a = V.ref a' := Option.some.inj (Option.some.inj e3)
  cases e4
  have hl : i < ρ.length := (List.getElem?_eq_some_iff.mp e).1
  have ow : ∀ j b, OwnAt (ρ.set i (.own ds')) σ j b → OwnAt ρ σ j b := fun j b ⟨⟨ds2, q1⟩, q2⟩ => by
    by_cases hj : j = i
    · subst hj; exact ⟨⟨ds, e⟩, q2⟩
    · rw [List.getElem?_set_ne (Ne.symm hj)] at q1; exact ⟨⟨ds2, q1⟩, q2⟩
  refine ⟨⟨r.gr.ff, fun b u q => ?_, fun b u q => ?_, r.gr.nf, r.gr.nz⟩, by simp [r.len], fun j s e' => ?_, fun j b o => r.own0 j b (ow j b o), fun j k b o1 o2 => r.sep j k b (ow j b o1) (ow k b o2)⟩
  · have hb : b ≠ a := fun z => by rw [z, r.own0 i a oa] at q; cases q
    rw [upd_ne hb]; exact r.gr.hh b u q
  · have hb : b ≠ a := fun z => by rw [z, k2] at q; cases q
    rw [upd_ne hb]; exact r.gr.fh b u q
  · by_cases hj : j = i
    · subst hj
      rw [List.getElem?_set_self hl] at e'; cases e'
      exact ⟨a, xs, e2, upd_same, k2, h⟩
    · rw [List.getElem?_set_ne (Ne.symm hj)] at e'
      have q := r.sl j s e'
      cases s with
      | un => exact True.intro
      | adr a => exact q
      | dcK kvs => exact q
      | dcB kvs => exact q
      | val d => exact q
      | own ds2 =>
        obtain ⟨b, zs, q3, q4, q5, q6⟩ := q
        have hb : b ≠ a := fun z => hj (r.sep j i a ⟨⟨ds2, e'⟩, z ▸ q3⟩ oa)
        exact ⟨b, zs, q3, by rw [upd_ne hb]; exact q4, q5, q6⟩
end
end DL

/-! DL2: readings by plain functions of the slots; the rules of expressions, tests, arguments. -/
namespace DL
open PySem PySem.Spec PyProof.Rows L2

/-- how an exception lies: its class by its name in the module, its own dict -/
def ExR (mg : Str → Option Value) (x : Xn) (cls : Value) (dd : Option Addr) (H F : Hp) : Prop :=
  mg x.nm = some cls ∧ ((x.fs = [] ∧ dd = none) ∨ (x.fs ≠ [] ∧ ∃ d, dd = some d ∧ H d = some (.xd x.fs) ∧ F d = none))

section
variable (mg : Str → Option Value) (K : PySem.W.Frag) (F0 H0 : Hp) (W : WX)
/-- what is left to be done with an outcome: R says what stands for what -/
def Rest {α β : Type} (R : Hp → β → α → Prop) (r : Res α) (σ : L2.St) (H F : Hp) (Q : β → Hp → Prop) : Prop :=
  match r with
  | .ok a => ∀ v H' F', Gr F H F' H' → R F' v a → Q v H'
  | .exc x => ∀ cls dd H' F', Gr F H F' H' → ExR mg x cls dd H' F' → W cls dd σ H'
  | .bad => False
def rd {α β : Type} (R : Hp → β → α → Prop) (f : Sls → Res α) : L2.St → Hp → (β → Hp → Prop) → Prop := fun σ H Q =>
  ∃ ρ F, SR K F0 H0 ρ σ H F ∧ Rest mg W R (f ρ) σ H F Q
end
abbrev REq {α : Type} : Hp → α → α → Prop := fun _ v a => v = a

section
variable {mg : Str → Option Value} {K : PySem.W.Frag} {F0 H0 : Hp} {W : WX} {α β γ δ : Type} {R : Hp → β → α → Prop} {R2 : Hp → δ → γ → Prop} {σ : L2.St} {H F H1 F1 : Hp} {ρ : Sls}
theorem Rest.grow {r : Res α} {Q : β → Hp → Prop} (g : Gr F H F1 H1) (h : Rest mg W R r σ H F Q) : Rest mg W R r σ H1 F1 Q := by
  cases r with
  | ok a => exact fun v H' F' g' r' => h v H' F' (g.trans g') r'
  | exc x => exact fun cls dd H' F' g' r' => h cls dd H' F' (g.trans g') r'
  | bad => exact h
theorem rd_step {f : Sls → Res α} {h : α → Res γ} {Q : δ → Hp → Prop} (sr : SR K F0 H0 ρ σ H F) (q : Rest mg W R2 (f ρ >>= h) σ H F Q) :
    rd mg K F0 H0 W R f σ H (fun v H1 => ∃ a F1, Gr F H F1 H1 ∧ R F1 v a ∧ SR K F0 H0 ρ σ H1 F1 ∧ Rest mg W R2 (h a) σ H1 F1 Q) := by
  refine ⟨ρ, F, sr, ?_⟩
  cases e : f ρ with
  | ok a => rw [e] at q; exact fun v H1 F1 g r => ⟨a, F1, g, r, sr.grow g, q.grow g⟩
  | exc x => rw [e] at q; exact q
  | bad => rw [e] at q; exact q
theorem Rest.imp {δ' : Type} {R' : Hp → δ' → α → Prop} {r : Res α} {Q : β → Hp → Prop} {Q' : δ' → Hp → Prop} (h : Rest mg W R r σ H F Q) (k : ∀ v H' F' a, Gr F H F' H' → R' F' v a → (∀ u H2 F2, Gr F' H' F2 H2 → R F2 u a → Q u H2) → Q' v H') : Rest mg W R' r σ H F Q' := by
  cases r with
  | ok a => exact fun v H' F' g r => k v H' F' a g r fun u H2 F2 g2 r2 => h u H2 F2 (g.trans g2) r2
  | exc x => exact h
  | bad => exact h
end

/-! ### the judgements -/
section
variable (X : Cx) (F0 H0 : Hp) (W : WX)
def DE (e : Expr) (f : Sls → Res PyData) : Prop := PE X e (rd X.mg X.K F0 H0 W (Den X.K) f)
def DT (e : Expr) (f : Sls → Res Bool) : Prop := PT X e (rd X.mg X.K F0 H0 W REq f)
def DW (e : Expr) (f : Sls → Res Bool) : Prop := PW X e (rd X.mg X.K F0 H0 W REq f)
def DA (es : List Expr) (f : Sls → Res (List PyData)) : Prop := PA X es (rd X.mg X.K F0 H0 W (Dens X.K) f)
def DO (e : Option Expr) (f : Sls → Res (Option Int)) : Prop := PO X e (rd X.mg X.K F0 H0 W REq f)
/-- a new list, kept apart -/
def nOf (mg : Str → Option Value) (K : PySem.W.Frag) (f : Sls → Res (List PyData)) : TE := fun σ H Q =>
  ∃ ρ F, SR K F0 H0 ρ σ H F ∧ match f ρ with
  | .ok ds => ∀ a xs H' F', Gr F H F' H' → H a = none → H' a = some (.lst xs) → F' a = none → Dens K F' xs ds → Q (.ref a) H'
  | .exc x => ∀ cls dd H' F', Gr F H F' H' → ExR mg x cls dd H' F' → W cls dd σ H'
  | .bad => False
def DN (e : Expr) (f : Sls → Res (List PyData)) : Prop := PE X e (nOf F0 H0 W X.mg X.K f)
end

theorem PE.imp {X : Cx} {e : Expr} {t t' : TE} (h : PE X e t) (k : ∀ σ H Q, t' σ H Q → t σ H Q) : PE X e t' := ⟨fun pins s σ H Q I q => h.run pins s σ H Q I (k σ H Q q)⟩
theorem PT.imp {X : Cx} {e : Expr} {t t' : TT} (h : PT X e t) (k : ∀ σ H Q, t' σ H Q → t σ H Q) : PT X e t' := ⟨fun pins s σ H Q I q => h.run pins s σ H Q I (k σ H Q q)⟩
theorem PW.imp {X : Cx} {e : Expr} {t t' : TT} (h : PW X e t) (k : ∀ σ H Q, t' σ H Q → t σ H Q) : PW X e t' := ⟨fun w pins s σ H Q I q => h.run w pins s σ H Q I (k σ H Q q)⟩
theorem PA.imp {X : Cx} {es : List Expr} {t t' : TA} (h : PA X es t) (k : ∀ σ H Q, t' σ H Q → t σ H Q) : PA X es t' := ⟨fun p pins s σ H Q I q => h.run p pins s σ H Q I (k σ H Q q)⟩
theorem PO.imp {X : Cx} {e : Option Expr} {t t' : TO} (h : PO X e t) (k : ∀ σ H Q, t' σ H Q → t σ H Q) : PO X e t' := ⟨fun pins s σ H Q I q => h.run pins s σ H Q I (k σ H Q q)⟩
theorem PS.imp {X : Cx} {e : Stmt} {t t' : TS} (h : PS X e t) (k : ∀ D σ H, t' D σ H → t D σ H) : PS X e t' := ⟨fun pins s σ H D I q => h.run pins s σ H D I (k D σ H q)⟩
theorem PSs.imp {X : Cx} {e : List Stmt} {t t' : TS} (h : PSs X e t) (k : ∀ D σ H, t' D σ H → t D σ H) : PSs X e t' := ⟨fun pins s σ H D I q => h.run pins s σ H D I (k D σ H q)⟩
theorem PI.imp {X : Cx} {tg e : Expr} {t t' : TI} (h : PI X tg e t) (k : ∀ σ H Q, t' σ H Q → t σ H Q) : PI X tg e t' := ⟨fun pins s σ H Q I q => h.run pins s σ H Q I (k σ H Q q)⟩

/-! ### operations on data -/
def ofO {α : Type} : Option α → Res α
  | some a => .ok a
  | none => .bad
@[simp] theorem ofO_some {α : Type} (a : α) : ofO (some a) = .ok a := nd rfl
@[simp] theorem ofO_none {α : Type} : ofO (none : Option α) = .bad := nd rfl
section
variable (K : PySem.W.Frag)
def Rop (r : Option PyData) (H F : Hp) (Q : VK) : Prop := match r with
  | some d => ∀ v H' F', Gr F H F' H' → Den K F' v d → Q v H'
  | none => False
def r2 (g : PyData → PyData → Option PyData) : R2 := fun x y H Q => ∃ a b F, Ex F H ∧ Den K F x a ∧ Den K F y b ∧ Rop K (g a b) H F Q
def r1 (g : PyData → Option PyData) : V → Hp → VK → Prop := fun x H Q => ∃ a F, Ex F H ∧ Den K F x a ∧ Rop K (g a) H F Q
def rL (g : List PyData → Option PyData) : List V → Hp → VK → Prop := fun xs H Q => ∃ as F, Ex F H ∧ Dens K F xs as ∧ Rop K (g as) H F Q
def rM (g : PyData → List PyData → Option PyData) : V → List V → Hp → VK → Prop := fun x xs H Q => ∃ a as F, Ex F H ∧ Den K F x a ∧ Dens K F xs as ∧ Rop K (g a as) H F Q
end
section
variable {mg : Str → Option Value} {K : PySem.W.Frag} {W : WX} {σ : L2.St} {H F : Hp} {Q : VK}
theorem Rest.rop {r : Option PyData} (h : Rest mg W (Den K) (ofO r) σ H F Q) : Rop K r H F Q := by
  cases r with
  | some a => exact h
  | none => exact h
theorem Rop.val {d : PyData} (e : Ex F H) {v : V} (h : Rop K (some d) H F Q) (q : Den K F v d) : Q v H := h v H F (.refl e) q
theorem Rop.newT (e : Ex F H) {xs : List V} {ds : List PyData} (h : Rop K (some (.tuple ds)) H F Q) (q : Dens K F xs ds) {p : Addr} (hp : H p = none) : Q (.ref p) (upd H p (.tup xs)) := by
  have g := Gr.new (o := .tup xs) e hp
  exact h _ _ _ g (.tup (.inl (.inl upd_same)) (q.mono g.ff))
theorem Rop.newL (e : Ex F H) {xs : List V} {ds : List PyData} (h : Rop K (some (.list ds)) H F Q) (q : Dens K F xs ds) {p : Addr} (hp : H p = none) : Q (.ref p) (upd H p (.lst xs)) := by
  have g := Gr.new (o := .lst xs) e hp
  exact h _ _ _ g (.lst (.inl (.inl upd_same)) (q.mono g.ff))
end

/-! ### the rules of expressions -/
section
variable {X : Cx} {F0 H0 : Hp} {W : WX} {pos : Pos} {a b c e : Expr} {es : List Expr} {f f1 f2 f3 : Sls → Res PyData} {t t1 t2 : Sls → Res Bool} {fs : Sls → Res (List PyData)}
def dVar (i : Nat) (ρ : Sls) : Res PyData := match ρ[i]? with
  | some (.val d) => .ok d
  | _ => .bad
theorem de_var {i : Nat} {x : Str} (h : PE X (.Name x pos) (tVar i)) : DE X F0 H0 W (.Name x pos) (dVar i) := by
  refine PE.imp h fun σ H Q ⟨ρ, F, sr, q⟩ => ?_
  unfold dVar at q
  cases e : ρ[i]? with
  | none => rw [e] at q; exact q.elim
  | some s =>
    rw [e] at q
    cases s with
    | val d =>
      obtain ⟨v, e2, dn⟩ := sr.sl i _ e
      exact ⟨v, e2, q v H F (.refl sr.ex) dn⟩
    | un => exact q.elim
    | adr a => exact q.elim
    | dcK kvs => exact q.elim
    | dcB kvs => exact q.elim
    | own ds => exact q.elim
theorem de_c {v : V} {d : PyData} (h : PE X e (tC v)) (hd : ∀ F, Den X.K F v d) : DE X F0 H0 W e (fun _ => .ok d) :=
  PE.imp h fun σ H Q ⟨ρ, F, sr, q⟩ => q v H F (.refl sr.ex) (hd F)
theorem de_int {i j} : DE X F0 H0 W (.Constant (.int i) j pos) (fun _ => .ok (.int i)) := de_c pe_int fun _ => .int i
theorem de_bl {b j} : DE X F0 H0 W (.Constant (.bool b) j pos) (fun _ => .ok (.bool b)) := de_c pe_bl fun _ => .bl b
theorem de_non {j} : DE X F0 H0 W (.Constant .none j pos) (fun _ => .ok .none) := de_c pe_non fun _ => .non
theorem de_str {x j} : DE X F0 H0 W (.Constant (.str x) j pos) (fun _ => .ok (.str x)) := de_c pe_str fun _ => .str x
theorem de_glob {x : Str} {v : V} {u : Value} {d : PyData} (hg : Gl X x) (hm : X.mg x = some u) (r : RelV v u) (hd : ∀ F, Den X.K F v d) (h : (x == ("__debug__" : Str)) = false := by decide) : DE X F0 H0 W (.Name x pos) (fun _ => .ok d) :=
  de_c (pe_glob hg hm r h) hd

/-- two operands, then an operation on their values -/
theorem two {g : PyData → PyData → Option PyData} {σ : L2.St} {H : Hp} {Q : VK} (h : rd X.mg X.K F0 H0 W (Den X.K) (fun ρ => f1 ρ >>= fun x => f2 ρ >>= fun y => ofO (g x y)) σ H Q) :
    tOp (r2 X.K g) (rd X.mg X.K F0 H0 W (Den X.K) f1) (rd X.mg X.K F0 H0 W (Den X.K) f2) σ H Q := by
  obtain ⟨ρ, F, sr, q⟩ := h
  obtain ⟨ρ1, F1, sr1, q1⟩ := rd_step (R := Den X.K) sr q
  refine ⟨ρ1, F1, sr1, q1.imp fun v H1 F2 a g1 r1 k => ?_⟩
  obtain ⟨a', F3, g3, r3, sr3, q3⟩ := k v H1 F2 (.refl g1.fh) r1
  obtain ⟨ρ4, F4, sr4, q4⟩ := rd_step (R := Den X.K) sr3 q3
  refine ⟨ρ4, F4, sr4, q4.imp fun u H5 F5 b g5 r5 k5 => ?_⟩
  obtain ⟨b', F6, g6, r6, sr6, q6⟩ := k5 u H5 F5 (.refl g5.fh) r5
  exact ⟨a', b', F6, sr6.ex, r3.mono g6.ff, r6, q6.rop⟩
def d2 (g : PyData → PyData → Option PyData) (f1 f2 : Sls → Res PyData) (ρ : Sls) : Res PyData := f1 ρ >>= fun x => f2 ρ >>= fun y => ofO (g x y)
def d1 (g : PyData → Option PyData) (f1 : Sls → Res PyData) (ρ : Sls) : Res PyData := f1 ρ >>= fun x => ofO (g x)
theorem de_bin {op : Operator} {g : PyData → PyData → Option PyData} (ho : OpR X (binaryOp op) (r2 X.K g)) (ha : DE X F0 H0 W a f1) (hb : DE X F0 H0 W b f2) : DE X F0 H0 W (.BinOp a op b pos) (d2 g f1 f2) :=
  PE.imp (pe_op ho ha hb) fun _ _ _ h => two h
theorem de_cmp {op : CmpOp} {g : PyData → PyData → Option PyData} (ho : OpR X (compareOp op) (r2 X.K g)) (ha : DE X F0 H0 W a f1) (hb : DE X F0 H0 W b f2) (hm : behindInMarks op b = false) : DE X F0 H0 W (.Compare a [op] [b] pos) (d2 g f1 f2) :=
  PE.imp (pe_cmpR ho ha hb hm) fun _ _ _ h => two h
theorem de_ix {g : PyData → PyData → Option PyData} (ho : IxR X (r2 X.K g)) (ha : DE X F0 H0 W a f1) (hb : DE X F0 H0 W b f2) (hs : PlainIx b) : DE X F0 H0 W (.Subscript a b pos) (d2 g f1 f2) :=
  PE.imp (pe_ix ho ha hb hs) fun _ _ _ h => two h
theorem one {g : PyData → Option PyData} {σ : L2.St} {H : Hp} {Q : VK} (h : rd X.mg X.K F0 H0 W (Den X.K) (d1 g f1) σ H Q) : tUn (r1 X.K g) (rd X.mg X.K F0 H0 W (Den X.K) f1) σ H Q := by
  obtain ⟨ρ, F, sr, q⟩ := h
  obtain ⟨ρ1, F1, sr1, q1⟩ := rd_step (R := Den X.K) sr q
  refine ⟨ρ1, F1, sr1, q1.imp fun v H1 F2 a g1 r1 k => ?_⟩
  obtain ⟨a', F3, g3, r3, sr3, q3⟩ := k v H1 F2 (.refl g1.fh) r1
  exact ⟨a', F3, sr3.ex, r3, q3.rop⟩
theorem de_un {op : UnaryOp} {g : PyData → Option PyData} (ho : UnR X (unaryOp op) (r1 X.K g)) (ha : DE X F0 H0 W a f1) : DE X F0 H0 W (.UnaryOp op a pos) (d1 g f1) :=
  PE.imp (pe_un ho ha) fun _ _ _ h => one h

/-! arguments -/
theorem da_nil : DA X F0 H0 W [] (fun _ => .ok []) := PA.imp pa_nil fun σ H Q ⟨ρ, F, sr, q⟩ => q [] H F (.refl sr.ex) .nil
def dCons (f : Sls → Res PyData) (fs : Sls → Res (List PyData)) (ρ : Sls) : Res (List PyData) := f ρ >>= fun x => fs ρ >>= fun xs => .ok (x :: xs)
theorem da_cons (ha : DE X F0 H0 W e f) (hr : DA X F0 H0 W es fs) (hs : starEach (e :: es) X.env = (false, eval e X.env) :: starEach es X.env := by rfl) : DA X F0 H0 W (e :: es) (dCons f fs) := by
  refine PA.imp (pa_cons ha hr hs) fun σ H Q ⟨ρ, F, sr, q⟩ => ?_
  obtain ⟨ρ1, F1, sr1, q1⟩ := rd_step (R := Den X.K) sr q
  refine ⟨ρ1, F1, sr1, q1.imp fun v H1 F2 a g1 r1 k => ?_⟩
  obtain ⟨a', F3, g3, r3, sr3, q3⟩ := k v H1 F2 (.refl g1.fh) r1
  obtain ⟨ρ4, F4, sr4, q4⟩ := rd_step (R := Dens X.K) sr3 q3
  refine ⟨ρ4, F4, sr4, q4.imp fun u H5 F5 b g5 r5 k5 => ?_⟩
  obtain ⟨b', F6, g6, r6, sr6, q6⟩ := k5 u H5 F5 (.refl g5.fh) r5
  exact q6 _ _ F6 (.refl sr6.ex) (.cons (r3.mono g6.ff) r6)
def dL (g : List PyData → Option PyData) (fs : Sls → Res (List PyData)) (ρ : Sls) : Res PyData := fs ρ >>= fun xs => ofO (g xs)
theorem manyArgs {g : List PyData → Option PyData} {σ : L2.St} {H : Hp} {Q : VK} (h : rd X.mg X.K F0 H0 W (Den X.K) (dL g fs) σ H Q) : tCB (rL X.K g) (rd X.mg X.K F0 H0 W (Dens X.K) fs) σ H Q := by
  obtain ⟨ρ, F, sr, q⟩ := h
  obtain ⟨ρ1, F1, sr1, q1⟩ := rd_step (R := Dens X.K) sr q
  refine ⟨ρ1, F1, sr1, q1.imp fun v H1 F2 a g1 r1 k => ?_⟩
  obtain ⟨a', F3, g3, r3, sr3, q3⟩ := k v H1 F2 (.refl g1.fh) r1
  exact ⟨a', F3, sr3.ex, r3, q3.rop⟩
theorem de_callB {x : Str} {p : Pos} {id : String} {g : List PyData → Option PyData} (hc : CallR X (.builtin id) (rL X.K g)) (hg : Gl X x) (hm : X.mg x = none) (hv : bootBuiltins x = some (.builtin id)) (ha : DA X F0 H0 W (e :: es) fs) (hn : x ≠ "__name__" := by decide) (hdb : (x == ("__debug__" : Str)) = false := by decide)
    (he : starEach (e :: es) X.env = (false, eval e X.env) :: starEach es X.env := by rfl) (hpl : (backTo pos (starEach es X.env)).any (·.1) = false := by rfl) : DE X F0 H0 W (.Call (.Name x p) (e :: es) [] pos) (dL g fs) :=
  PE.imp (pe_callB hc hg hm hv ha hn hdb he hpl) fun _ _ _ h => manyArgs h
theorem de_callTy {x : Str} {p : Pos} {T : String} {g : List PyData → Option PyData} (hc : CallR X (.type T) (rL X.K g)) (hg : Gl X x) (hm : X.mg x = none) (hv : bootBuiltins x = some (.type T)) (ha : DA X F0 H0 W (e :: es) fs) (hn : x ≠ "__name__" := by decide) (hdb : (x == ("__debug__" : Str)) = false := by decide)
    (he : starEach (e :: es) X.env = (false, eval e X.env) :: starEach es X.env := by rfl) (hpl : (backTo pos (starEach es X.env)).any (·.1) = false := by rfl) : DE X F0 H0 W (.Call (.Name x p) (e :: es) [] pos) (dL g fs) :=
  PE.imp (pe_callTy hc hg hm hv ha hn hdb he hpl) fun _ _ _ h => manyArgs h
theorem de_tup {x1} (h : DA X F0 H0 W es fs) : DE X F0 H0 W (.Tuple es x1 pos) (dL (fun ds => if ds.length ≤ 1000 then some (.tuple ds) else none) fs) := by
  refine PE.imp (pe_tup h) fun σ H Q ⟨ρ, F, sr, q⟩ => ?_
  obtain ⟨ρ1, F1, sr1, q1⟩ := rd_step (R := Dens X.K) sr q
  refine ⟨ρ1, F1, sr1, q1.imp fun v H1 F2 a g1 r1 k => ?_⟩
  obtain ⟨a', F3, g3, r3, sr3, q3⟩ := k v H1 F2 (.refl g1.fh) r1
  have q4 := q3.rop
  have hl := r3.length
  by_cases hz : a'.length ≤ 1000
  · simp only [hz, if_true] at q4
    exact ⟨by rw [hl]; exact Nat.le_trans hz (by decide), fun p hp => q4.newT sr3.ex r3 hp⟩
  · simp only [hz, if_false] at q4
    exact q4.elim
theorem dn_lst (h : DA X F0 H0 W es fs) : DN X F0 H0 W (.List es pos) (fun ρ => fs ρ >>= fun ds => if ds.length ≤ 1000 then .ok ds else .bad) := by
  refine PE.imp (pe_lst h) fun σ H Q ⟨ρ, F, sr, q⟩ => ?_
  refine ⟨ρ, F, sr, ?_⟩
  cases e : fs ρ with
  | ok ds =>
    simp only [e, bind_ok] at q
    intro v H1 F1 g1 r1
    have hl := r1.length
    by_cases hz : ds.length ≤ 1000
    · simp only [hz, if_true] at q
      refine ⟨by rw [hl]; exact Nat.le_trans hz (by decide), fun p hp => ?_⟩
      have hp0 : H p = none := not_of_none g1.hh hp
      exact q p v _ F1 (g1.trans (Gr.newO g1.fh hp)) hp0 upd_same (not_of_none g1.fh hp) r1
    · simp only [hz, if_false] at q
  | exc x => simp only [e, bind_exc] at q; exact q
  | bad => simp only [e, bind_bad] at q
/-- a new list as data -/
theorem DN.de {fs : Sls → Res (List PyData)} (h : DN X F0 H0 W e fs) : DE X F0 H0 W e (fun ρ => fs ρ >>= fun ds => .ok (.list ds)) := by
  refine PE.imp h fun σ H Q ⟨ρ, F, sr, q⟩ => ⟨ρ, F, sr, ?_⟩
  cases e : fs ρ with
  | ok ds =>
    simp only [e, bind_ok] at q
    intro a xs H1 F1 g1 ha hx hF dn
    have hx1 : Ex F1 (upd F1 a (.lst xs)) := Ex.new hF
    refine q (.ref a) H1 (upd F1 a (.lst xs)) ⟨g1.ff.trans hx1, g1.hh, fun b u z => ?_, fun b z1 z2 => ?_, fun b ob u z1 z2 => ?_⟩ (.lst (.inl (.inl upd_same)) (dn.mono hx1))
    · by_cases hb : b = a
      · subst hb; rw [upd_same] at z; rw [hx]; exact z
      · rw [upd_ne hb] at z; exact g1.fh b u z
    · have hb : b ≠ a := fun z => z2 (z ▸ ha)
      rw [upd_ne hb]; exact g1.nf b z1 z2
    · by_cases hb : b = a
      · subst hb; rw [upd_same] at z2; cases z2
      · rw [upd_ne hb] at z2; exact g1.nz b ob u z1 z2
  | exc x => simp only [e, bind_exc] at q; exact q
  | bad => simp only [e, bind_bad] at q; exact q

/-! ### tests -/
def asB : PyData → Option Bool
  | .bool b => some b
  | _ => none
/-- a value that is a bool, as a test -/
theorem rdB {σ : L2.St} {H : Hp} {Q : Bool → Hp → Prop} (h : rd X.mg X.K F0 H0 W REq (fun ρ => f ρ >>= fun d => ofO (asB d)) σ H Q) :
    rd X.mg X.K F0 H0 W (Den X.K) f σ H fun x H1 => ∃ k, x = .bl k ∧ Q k H1 := by
  obtain ⟨ρ, F, sr, q⟩ := h
  obtain ⟨ρ1, F1, sr1, q1⟩ := rd_step (R := Den X.K) sr q
  refine ⟨ρ1, F1, sr1, q1.imp fun v H1 F2 d g1 r1 k => ?_⟩
  obtain ⟨a', F3, g3, r3, sr3, q3⟩ := k v H1 F2 (.refl g1.fh) r1
  cases r3 with
  | bl b => exact ⟨b, rfl, q3 b H1 F3 (.refl sr3.ex) rfl⟩
  | _ => exact q3.elim
def dB (f : Sls → Res PyData) (ρ : Sls) : Res Bool := f ρ >>= fun d => ofO (asB d)
theorem dt_val (h : DE X F0 H0 W e f) (he : ∀ whole, isTrue e X.env whole = (do let v ← whole; standAt e.pos; holding [v] (truthy v)) := by intro _; rfl) : DT X F0 H0 W e (dB f) :=
  PT.imp (pt_val h he) fun _ _ _ q => rdB q
theorem dt_cmp {op : CmpOp} {g : PyData → PyData → Option PyData} (ho : OpR X (compareOp op) (r2 X.K g)) (ha : DE X F0 H0 W a f1) (hb : DE X F0 H0 W b f2) (hm : behindInMarks op b = false) : DT X F0 H0 W (.Compare a [op] [b] pos) (dB (d2 g f1 f2)) := by
  refine PT.imp (pt_cmpR ho ha hb hm) fun σ H Q q => ?_
  have q2 := rdB (f := d2 g f1 f2) q
  exact two q2
def truD : PyData → Option Bool
  | .none => some false
  | .bool b => some b
  | .int i => some (i != 0)
  | .str x => if x.length ≤ 16777216 then some ((x.length : Int) != 0) else none
  | .list xs => some (!xs.isEmpty)
  | .tuple xs => some (!xs.isEmpty)
  | .dict kvs => some (!kvs.isEmpty)
theorem empty_dens {K : PySem.W.Frag} {F : Hp} {vs : List V} {ds : List PyData} (h : Dens K F vs ds) : vs.isEmpty = ds.isEmpty := by cases h <;> rfl
theorem empty_denkv {K : PySem.W.Frag} {F : Hp} {vs : List (Key × V)} {ds : List (PyData × PyData)} (h : DenKV K F vs ds) : vs.isEmpty = ds.isEmpty := by cases h <;> rfl
theorem line24 : sizeLine = 16777216 := sizeLine_eq
theorem Den.tru {K : PySem.W.Frag} {F H : Hp} (e : Ex F H) {v : V} {d : PyData} {k : Bool} (h : Den K F v d) (q : truD d = some k) : TruV K v H k := by
  cases h with
  | non => cases q; exact rfl
  | bl b => cases q; exact rfl
  | int i => cases q; exact rfl
  | str x =>
    have q' : (if x.length ≤ 16777216 then some ((x.length : Int) != 0) else none) = some k := q
    by_cases hz : x.length ≤ 16777216
    · rw [if_pos hz] at q'
      cases q'
      exact ⟨by rw [line24]; exact hz, rfl⟩
    · rw [if_neg hz] at q'
      cases q'
  | lst h r => cases q; exact .inl ⟨_, e.sl h, by rw [empty_dens r]⟩
  | tup h r => cases q; exact .inr (.inl ⟨_, e.st h, by rw [empty_dens r]⟩)
  | dic h r => cases q; exact .inr (.inr ⟨_, e _ _ h, by rw [empty_denkv r]⟩)
def dTru (f : Sls → Res PyData) (ρ : Sls) : Res Bool := f ρ >>= fun d => ofO (truD d)
theorem dt_truth (h : DE X F0 H0 W e f) (he : ∀ whole, isTrue e X.env whole = (do let v ← whole; standAt e.pos; holding [v] (truthy v)) := by intro _; rfl) : DT X F0 H0 W e (dTru f) := by
  refine PT.imp (pt_truth h he) fun σ H Q ⟨ρ, F, sr, q⟩ => ?_
  obtain ⟨ρ1, F1, sr1, q1⟩ := rd_step (R := Den X.K) sr q
  refine ⟨ρ1, F1, sr1, q1.imp fun v H1 F2 d g1 r1 k => ?_⟩
  obtain ⟨a', F3, g3, r3, sr3, q3⟩ := k v H1 F2 (.refl g1.fh) r1
  cases e : truD a' with
  | none => rw [e] at q3; exact q3.elim
  | some k => rw [e] at q3; exact ⟨k, r3.tru sr3.ex e, q3 k H1 F3 (.refl sr3.ex) rfl⟩
def dNot (t : Sls → Res Bool) (ρ : Sls) : Res Bool := t ρ >>= fun b => .ok (!b)
def dAnd (t1 t2 : Sls → Res Bool) (ρ : Sls) : Res Bool := t1 ρ >>= fun b => if b = true then t2 ρ else .ok false
def dOr (t1 t2 : Sls → Res Bool) (ρ : Sls) : Res Bool := t1 ρ >>= fun b => if b = true then .ok true else t2 ρ
theorem dt_not (ha : DT X F0 H0 W a t1) : DT X F0 H0 W (.UnaryOp .Not a pos) (dNot t1) := by
  refine PT.imp (pt_not ha) fun σ H Q ⟨ρ, F, sr, q⟩ => ?_
  obtain ⟨ρ1, F1, sr1, q1⟩ := rd_step (R := REq) sr q
  refine ⟨ρ1, F1, sr1, q1.imp fun v H1 F2 d g1 r1 k => ?_⟩
  obtain ⟨a', F3, g3, rfl, sr3, q3⟩ := k v H1 F2 (.refl g1.fh) r1
  exact q3 _ H1 F3 (.refl sr3.ex) rfl
theorem dw_and1 (ha : DT X F0 H0 W a t1) : DW X F0 H0 W (.BoolOp .And [a] pos) t1 := pw_and1 ha
theorem dw_or1 (ha : DT X F0 H0 W a t1) : DW X F0 H0 W (.BoolOp .Or [a] pos) t1 := pw_or1 ha
theorem dw_and {rest : List Expr} (ha : DT X F0 H0 W a t1) (hb : DW X F0 H0 W (.BoolOp .And (b :: rest) pos) t2) : DW X F0 H0 W (.BoolOp .And (a :: b :: rest) pos) (dAnd t1 t2) := by
  refine PW.imp (pw_and ha hb) fun σ H Q ⟨ρ, F, sr, q⟩ => ?_
  refine ⟨ρ, F, sr, ?_⟩
  unfold dAnd at q
  cases e : t1 ρ with
  | ok b' =>
    simp only [e, bind_ok] at q
    intro v H1 F1 g1 r1
    obtain rfl : v = b' := r1
    cases v with
    | true => simp only [if_true] at q ⊢; exact ⟨ρ, F1, sr.grow g1, q.grow g1⟩
    | false => simp only [Bool.false_eq_true, if_false] at q ⊢; exact q false H1 F1 g1 rfl
  | exc x => simp only [e, bind_exc] at q; exact q
  | bad => simp only [e, bind_bad] at q; exact q
theorem dw_or {rest : List Expr} (ha : DT X F0 H0 W a t1) (hb : DW X F0 H0 W (.BoolOp .Or (b :: rest) pos) t2) : DW X F0 H0 W (.BoolOp .Or (a :: b :: rest) pos) (dOr t1 t2) := by
  refine PW.imp (pw_or ha hb) fun σ H Q ⟨ρ, F, sr, q⟩ => ?_
  refine ⟨ρ, F, sr, ?_⟩
  unfold dOr at q
  cases e : t1 ρ with
  | ok b' =>
    simp only [e, bind_ok] at q
    intro v H1 F1 g1 r1
    obtain rfl : v = b' := r1
    cases v with
    | false => simp only [Bool.false_eq_true, if_false] at q ⊢; exact ⟨ρ, F1, sr.grow g1, q.grow g1⟩
    | true => simp only [if_true] at q ⊢; exact q true H1 F1 g1 rfl
  | exc x => simp only [e, bind_exc] at q; exact q
  | bad => simp only [e, bind_bad] at q; exact q
theorem DW.dt (h : DW X F0 H0 W e t) : DT X F0 H0 W e t := PW.pt h

/-! values of and, or, not, if -/
def dIf (t : Sls → Res Bool) (f1 f2 : Sls → Res PyData) (ρ : Sls) : Res PyData := t ρ >>= fun b => if b = true then f1 ρ else f2 ρ
theorem de_ifExp (hc : DT X F0 H0 W c t) (ha : DE X F0 H0 W a f1) (hb : DE X F0 H0 W b f2) : DE X F0 H0 W (.IfExp c a b pos) (dIf t f1 f2) := by
  refine PE.imp (pe_ifExp hc ha hb) fun σ H Q ⟨ρ, F, sr, q⟩ => ?_
  refine ⟨ρ, F, sr, ?_⟩
  unfold dIf at q
  cases e : t ρ with
  | ok b' =>
    simp only [e, bind_ok] at q
    intro v H1 F1 g1 r1
    obtain rfl : v = b' := r1
    cases v with
    | false => simp only [Bool.false_eq_true, if_false] at q ⊢; exact ⟨ρ, F1, sr.grow g1, q.grow g1⟩
    | true => simp only [if_true] at q ⊢; exact ⟨ρ, F1, sr.grow g1, q.grow g1⟩
  | exc x => simp only [e, bind_exc] at q; exact q
  | bad => simp only [e, bind_bad] at q; exact q
/-- x and y, x or y as values, by truth -/
def dAndV (f1 f2 : Sls → Res PyData) (ρ : Sls) : Res PyData := f1 ρ >>= fun d => ofO (truD d) >>= fun b => if b = true then f2 ρ else .ok d
def dOrV (f1 f2 : Sls → Res PyData) (ρ : Sls) : Res PyData := f1 ρ >>= fun d => ofO (truD d) >>= fun b => if b = true then .ok d else f2 ρ
theorem de_one {op} (h : DE X F0 H0 W a f) : DE X F0 H0 W (.BoolOp op [a] pos) f := pe_one h
theorem de_and {rest : List Expr} (ha : DE X F0 H0 W a f1) (hb : DE X F0 H0 W (.BoolOp .And (b :: rest) pos) f2) : DE X F0 H0 W (.BoolOp .And (a :: b :: rest) pos) (dAndV f1 f2) := by
  refine PE.imp (pe_andT ha hb) fun σ H Q ⟨ρ, F, sr, q⟩ => ⟨ρ, F, sr, ?_⟩
  unfold dAndV at q
  cases e : f1 ρ with
  | ok d =>
    simp only [e, bind_ok] at q
    intro v H1 F1 g1 r1
    cases e2 : truD d with
    | none => simp only [e2, ofO_none, bind_bad] at q; exact q.elim
    | some k =>
      simp only [e2, ofO_some, bind_ok] at q
      refine ⟨k, r1.tru g1.fh e2, ?_⟩
      cases k with
      | true => simp only [if_true] at q ⊢; exact ⟨ρ, F1, sr.grow g1, q.grow g1⟩
      | false => simp only [Bool.false_eq_true, if_false] at q ⊢; exact q v H1 F1 g1 r1
  | exc x => simp only [e, bind_exc] at q; exact q
  | bad => simp only [e, bind_bad] at q; exact q
theorem de_or {rest : List Expr} (ha : DE X F0 H0 W a f1) (hb : DE X F0 H0 W (.BoolOp .Or (b :: rest) pos) f2) : DE X F0 H0 W (.BoolOp .Or (a :: b :: rest) pos) (dOrV f1 f2) := by
  refine PE.imp (pe_orT ha hb) fun σ H Q ⟨ρ, F, sr, q⟩ => ⟨ρ, F, sr, ?_⟩
  unfold dOrV at q
  cases e : f1 ρ with
  | ok d =>
    simp only [e, bind_ok] at q
    intro v H1 F1 g1 r1
    cases e2 : truD d with
    | none => simp only [e2, ofO_none, bind_bad] at q; exact q.elim
    | some k =>
      simp only [e2, ofO_some, bind_ok] at q
      refine ⟨k, r1.tru g1.fh e2, ?_⟩
      cases k with
      | false => simp only [Bool.false_eq_true, if_false] at q ⊢; exact ⟨ρ, F1, sr.grow g1, q.grow g1⟩
      | true => simp only [if_true] at q ⊢; exact q v H1 F1 g1 r1
  | exc x => simp only [e, bind_exc] at q; exact q
  | bad => simp only [e, bind_bad] at q; exact q
theorem de_not (ha : DE X F0 H0 W a f1) : DE X F0 H0 W (.UnaryOp .Not a pos) (d1 (fun d => (truD d).map fun b => .bool (!b)) f1) := by
  refine PE.imp (pe_notT ha) fun σ H Q ⟨ρ, F, sr, q⟩ => ?_
  obtain ⟨ρ1, F1, sr1, q1⟩ := rd_step (R := Den X.K) sr q
  refine ⟨ρ1, F1, sr1, q1.imp fun v H1 F2 d g1 r1 k => ?_⟩
  obtain ⟨a', F3, g3, r3, sr3, q3⟩ := k v H1 F2 (.refl g1.fh) r1
  cases e : truD a' with
  | none => simp only [e, Option.map_none] at q3; exact q3.elim
  | some k => simp only [e, Option.map_some] at q3; exact ⟨k, r3.tru sr3.ex e, q3 _ H1 F3 (.refl sr3.ex) (.bl _)⟩
/-- a < b < c -/
def dChain (g g' : PyData → PyData → Option PyData) (f1 f2 f3 : Sls → Res PyData) (ρ : Sls) : Res PyData :=
  f1 ρ >>= fun x => f2 ρ >>= fun y => ofO ((g x y).bind asB) >>= fun k => if k = true then f3 ρ >>= fun z => ofO (g' y z) else .ok (.bool false)
theorem chain {g g' : PyData → PyData → Option PyData} {σ : L2.St} {H : Hp} {Q : VK} (h : rd X.mg X.K F0 H0 W (Den X.K) (dChain g g' f1 f2 f3) σ H Q) :
    tChain (r2 X.K g) (r2 X.K g') (rd X.mg X.K F0 H0 W (Den X.K) f1) (rd X.mg X.K F0 H0 W (Den X.K) f2) (rd X.mg X.K F0 H0 W (Den X.K) f3) σ H Q := by
  obtain ⟨ρ, F, sr, q⟩ := h
  obtain ⟨ρ1, F1, sr1, q1⟩ := rd_step (R := Den X.K) sr q
  refine ⟨ρ1, F1, sr1, q1.imp fun v H1 F2 a g1 r1 k => ?_⟩
  obtain ⟨a', F3, g3, r3, sr3, q3⟩ := k v H1 F2 (.refl g1.fh) r1
  obtain ⟨ρ4, F4, sr4, q4⟩ := rd_step (R := Den X.K) sr3 q3
  refine ⟨ρ4, F4, sr4, q4.imp fun u H5 F5 b g5 r5 k5 => ?_⟩
  obtain ⟨b', F6, g6, r6, sr6, q6⟩ := k5 u H5 F5 (.refl g5.fh) r5
  refine ⟨a', b', F6, sr6.ex, r3.mono g6.ff, r6, ?_⟩
  cases e : g a' b' with
  | none => simp only [e, Option.bind_none, ofO_none, bind_bad] at q6; exact q6.elim
  | some d =>
    simp only [e, Option.bind_some] at q6
    intro w H7 F7 g7 r7
    cases r7 with
    | bl k =>
      simp only [asB, ofO_some, bind_ok] at q6
      refine ⟨k, rfl, ?_⟩
      cases k with
      | false => simp only [Bool.false_eq_true, if_false] at q6 ⊢; exact q6 _ _ F7 g7 (.bl false)
      | true =>
        simp only [if_true] at q6 ⊢
        obtain ⟨ρ8, F8, sr8, q8⟩ := rd_step (R := Den X.K) (sr6.grow g7) (q6.grow g7)
        refine ⟨ρ8, F8, sr8, q8.imp fun z H9 F9 c g9 r9 k9 => ?_⟩
        obtain ⟨c', FA, gA, rA, srA, qA⟩ := k9 z H9 F9 (.refl g9.fh) r9
        exact ⟨b', c', FA, srA.ex, (r6.mono g7.ff).mono gA.ff, rA, qA.rop⟩
    | _ => exact q6.elim
theorem de_chain {op op' : CmpOp} {g g' : PyData → PyData → Option PyData} (ho : OpR X (compareOp op) (r2 X.K g)) (ho' : OpR X (compareOp op') (r2 X.K g')) (ha : DE X F0 H0 W a f1) (hb : DE X F0 H0 W b f2) (hc : DE X F0 H0 W c f3)
    (hm : lastMarks [op, op'] [b, c] = false := by with_unfolding_all rfl) : DE X F0 H0 W (.Compare a [op, op'] [b, c] pos) (dChain g g' f1 f2 f3) := PE.imp (pe_chain ho ho' ha hb hc hm) fun _ _ _ h => chain h
theorem dt_chain {op op' : CmpOp} {g g' : PyData → PyData → Option PyData} (ho : OpR X (compareOp op) (r2 X.K g)) (ho' : OpR X (compareOp op') (r2 X.K g')) (ha : DE X F0 H0 W a f1) (hb : DE X F0 H0 W b f2) (hc : DE X F0 H0 W c f3)
    (hm : lastMarks [op, op'] [b, c] = false := by with_unfolding_all rfl) : DT X F0 H0 W (.Compare a [op, op'] [b, c] pos) (dB (dChain g g' f1 f2 f3)) := by
  refine PT.imp (pt_chain ho ho' ha hb hc hm) fun σ H Q q => ?_
  have q2 := rdB (f := dChain g g' f1 f2 f3) q
  exact chain q2
/-! slices -/
theorem do_none : DO X F0 H0 W none (fun _ => .ok none) := PO.imp po_none fun σ H Q ⟨ρ, F, sr, q⟩ => q none H F (.refl sr.ex) rfl
def asI : PyData → Option Int
  | .int i => some i
  | _ => none
theorem do_some (h : DE X F0 H0 W e f) : DO X F0 H0 W (some e) (fun ρ => f ρ >>= fun d => ofO ((asI d).map some)) := by
  refine PO.imp (po_some h) fun σ H Q ⟨ρ, F, sr, q⟩ => ?_
  obtain ⟨ρ1, F1, sr1, q1⟩ := rd_step (R := Den X.K) sr q
  refine ⟨ρ1, F1, sr1, q1.imp fun v H1 F2 d g1 r1 k => ?_⟩
  obtain ⟨a', F3, g3, r3, sr3, q3⟩ := k v H1 F2 (.refl g1.fh) r1
  cases r3 with
  | int i => exact ⟨i, rfl, q3 _ H1 F3 (.refl sr3.ex) rfl⟩
  | _ => exact q3.elim
def rS (K : PySem.W.Frag) (g : PyData → Option Int → Option Int → Option PyData) : V → Option Int → Option Int → Hp → VK → Prop := fun x lo hi H Q => ∃ a F, Ex F H ∧ Den K F x a ∧ Rop K (g a lo hi) H F Q
def dSl (g : PyData → Option Int → Option Int → Option PyData) (f : Sls → Res PyData) (l u : Sls → Res (Option Int)) (ρ : Sls) : Res PyData := f ρ >>= fun x => l ρ >>= fun i => u ρ >>= fun j => ofO (g x i j)
theorem de_slice {g : PyData → Option Int → Option Int → Option PyData} {lo hi : Option Expr} {p2 : Pos} {l u : Sls → Res (Option Int)} (hr : SlR X (rS X.K g)) (he : DE X F0 H0 W e f) (hl : DO X F0 H0 W lo l) (hu : DO X F0 H0 W hi u) : DE X F0 H0 W (.Subscript e (.Slice lo hi none p2) pos) (dSl g f l u) := by
  refine PE.imp (pe_slice hr he hl hu) fun σ H Q ⟨ρ, F, sr, q⟩ => ?_
  obtain ⟨ρ1, F1, sr1, q1⟩ := rd_step (R := Den X.K) sr q
  refine ⟨ρ1, F1, sr1, q1.imp fun v H1 F2 d g1 r1 k => ?_⟩
  obtain ⟨a', F3, g3, r3, sr3, q3⟩ := k v H1 F2 (.refl g1.fh) r1
  obtain ⟨ρ4, F4, sr4, q4⟩ := rd_step (R := REq) sr3 q3
  refine ⟨ρ4, F4, sr4, q4.imp fun i H5 F5 b g5 r5 k5 => ?_⟩
  obtain ⟨b', F6, g6, rfl, sr6, q6⟩ := k5 i H5 F5 (.refl g5.fh) r5
  obtain ⟨ρ7, F7, sr7, q7⟩ := rd_step (R := REq) sr6 q6
  refine ⟨ρ7, F7, sr7, q7.imp fun j H8 F8 c g8 r8 k8 => ?_⟩
  obtain ⟨c', F9, g9, rfl, sr9, q9⟩ := k8 j H8 F8 (.refl g8.fh) r8
  exact ⟨a', F9, sr9.ex, (r3.mono g6.ff).mono g9.ff, q9.rop⟩
end
end DL

/-! DL3: operations on data. -/
namespace DL
open PySem PySem.Spec PyProof.Rows L2
section
variable {X : Cx}
theorem z24 {n : Nat} (h : n ≤ 16777216) : n ≤ sizeLine := by rw [line24]; exact h

/-! ### + -/
def addD : PyData → PyData → Option PyData
  | .int i, .int j => some (.int (i + j))
  | .str x, .str y => if x.length + y.length ≤ 16777216 then some (.str (x ++ y)) else none
  | .list x, .list y => if x.length + y.length ≤ 16777216 then some (.list (x ++ y)) else none
  | .tuple x, .tuple y => if x.length + y.length ≤ 16777216 then some (.tuple (x ++ y)) else none
  | _, _ => none
/-- list + list, whatever holds them -/
theorem op_catS : OpR X (binaryOp .Add) (fun x y H Q => ∃ l b xs ys, x = .ref l ∧ y = .ref b ∧ SqL X.K H l xs ∧ SqL X.K H b ys ∧ xs.length + ys.length ≤ sizeLine ∧ ∀ p, H p = none → Q (.ref p) (upd H p (.lst (xs ++ ys)))) := by
  intro pins s σ H x y v u Q I rx ry h
  obtain ⟨l, b, xs, ys, rfl, rfl, hH, hB, hz, q⟩ := h
  cases rx
  cases ry
  obtain ⟨its, r1, pl1, _⟩ := I.list hH
  obtain ⟨its2, r2, pl2, _⟩ := I.list hB
  obtain ⟨⟨cls, dd, data, sl⟩, ho, hc, n, hd⟩ := id pl1.isList
  obtain ⟨⟨cls2, dd2, data2, sl2⟩, ho2, hc2, n2, hd2⟩ := id pl2.isList
  simp only at hc hd hc2 hd2
  subst hc hd hc2 hd2
  have e : its.toArray ++ its2.toArray = (its ++ its2).toArray := by simp
  have hl1 := r1.length
  have hl2 := r2.length
  refine concat_meets ⟨_, ho, rfl⟩ ⟨_, ho2, rfl⟩ noFill_list_add seq_list_add PySem.F.slot_list_add PySem.F.entry_list_add (PySem.F.args_list_add_2 _ _) (list_addW l b its.toArray its2.toArray n n2 dd dd2 sl sl2 (by simp only [List.size_toArray]; omega)) ⟨ho, ho2, ?_⟩
  rw [e]
  exact ⟨.ref _, _, I.lnew (t' := s.toks) (r1.append r2) (by rw [List.length_append]; exact hz), rfl, q _ I.fresh⟩
theorem op_addD : OpR X (binaryOp .Add) (r2 X.K addD) := by
  intro pins s σ H x y v u Q I rx ry h
  obtain ⟨a, b, F, ex, da, db, q⟩ := h
  cases da with
  | int i =>
    cases db with
    | int j => exact op_add pins s σ H _ _ v u Q I rx ry ⟨i, j, rfl, rfl, q.val ex (.int _)⟩
    | _ => exact q.elim
  | str i =>
    cases db with
    | str j =>
      by_cases hz : i.length + j.length ≤ 16777216
      · simp only [addD, hz, if_true] at q
        exact op_add_str pins s σ H _ _ v u Q I rx ry ⟨i, j, rfl, rfl, z24 hz, q.val ex (.str _)⟩
      · simp only [addD, hz, if_false] at q
        exact q.elim
    | _ => exact q.elim
  | @lst l xs ds h1 h2 =>
    cases db with
    | @lst b ys es k1 k2 =>
      by_cases hz : ds.length + es.length ≤ 16777216
      · simp only [addD, hz, if_true] at q
        exact op_catS pins s σ H _ _ v u Q I rx ry ⟨l, b, xs, ys, rfl, rfl, ex.sl h1, ex.sl k1, by rw [h2.length, k2.length]; exact z24 hz, fun p hp => q.newL ex (h2.append k2) hp⟩
      · simp only [addD, hz, if_false] at q
        exact q.elim
    | _ => exact q.elim
  | @tup l xs ds h1 h2 =>
    cases db with
    | @tup b ys es k1 k2 =>
      by_cases hz : ds.length + es.length ≤ 16777216
      · simp only [addD, hz, if_true] at q
        refine op_catA pins s σ H _ _ v u Q I rx ry ⟨l, b, xs, ys, rfl, rfl, ex.st h1, ex.st k1, by rw [h2.length, k2.length]; exact z24 hz, fun e => ?_, fun e e2 => ?_, fun _ _ p hp => q.newT ex (h2.append k2) hp⟩
        · have : ds = [] := h2.nil_iff.mp e
          subst this
          exact q.val ex (.tup k1 k2)
        · have : es = [] := k2.nil_iff.mp e2
          subst this
          rw [List.append_nil] at q
          exact q.val ex (.tup h1 h2)
      · simp only [addD, hz, if_false] at q
        exact q.elim
    | _ => exact q.elim
  | _ => exact q.elim

/-! ### ints -/
def subD : PyData → PyData → Option PyData
  | .int i, .int j => some (.int (i - j))
  | _, _ => none
theorem op_subD : OpR X (binaryOp .Sub) (r2 X.K subD) := by
  intro pins s σ H x y v u Q I rx ry h
  obtain ⟨a, b, F, ex, da, db, q⟩ := h
  cases da with
  | int i =>
    cases db with
    | int j => exact op_sub pins s σ H _ _ v u Q I rx ry ⟨i, j, rfl, rfl, q.val ex (.int _)⟩
    | _ => exact q.elim
  | _ => exact q.elim
def mulOk (i j : Int) : Bool := decide (((-(2 ^ 64) < i ∧ i < 2 ^ 64) ∨ (-(2 ^ 64) < j ∧ j < 2 ^ 64)) ∨ i.natAbs.log2 + j.natAbs.log2 < 1000000)
def mulD : PyData → PyData → Option PyData
  | .int i, .int j => if mulOk i j = true then some (.int (i * j)) else none
  | _, _ => none
theorem op_mulD : OpR X (binaryOp .Mult) (r2 X.K mulD) := by
  intro pins s σ H x y v u Q I rx ry h
  obtain ⟨a, b, F, ex, da, db, q⟩ := h
  cases da with
  | int i =>
    cases db with
    | int j =>
      by_cases hz : mulOk i j = true
      · simp only [mulD, hz, if_true] at q
        rcases of_decide_eq_true hz with hz | hz
        · exact op_mul pins s σ H _ _ v u Q I rx ry ⟨i, j, rfl, rfl, hz, q.val ex (.int _)⟩
        · exact op_mulW pins s σ H _ _ v u Q I rx ry ⟨i, j, rfl, rfl, hz, q.val ex (.int _)⟩
      · simp only [mulD, hz] at q
        exact q.elim
    | _ => exact q.elim
  | _ => exact q.elim
/-- the divisor is not 0 and not huge -/
def divOk (j : Int) : Bool := decide (j ≠ 0 ∧ j.natAbs.log2 < 9000)
def fdivD : PyData → PyData → Option PyData
  | .int i, .int j => if divOk j = true then some (.int (i.fdiv j)) else none
  | _, _ => none
theorem op_fdivD : OpR X (binaryOp .FloorDiv) (r2 X.K fdivD) := by
  intro pins s σ H x y v u Q I rx ry h
  obtain ⟨a, b, F, ex, da, db, q⟩ := h
  cases da with
  | int i =>
    cases db with
    | int j =>
      by_cases hz : divOk j = true
      · simp only [fdivD, hz, if_true] at q
        obtain ⟨h0, h1⟩ := of_decide_eq_true hz
        exact (opI (C := fun _ j => j ≠ 0 ∧ j.natAbs.log2 < 9000) (g := fun i j => i.fdiv j) fun _ _ _ _ _ _ _ hc q => floordiv_int hc.1 q (.inl (PyProof.noPylong_of_log2 hc.2))) pins s σ H _ _ v u Q I rx ry ⟨i, j, rfl, rfl, ⟨h0, h1⟩, q.val ex (.int _)⟩
      · simp only [fdivD, hz] at q
        exact q.elim
    | _ => exact q.elim
  | _ => exact q.elim
def modD : PyData → PyData → Option PyData
  | .int i, .int j => if j = 0 then none else some (.int (i.fmod j))
  | _, _ => none
theorem op_modD : OpR X (binaryOp .Mod) (r2 X.K modD) := by
  intro pins s σ H x y v u Q I rx ry h
  obtain ⟨a, b, F, ex, da, db, q⟩ := h
  cases da with
  | int i =>
    cases db with
    | int j =>
      by_cases hz : j = 0
      · simp only [modD, hz, if_true] at q
        exact q.elim
      · simp only [modD, hz, if_false] at q
        exact op_modN pins s σ H _ _ v u Q I rx ry ⟨i, j, rfl, rfl, hz, q.val ex (.int _)⟩
    | _ => exact q.elim
  | _ => exact q.elim
def powD : PyData → PyData → Option PyData
  | .int i, .int j => if 0 ≤ j ∧ j ≤ 1000000 ∧ i.natAbs < 2 ^ 64 then some (.int (i ^ j.toNat)) else none
  | _, _ => none
theorem op_powD : OpR X (binaryOp .Pow) (r2 X.K powD) := by
  intro pins s σ H x y v u Q I rx ry h
  obtain ⟨a, b, F, ex, da, db, q⟩ := h
  cases da with
  | int i =>
    cases db with
    | int j =>
      by_cases hz : 0 ≤ j ∧ j ≤ 1000000 ∧ i.natAbs < 2 ^ 64
      · have q' : Rop X.K (if 0 ≤ j ∧ j ≤ 1000000 ∧ i.natAbs < 2 ^ 64 then some (.int (i ^ j.toNat)) else none) H F Q := q
        rw [if_pos hz] at q'
        exact op_pow pins s σ H _ _ v u Q I rx ry ⟨i, j, rfl, rfl, hz, q'.val ex (.int _)⟩
      · have q' : Rop X.K (if 0 ≤ j ∧ j ≤ 1000000 ∧ i.natAbs < 2 ^ 64 then some (.int (i ^ j.toNat)) else none) H F Q := q
        rw [if_neg hz] at q'
        exact q'.elim
    | _ => exact q.elim
  | _ => exact q.elim
def negD : PyData → Option PyData
  | .int i => some (.int (-i))
  | _ => none
theorem un_negD : UnR X (unaryOp .USub) (r1 X.K negD) := by
  intro pins s σ H x v Q I rx h
  obtain ⟨a, F, ex, da, q⟩ := h
  cases da with
  | int i => exact un_neg pins s σ H _ v Q I rx ⟨i, rfl, q.val ex (.int _)⟩
  | _ => exact q.elim

/-! ### == and != -/
def scalD : PyData → PyData → Bool
  | .none, .none => true | .none, .int _ => true | .int _, .none => true | .none, .bool _ => true | .bool _, .none => true | .none, .str _ => true | .str _, .none => true
  | .int _, .int _ => true | .bool _, .bool _ => true | .str _, .str _ => true
  | .int _, .str _ => true | .str _, .int _ => true | .bool _, .str _ => true | .str _, .bool _ => true
  | _, _ => false
def eqOk (a b : PyData) : Bool := scalD a b || (noDic a && noDic b && SeqAt.shaped a && SeqAt.shaped b)
def eqD (a b : PyData) : Option PyData := if eqOk a b = true then some (.bool (PyData.eqv a b)) else none
def neD (a b : PyData) : Option PyData := if eqOk a b = true then some (.bool (!PyData.eqv a b)) else none
theorem scal_eqv {K : PySem.W.Frag} {F : Hp} {x y : V} {a b : PyData} (da : Den K F x a) (db : Den K F y b) (h : scalD a b = true) : scal x y = true ∧ decide (x = y) = PyData.eqv a b := by
  cases da <;> cases db <;> first
    | exact absurd h Bool.false_ne_true
    | (refine ⟨rfl, ?_⟩; simp only [PyData.eqv]; first | exact dec_int | exact dec_bl | exact dec_str)
    | (refine ⟨rfl, ?_⟩; simp [PyData.eqv])
theorem op_eqV (hu : X.A.units + 64 < cLine) : OpR X (compareOp .Eq) (r2 X.K eqD) := by
  intro pins s σ H x y v u Q I rx ry h
  obtain ⟨a, b, F, ex, da, db, q⟩ := h
  unfold eqD at q
  by_cases hz : eqOk a b = true
  · rw [if_pos hz] at q
    have q2 := q.val ex (.bl _)
    rcases Bool.or_eq_true _ _ |>.mp hz with hz | hz
    · obtain ⟨h1, h2⟩ := scal_eqv da db hz
      exact L2.op_eq pins s σ H _ _ v u Q I rx ry ⟨h1, by rw [h2]; exact q2⟩
    · simp only [Bool.and_eq_true] at hz
      exact op_eqD hu pins s σ H _ _ v u Q I rx ry ⟨a, b, (da.mono ex).dp hz.1.1.1, (db.mono ex).dp hz.1.1.2, hz.1.2, hz.2, q2⟩
  · rw [if_neg hz] at q
    exact q.elim
theorem op_neV (hu : X.A.units + 64 < cLine) : OpR X (compareOp .NotEq) (r2 X.K neD) := by
  intro pins s σ H x y v u Q I rx ry h
  obtain ⟨a, b, F, ex, da, db, q⟩ := h
  unfold neD at q
  by_cases hz : eqOk a b = true
  · rw [if_pos hz] at q
    have q2 := q.val ex (.bl _)
    rcases Bool.or_eq_true _ _ |>.mp hz with hz | hz
    · obtain ⟨h1, h2⟩ := scal_eqv da db hz
      exact L2.op_ne pins s σ H _ _ v u Q I rx ry ⟨h1, by rw [h2]; exact q2⟩
    · simp only [Bool.and_eq_true] at hz
      exact op_neD hu pins s σ H _ _ v u Q I rx ry ⟨a, b, (da.mono ex).dp hz.1.1.1, (db.mono ex).dp hz.1.1.2, hz.1.2, hz.2, q2⟩
  · rw [if_neg hz] at q
    exact q.elim
/-- is None, is not None -/
def isD (a b : PyData) : Option PyData := match b with
  | .none => some (.bool (match a with | .none => true | _ => false))
  | _ => none
def isNotD (a b : PyData) : Option PyData := match b with
  | .none => some (.bool (match a with | .none => false | _ => true))
  | _ => none
theorem op_isD : OpR X (compareOp .Is) (r2 X.K isD) := by
  intro pins s σ H x y v u Q I rx ry h
  obtain ⟨a, b, F, ex, da, db, q⟩ := h
  cases db with
  | non =>
    refine op_isN pins s σ H _ _ v u Q I rx ry ⟨rfl, ?_⟩
    cases da <;> exact q.val ex (.bl _)
  | _ => exact q.elim
theorem op_isNotD : OpR X (compareOp .IsNot) (r2 X.K isNotD) := by
  intro pins s σ H x y v u Q I rx ry h
  obtain ⟨a, b, F, ex, da, db, q⟩ := h
  cases db with
  | non =>
    refine op_notN pins s σ H _ _ v u Q I rx ry ⟨rfl, ?_⟩
    cases da <;> exact q.val ex (.bl _)
  | _ => exact q.elim

/-! ### order -/
def ltD : PyData → PyData → Option PyData
  | .int i, .int j => some (.bool (decide (i < j)))
  | .str x, .str y => some (.bool (decide (x.cps.toList < y.cps.toList)))
  | .bool x, .bool y => some (.bool (decide (b2i x < b2i y)))
  | _, _ => none
def leD : PyData → PyData → Option PyData
  | .int i, .int j => some (.bool (decide (i ≤ j)))
  | .str x, .str y => some (.bool (!decide (y.cps.toList < x.cps.toList)))
  | .bool x, .bool y => some (.bool (decide (b2i x ≤ b2i y)))
  | _, _ => none
def gtD : PyData → PyData → Option PyData
  | .int i, .int j => some (.bool (decide (j < i)))
  | .str x, .str y => some (.bool (decide (y.cps.toList < x.cps.toList)))
  | .bool x, .bool y => some (.bool (decide (b2i y < b2i x)))
  | _, _ => none
def geD : PyData → PyData → Option PyData
  | .int i, .int j => some (.bool (decide (j ≤ i)))
  | .str x, .str y => some (.bool (!decide (x.cps.toList < y.cps.toList)))
  | .bool x, .bool y => some (.bool (decide (b2i y ≤ b2i x)))
  | _, _ => none
theorem op_ltD : OpR X (compareOp .Lt) (r2 X.K ltD) := by
  intro pins s σ H x y v u Q I rx ry h
  obtain ⟨a, b, F, ex, da, db, q⟩ := h
  cases da with
  | int i =>
    cases db with
    | int j => exact op_lt pins s σ H _ _ v u Q I rx ry ⟨i, j, rfl, rfl, q.val ex (.bl _)⟩
    | _ => exact q.elim
  | str i =>
    cases db with
    | str j => exact op_lt_str pins s σ H _ _ v u Q I rx ry ⟨i, j, rfl, rfl, q.val ex (.bl _)⟩
    | _ => exact q.elim
  | bl i =>
    cases db with
    | bl j => cases rx; cases ry; exact lt_bool (fin_bl I (q.val ex (.bl _)) rfl)
    | _ => exact q.elim
  | _ => exact q.elim
theorem op_leD : OpR X (compareOp .LtE) (r2 X.K leD) := by
  intro pins s σ H x y v u Q I rx ry h
  obtain ⟨a, b, F, ex, da, db, q⟩ := h
  cases da with
  | int i =>
    cases db with
    | int j => exact op_le pins s σ H _ _ v u Q I rx ry ⟨i, j, rfl, rfl, q.val ex (.bl _)⟩
    | _ => exact q.elim
  | str i =>
    cases db with
    | str j => exact op_le_str pins s σ H _ _ v u Q I rx ry ⟨i, j, rfl, rfl, q.val ex (.bl _)⟩
    | _ => exact q.elim
  | bl i =>
    cases db with
    | bl j => cases rx; cases ry; exact le_bool (fin_bl I (q.val ex (.bl _)) rfl)
    | _ => exact q.elim
  | _ => exact q.elim
theorem op_gtD : OpR X (compareOp .Gt) (r2 X.K gtD) := by
  intro pins s σ H x y v u Q I rx ry h
  obtain ⟨a, b, F, ex, da, db, q⟩ := h
  cases da with
  | int i =>
    cases db with
    | int j => exact op_gt pins s σ H _ _ v u Q I rx ry ⟨i, j, rfl, rfl, q.val ex (.bl _)⟩
    | _ => exact q.elim
  | str i =>
    cases db with
    | str j => exact op_gt_str pins s σ H _ _ v u Q I rx ry ⟨i, j, rfl, rfl, q.val ex (.bl _)⟩
    | _ => exact q.elim
  | bl i =>
    cases db with
    | bl j => cases rx; cases ry; exact gt_bool (fin_bl I (q.val ex (.bl _)) rfl)
    | _ => exact q.elim
  | _ => exact q.elim
theorem op_geD : OpR X (compareOp .GtE) (r2 X.K geD) := by
  intro pins s σ H x y v u Q I rx ry h
  obtain ⟨a, b, F, ex, da, db, q⟩ := h
  cases da with
  | int i =>
    cases db with
    | int j => exact op_ge pins s σ H _ _ v u Q I rx ry ⟨i, j, rfl, rfl, q.val ex (.bl _)⟩
    | _ => exact q.elim
  | str i =>
    cases db with
    | str j => exact op_ge_str pins s σ H _ _ v u Q I rx ry ⟨i, j, rfl, rfl, q.val ex (.bl _)⟩
    | _ => exact q.elim
  | bl i =>
    cases db with
    | bl j => cases rx; cases ry; exact ge_bool (fin_bl I (q.val ex (.bl _)) rfl)
    | _ => exact q.elim
  | _ => exact q.elim

/-! ### in, not in -/
def seqOf : PyData → Option (List PyData)
  | .list ds => some ds
  | .tuple ds => some ds
  | _ => none
def hasD (x : PyData) (ds : List PyData) : Bool := ds.any fun y => PyData.eqv y x
def inD (x y : PyData) : Option PyData := match y with
  | .list ds => if flatD x = true ∧ ds.all flatD = true then some (.bool (hasD x ds)) else none
  | .tuple ds => if flatD x = true ∧ ds.all flatD = true then some (.bool (hasD x ds)) else none
  | .str z => match x with
    | .str w => some (.bool (!(Builtin.Str.occurrences z w 0 z.length 1).isEmpty))
    | _ => none
  | _ => none
def notInD (x y : PyData) : Option PyData := match y with
  | .list ds => if flatD x = true ∧ ds.all flatD = true then some (.bool (!hasD x ds)) else none
  | .tuple ds => if flatD x = true ∧ ds.all flatD = true then some (.bool (!hasD x ds)) else none
  | .str z => match x with
    | .str w => some (.bool (!(!(Builtin.Str.occurrences z w 0 z.length 1).isEmpty)))
    | _ => none
  | _ => none
theorem eqV_eqv {K : PySem.W.Frag} {F : Hp} {x y : V} {a b : PyData} (da : Den K F x a) (db : Den K F y b) (fa : flatD a = true) (fb : flatD b = true) : eqV x y = PyData.eqv a b := by
  cases da <;> first | (cases fa; done) | skip
  all_goals (cases db <;> first | (cases fb; done) | (simp [eqV, PyData.eqv]; done) | skip)
theorem inV_has {K : PySem.W.Frag} {F : Hp} {x : V} {a : PyData} (da : Den K F x a) (fa : flatD a = true) : ∀ {xs : List V} {ds : List PyData}, Dens K F xs ds → ds.all flatD = true → inV x xs = hasD a ds
  | _, _, .nil, _ => rfl
  | _, _, .cons h q, f => by
    rw [List.all_cons, Bool.and_eq_true] at f
    have ih := inV_has da fa q f.2
    unfold inV hasD at ih ⊢
    rw [List.any_cons, List.any_cons, ih, eqV_eqv h da f.1 fa]
theorem op_inV : OpR X (compareOp .In) (r2 X.K inD) := by
  intro pins s σ H x y v u Q I rx ry h
  obtain ⟨a, b, F, ex, da, db, q⟩ := h
  cases db with
  | @lst l xs ds h1 h2 =>
    by_cases hz : flatD a = true ∧ ds.all flatD = true
    · have q' : Rop X.K (if flatD a = true ∧ ds.all flatD = true then some (.bool (hasD a ds)) else none) H F Q := q
      rw [if_pos hz] at q'
      refine op_in_seq pins s σ H _ _ v u Q I rx ry ⟨l, xs, rfl, .inl (ex.sl h1), da.flatV hz.1, h2.flatV hz.2, ?_⟩
      rw [if_neg Bool.false_ne_true, inV_has da hz.1 h2 hz.2]
      exact q'.val ex (.bl _)
    · have q' : Rop X.K (if flatD a = true ∧ ds.all flatD = true then some (.bool (hasD a ds)) else none) H F Q := q
      rw [if_neg hz] at q'
      exact q'.elim
  | @tup l xs ds h1 h2 =>
    by_cases hz : flatD a = true ∧ ds.all flatD = true
    · have q' : Rop X.K (if flatD a = true ∧ ds.all flatD = true then some (.bool (hasD a ds)) else none) H F Q := q
      rw [if_pos hz] at q'
      refine op_in_seq pins s σ H _ _ v u Q I rx ry ⟨l, xs, rfl, .inr (ex.st h1), da.flatV hz.1, h2.flatV hz.2, ?_⟩
      rw [if_neg Bool.false_ne_true, inV_has da hz.1 h2 hz.2]
      exact q'.val ex (.bl _)
    · have q' : Rop X.K (if flatD a = true ∧ ds.all flatD = true then some (.bool (hasD a ds)) else none) H F Q := q
      rw [if_neg hz] at q'
      exact q'.elim
  | str z =>
    cases da with
    | str w => exact op_in_str pins s σ H _ _ v u Q I rx ry ⟨w, z, rfl, rfl, q.val ex (.bl _)⟩
    | _ => exact q.elim
  | _ => exact q.elim
theorem op_notInV : OpR X (compareOp .NotIn) (r2 X.K notInD) := by
  intro pins s σ H x y v u Q I rx ry h
  obtain ⟨a, b, F, ex, da, db, q⟩ := h
  cases db with
  | @lst l xs ds h1 h2 =>
    by_cases hz : flatD a = true ∧ ds.all flatD = true
    · have q' : Rop X.K (if flatD a = true ∧ ds.all flatD = true then some (.bool (!hasD a ds)) else none) H F Q := q
      rw [if_pos hz] at q'
      refine op_notIn_seq pins s σ H _ _ v u Q I rx ry ⟨l, xs, rfl, .inl (ex.sl h1), da.flatV hz.1, h2.flatV hz.2, ?_⟩
      rw [if_pos rfl, inV_has da hz.1 h2 hz.2]
      exact q'.val ex (.bl _)
    · have q' : Rop X.K (if flatD a = true ∧ ds.all flatD = true then some (.bool (!hasD a ds)) else none) H F Q := q
      rw [if_neg hz] at q'
      exact q'.elim
  | @tup l xs ds h1 h2 =>
    by_cases hz : flatD a = true ∧ ds.all flatD = true
    · have q' : Rop X.K (if flatD a = true ∧ ds.all flatD = true then some (.bool (!hasD a ds)) else none) H F Q := q
      rw [if_pos hz] at q'
      refine op_notIn_seq pins s σ H _ _ v u Q I rx ry ⟨l, xs, rfl, .inr (ex.st h1), da.flatV hz.1, h2.flatV hz.2, ?_⟩
      rw [if_pos rfl, inV_has da hz.1 h2 hz.2]
      exact q'.val ex (.bl _)
    · have q' : Rop X.K (if flatD a = true ∧ ds.all flatD = true then some (.bool (!hasD a ds)) else none) H F Q := q
      rw [if_neg hz] at q'
      exact q'.elim
  | str z =>
    cases da with
    | str w => exact op_notin_str pins s σ H _ _ v u Q I rx ry ⟨w, z, rfl, rfl, q.val ex (.bl _)⟩
    | _ => exact q.elim
  | _ => exact q.elim

/-! ### a[i] -/
def ixD (a b : PyData) : Option PyData := match a, b with
  | .list ds, .int i => atI ds i
  | .tuple ds, .int i => atI ds i
  | .str z, .int i => if z.length ≤ 16777216 then (atI z.cps.toList i).map fun c => .str ⟨#[c]⟩ else none
  | _, _ => none
theorem atI_dens {K : PySem.W.Frag} {F : Hp} {xs : List V} {ds : List PyData} (h : Dens K F xs ds) {i : Int} {d : PyData} (e : atI ds i = some d) : ∃ v, atI xs i = some v ∧ Den K F v d := by
  unfold atI at e ⊢
  rw [h.length]
  cases q : ixN ds.length i with
  | none => rw [q] at e; cases e
  | some j =>
    rw [q] at e
    exact h.get e
theorem ix_D : IxR X (r2 X.K ixD) := by
  intro value slice pins s σ H x y v u Q I rx ry h hs
  obtain ⟨a, b, F, ex, da, db, q⟩ := h
  cases db with
  | int i =>
    cases da with
    | @lst l xs ds h1 h2 =>
      cases e : atI ds i with
      | none => simp only [ixD, e] at q; exact q.elim
      | some d =>
        simp only [ixD, e] at q
        obtain ⟨w, e2, dw⟩ := atI_dens h2 e
        exact ix_list value slice pins s σ H _ _ v u Q I rx ry ⟨l, xs, i, w, rfl, rfl, ex.sl h1, e2, q.val ex dw⟩ hs
    | @tup l xs ds h1 h2 =>
      cases e : atI ds i with
      | none => simp only [ixD, e] at q; exact q.elim
      | some d =>
        simp only [ixD, e] at q
        obtain ⟨w, e2, dw⟩ := atI_dens h2 e
        exact ix_tup value slice pins s σ H _ _ v u Q I rx ry ⟨l, xs, i, w, rfl, rfl, ex.st h1, e2, q.val ex dw⟩ hs
    | str z =>
      by_cases hz : z.length ≤ 16777216
      · cases e : atI z.cps.toList i with
        | none => simp only [ixD, hz, e, if_true, Option.map_none] at q; exact q.elim
        | some c =>
          simp only [ixD, hz, e, if_true, Option.map_some] at q
          exact ix_str value slice pins s σ H _ _ v u Q I rx ry ⟨z, i, c, rfl, rfl, z24 hz, e, q.val ex (.str _)⟩ hs
      · simp only [ixD, hz, if_false] at q; exact q.elim
    | _ => exact q.elim
  | _ => cases da <;> exact q.elim

/-! ### slices -/
def cutD (xs : List PyData) (lo hi : Option Int) : List PyData := (xs.drop (HT.sIx xs.length 0 lo)).take (HT.sIx xs.length xs.length hi - HT.sIx xs.length 0 lo)
def slD (a : PyData) (lo hi : Option Int) : Option PyData := match a with
  | .list ds => some (.list (cutD ds lo hi))
  | .tuple ds => some (.tuple (cutD ds lo hi))
  | .str z => if z.length ≤ 16777216 then some (.str (cutS z lo hi)) else none
  | _ => none
theorem cut_dens {K : PySem.W.Frag} {F : Hp} {xs : List V} {ds : List PyData} (h : Dens K F xs ds) (lo hi : Option Int) : Dens K F (cutV xs lo hi) (cutD ds lo hi) := by
  unfold cutV cutD
  rw [h.length]
  exact (h.drop _).take _
theorem cut_whole (ds : List PyData) (lo hi : Option Int) (h : HT.sIx ds.length 0 lo = 0 ∧ HT.sIx ds.length ds.length hi = ds.length) : cutD ds lo hi = ds := by
  unfold cutD
  rw [h.1, h.2]
  simp
theorem sl_D : SlR X (rS X.K slD) := by
  intro pins s σ H x v vl vu lo hi sl Q I rx hs pl pu h
  obtain ⟨a, F, ex, da, q⟩ := h
  cases da with
  | @lst l xs ds h1 h2 =>
    exact sl_list pins s σ H _ v vl vu lo hi sl Q I rx hs pl pu ⟨l, xs, rfl, ex.sl h1, fun p hp => q.newL ex (cut_dens h2 lo hi) hp⟩
  | @tup l xs ds h1 h2 =>
    refine sl_tupA pins s σ H _ v vl vu lo hi sl Q I rx hs pl pu ⟨l, xs, rfl, ex.st h1, fun hw => ?_, fun _ p hp => q.newT ex (cut_dens h2 lo hi) hp⟩
    rw [h2.length] at hw
    have q' : Rop X.K (some (.tuple (cutD ds lo hi))) H F Q := q
    rw [cut_whole ds lo hi hw] at q'
    exact q'.val ex (.tup h1 h2)
  | str z =>
    by_cases hz : z.length ≤ 16777216
    · simp only [slD, hz, if_true] at q
      exact sl_str pins s σ H _ v vl vu lo hi sl Q I rx hs pl pu ⟨z, rfl, z24 hz, q.val ex (.str _)⟩
    · simp only [slD, hz, if_false] at q
      exact q.elim
  | _ => exact q.elim

/-! ### built-ins -/
def lenD : List PyData → Option PyData
  | [.str z] => if z.length ≤ 16777216 then some (.int z.length) else none
  | [.list ds] => some (.int ds.length)
  | [.tuple ds] => some (.int ds.length)
  | _ => none
theorem call_lenV : CallR X (.builtin "len") (rL X.K lenD) := by
  intro pins s σ H xs us Q I r h
  obtain ⟨as, F, ex, da, q⟩ := h
  cases da with
  | nil => exact q.elim
  | cons d1 d2 =>
    cases d2 with
    | cons _ _ => cases d1 <;> exact q.elim
    | nil =>
      cases d1 with
      | str z =>
        by_cases hz : z.length ≤ 16777216
        · simp only [lenD, hz, if_true] at q
          exact call_len_str pins s σ H _ us Q I r ⟨z, rfl, z24 hz, q.val ex (.int _)⟩
        · simp only [lenD, hz, if_false] at q
          exact q.elim
      | @lst l xs ds h1 h2 =>
        refine call_len_seq pins s σ H _ us Q I r ⟨l, xs, rfl, .inl (ex.sl h1), ?_⟩
        rw [h2.length]
        exact q.val ex (.int _)
      | @tup l xs ds h1 h2 =>
        refine call_len_seq pins s σ H _ us Q I r ⟨l, xs, rfl, .inr (ex.st h1), ?_⟩
        rw [h2.length]
        exact q.val ex (.int _)
      | _ => exact q.elim
def absD : List PyData → Option PyData
  | [.int i] => some (.int (if i < 0 then -i else i))
  | _ => none
theorem call_absV : CallR X (.builtin "abs") (rL X.K absD) := by
  intro pins s σ H xs us Q I r h
  obtain ⟨as, F, ex, da, q⟩ := h
  cases da with
  | nil => exact q.elim
  | cons d1 d2 =>
    cases d2 with
    | cons _ _ => cases d1 <;> exact q.elim
    | nil =>
      cases d1 with
      | int i => exact call_abs pins s σ H _ us Q I r ⟨i, rfl, q.val ex (.int _)⟩
      | _ => exact q.elim
def intD : List PyData → Option PyData
  | [.int i] => some (.int i)
  | [.bool b] => some (.int (if b = true then 1 else 0))
  | _ => none
theorem call_intV : CallR X (.type "int") (rL X.K intD) := by
  intro pins s σ H xs us Q I r h
  obtain ⟨as, F, ex, da, q⟩ := h
  cases da with
  | nil => exact q.elim
  | cons d1 d2 =>
    cases d2 with
    | cons _ _ => cases d1 <;> exact q.elim
    | nil =>
      cases d1 with
      | int i => exact call_int1 pins s σ H _ us Q I r (.inl ⟨i, rfl, q.val ex (.int _)⟩)
      | bl b => exact call_int1 pins s σ H _ us Q I r (.inr ⟨b, rfl, q.val ex (.int _)⟩)
      | _ => exact q.elim
def ordD : List PyData → Option PyData
  | [.str x] => if x.length = 1 then some (.int (x.cps.getD 0 0 : Nat)) else none
  | _ => none
theorem call_ordV : CallR X (.builtin "ord") (rL X.K ordD) := by
  intro pins s σ H xs us Q I r h
  obtain ⟨as, F, ex, da, q⟩ := h
  cases da with
  | nil => exact q.elim
  | cons d1 d2 =>
    cases d2 with
    | cons _ _ => cases d1 <;> exact q.elim
    | nil =>
      cases d1 with
      | str x =>
        by_cases hz : x.length = 1
        · simp only [ordD, hz, if_true] at q
          exact call_ord pins s σ H _ us Q I r ⟨x, rfl, hz, q.val ex (.int _)⟩
        · simp only [ordD, hz, if_false] at q
          exact q.elim
      | _ => exact q.elim
def maxD : List PyData → Option PyData
  | [.int i, .int j] => some (.int (if j > i then j else i))
  | _ => none
def minD : List PyData → Option PyData
  | [.int i, .int j] => some (.int (if j < i then j else i))
  | _ => none
theorem call_max2V (hc : X.calm = true) : CallR X (.builtin "max") (rL X.K maxD) := by
  intro pins s σ H xs us Q I r h
  obtain ⟨as, F, ex, da, q⟩ := h
  cases da with
  | nil => exact q.elim
  | cons d1 d2 =>
    cases d2 with
    | nil => cases d1 <;> exact q.elim
    | cons d3 d4 =>
      cases d4 with
      | cons _ _ => cases d1 <;> cases d3 <;> exact q.elim
      | nil =>
        cases d1 with
        | int i =>
          cases d3 with
          | int j => exact call_max2 hc pins s σ H _ us Q I r ⟨i, j, rfl, q.val ex (.int _)⟩
          | _ => exact q.elim
        | _ => cases d3 <;> exact q.elim
theorem call_min2V (hc : X.calm = true) : CallR X (.builtin "min") (rL X.K minD) := by
  intro pins s σ H xs us Q I r h
  obtain ⟨as, F, ex, da, q⟩ := h
  cases da with
  | nil => exact q.elim
  | cons d1 d2 =>
    cases d2 with
    | nil => cases d1 <;> exact q.elim
    | cons d3 d4 =>
      cases d4 with
      | cons _ _ => cases d1 <;> cases d3 <;> exact q.elim
      | nil =>
        cases d1 with
        | int i =>
          cases d3 with
          | int j => exact call_min2 hc pins s σ H _ us Q I r ⟨i, j, rfl, q.val ex (.int _)⟩
          | _ => exact q.elim
        | _ => cases d3 <;> exact q.elim
/-- tuple(x) -/
def tupleD : List PyData → Option PyData
  | [.list ds] => some (.tuple ds)
  | [.tuple ds] => some (.tuple ds)
  | _ => none
theorem call_tupleV : CallR X (.type "tuple") (rL X.K tupleD) := by
  intro pins s σ H xs us Q I r h
  obtain ⟨as, F, ex, da, q⟩ := h
  cases da with
  | nil => exact q.elim
  | cons d1 d2 =>
    cases d2 with
    | cons _ _ => cases d1 <;> exact q.elim
    | nil =>
      cases d1 with
      | @lst l xs ds h1 h2 => exact call_tuple_of pins s σ H _ us Q I r ⟨l, xs, rfl, .inl ⟨ex.sl h1, fun p hp => q.newT ex h2 hp⟩⟩
      | @tup l xs ds h1 h2 => exact call_tuple_of pins s σ H _ us Q I r ⟨l, xs, rfl, .inr ⟨ex.st h1, q.val ex (.tup h1 h2)⟩⟩
      | _ => exact q.elim
/-- list(x) as data -/
def listD : List PyData → Option PyData
  | [.list ds] => some (.list ds)
  | [.tuple ds] => some (.list ds)
  | _ => none
theorem call_listV : CallR X (.type "list") (rL X.K listD) := by
  intro pins s σ H xs us Q I r h
  obtain ⟨as, F, ex, da, q⟩ := h
  cases da with
  | nil => exact q.elim
  | cons d1 d2 =>
    cases d2 with
    | cons _ _ => cases d1 <;> exact q.elim
    | nil =>
      cases d1 with
      | @lst l xs ds h1 h2 => exact call_list_of pins s σ H _ us Q I r ⟨l, xs, rfl, .inl (ex.sl h1), fun p hp => q.newL ex h2 hp⟩
      | @tup l xs ds h1 h2 => exact call_list_of pins s σ H _ us Q I r ⟨l, xs, rfl, .inr (ex.st h1), fun p hp => q.newL ex h2 hp⟩
      | _ => exact q.elim
def strD : List PyData → Option PyData
  | [.int i] => if i.natAbs.log2 < 1920 then some (.str (toString i)) else none
  | _ => none
theorem call_strV : CallR X (.type "str") (rL X.K strD) := by
  intro pins s σ H xs us Q I r h
  obtain ⟨as, F, ex, da, q⟩ := h
  cases da with
  | nil => exact q.elim
  | cons d1 d2 =>
    cases d2 with
    | cons _ _ => cases d1 <;> exact q.elim
    | nil =>
      cases d1 with
      | int i =>
        by_cases hz : i.natAbs.log2 < 1920
        · simp only [strD, hz, if_true] at q
          exact call_str_int pins s σ H _ us Q I r ⟨i, rfl, hz, q.val ex (.str _)⟩
        · simp only [strD, hz, if_false] at q
          exact q.elim
      | _ => exact q.elim

/-! ### isinstance -/
def IsiOk (tn : String) (g : PyData → Bool) : Prop := ∀ d, kitB (tyOf d) tn = some (g d)
def isInt : PyData → Bool
  | .bool _ => true
  | .int _ => true
  | _ => false
theorem isi_int : IsiOk "int" isInt
  | .none => (show kitB "NoneType" "int" = some false by decide +kernel)
  | .bool _ => (show kitB "bool" "int" = some true by decide +kernel)
  | .int _ => (show kitB "int" "int" = some true by decide +kernel)
  | .str _ => (show kitB "str" "int" = some false by decide +kernel)
  | .list _ => (show kitB "list" "int" = some false by decide +kernel)
  | .tuple _ => (show kitB "tuple" "int" = some false by decide +kernel)
  | .dict _ => (show kitB "dict" "int" = some false by decide +kernel)
def isBool : PyData → Bool
  | .bool _ => true
  | _ => false
theorem isi_bool : IsiOk "bool" isBool
  | .none => (show kitB "NoneType" "bool" = some false by decide +kernel)
  | .bool _ => (show kitB "bool" "bool" = some true by decide +kernel)
  | .int _ => (show kitB "int" "bool" = some false by decide +kernel)
  | .str _ => (show kitB "str" "bool" = some false by decide +kernel)
  | .list _ => (show kitB "list" "bool" = some false by decide +kernel)
  | .tuple _ => (show kitB "tuple" "bool" = some false by decide +kernel)
  | .dict _ => (show kitB "dict" "bool" = some false by decide +kernel)
def isStr : PyData → Bool
  | .str _ => true
  | _ => false
theorem isi_str : IsiOk "str" isStr
  | .none => (show kitB "NoneType" "str" = some false by decide +kernel)
  | .bool _ => (show kitB "bool" "str" = some false by decide +kernel)
  | .int _ => (show kitB "int" "str" = some false by decide +kernel)
  | .str _ => (show kitB "str" "str" = some true by decide +kernel)
  | .list _ => (show kitB "list" "str" = some false by decide +kernel)
  | .tuple _ => (show kitB "tuple" "str" = some false by decide +kernel)
  | .dict _ => (show kitB "dict" "str" = some false by decide +kernel)
def isList : PyData → Bool
  | .list _ => true
  | _ => false
theorem isi_list : IsiOk "list" isList
  | .none => (show kitB "NoneType" "list" = some false by decide +kernel)
  | .bool _ => (show kitB "bool" "list" = some false by decide +kernel)
  | .int _ => (show kitB "int" "list" = some false by decide +kernel)
  | .str _ => (show kitB "str" "list" = some false by decide +kernel)
  | .list _ => (show kitB "list" "list" = some true by decide +kernel)
  | .tuple _ => (show kitB "tuple" "list" = some false by decide +kernel)
  | .dict _ => (show kitB "dict" "list" = some false by decide +kernel)
def isTuple : PyData → Bool
  | .tuple _ => true
  | _ => false
theorem isi_tuple : IsiOk "tuple" isTuple
  | .none => (show kitB "NoneType" "tuple" = some false by decide +kernel)
  | .bool _ => (show kitB "bool" "tuple" = some false by decide +kernel)
  | .int _ => (show kitB "int" "tuple" = some false by decide +kernel)
  | .str _ => (show kitB "str" "tuple" = some false by decide +kernel)
  | .list _ => (show kitB "list" "tuple" = some false by decide +kernel)
  | .tuple _ => (show kitB "tuple" "tuple" = some true by decide +kernel)
  | .dict _ => (show kitB "dict" "tuple" = some false by decide +kernel)
def isDict : PyData → Bool
  | .dict _ => true
  | _ => false
theorem isi_dict : IsiOk "dict" isDict
  | .none => (show kitB "NoneType" "dict" = some false by decide +kernel)
  | .bool _ => (show kitB "bool" "dict" = some false by decide +kernel)
  | .int _ => (show kitB "int" "dict" = some false by decide +kernel)
  | .str _ => (show kitB "str" "dict" = some false by decide +kernel)
  | .list _ => (show kitB "list" "dict" = some false by decide +kernel)
  | .tuple _ => (show kitB "tuple" "dict" = some false by decide +kernel)
  | .dict _ => (show kitB "dict" "dict" = some true by decide +kernel)
end
section
variable {X : Cx} {F0 H0 : Hp} {W : WX} {pos : Pos} {a : Expr} {f : Sls → Res PyData}
theorem de_isi {p p2 : Pos} {x tx : Str} {tn : String} {g : PyData → Bool} (hk : IsiOk tn g) (hg : Gl X x) (hm : X.mg x = none) (hv : bootBuiltins x = some (.builtin "isinstance")) (gt : Gl X tx) (mt : X.mg tx = none) (vt : bootBuiltins tx = some (.type tn)) (ha : DE X F0 H0 W a f) (hn : x ≠ "__name__" := by decide) (hdb : (x == ("__debug__" : Str)) = false := by decide)
    (hn2 : tx ≠ "__name__" := by decide) (hdb2 : (tx == ("__debug__" : Str)) = false := by decide)
    (h1 : starEach [.Name tx p2] X.env = (false, eval (.Name tx p2) X.env) :: starEach [] X.env := by rfl)
    (he : starEach [a, .Name tx p2] X.env = (false, eval a X.env) :: starEach [.Name tx p2] X.env := by rfl) (hpl : (backTo pos (starEach [.Name tx p2] X.env)).any (·.1) = false := by rfl) :
    DE X F0 H0 W (.Call (.Name x p) [a, .Name tx p2] [] pos) (d1 (fun d => some (.bool (g d))) f) := by
  refine PE.imp (pe_callB call_isi hg hm hv (pa_cons ha (pa_cons (pe_bltn (v := .ty tn) gt mt vt rfl hn2 hdb2) pa_nil h1) he) hn hdb he hpl) fun σ H Q ⟨ρ, F, sr, q⟩ => ?_
  obtain ⟨ρ1, F1, sr1, q1⟩ := rd_step (R := Den X.K) sr q
  refine ⟨ρ1, F1, sr1, q1.imp fun v H1 F2 d g1 r1 k => ?_⟩
  obtain ⟨a', F3, g3, r3, sr3, q3⟩ := k v H1 F2 (.refl g1.fh) r1
  exact ⟨v, .ty tn, .type (tyOf a'), .type tn, g a', rfl, .ty tn, r3.tyx sr3.ex, kit_ty (hk a'), q3 _ H1 F3 (.refl sr3.ex) (.bl _)⟩
theorem de_isi2 {p p2 p3 p4 : Pos} {x tx ty : Str} {k : Nat} {tn tm : String} {g g' : PyData → Bool} (hk : IsiOk tn g) (hk2 : IsiOk tm g') (hg : Gl X x) (hm : X.mg x = none) (hv : bootBuiltins x = some (.builtin "isinstance")) (gt : Gl X tx) (mt : X.mg tx = none) (vt : bootBuiltins tx = some (.type tn))
    (gt2 : Gl X ty) (mt2 : X.mg ty = none) (vt2 : bootBuiltins ty = some (.type tm)) (ha : DE X F0 H0 W a f) (hn : x ≠ "__name__" := by decide) (hdb : (x == ("__debug__" : Str)) = false := by decide)
    (hn2 : tx ≠ "__name__" := by decide) (hdb2 : (tx == ("__debug__" : Str)) = false := by decide) (hn3 : ty ≠ "__name__" := by decide) (hdb3 : (ty == ("__debug__" : Str)) = false := by decide)
    (h1 : starEach [.Tuple [.Name tx p2, .Name ty p3] k p4] X.env = (false, eval (.Tuple [.Name tx p2, .Name ty p3] k p4) X.env) :: starEach [] X.env := by rfl)
    (h2 : starEach [.Name tx p2, .Name ty p3] X.env = (false, eval (.Name tx p2) X.env) :: starEach [.Name ty p3] X.env := by rfl)
    (h3 : starEach [.Name ty p3] X.env = (false, eval (.Name ty p3) X.env) :: starEach [] X.env := by rfl)
    (he : starEach [a, .Tuple [.Name tx p2, .Name ty p3] k p4] X.env = (false, eval a X.env) :: starEach [.Tuple [.Name tx p2, .Name ty p3] k p4] X.env := by rfl) (hpl : (backTo pos (starEach [.Tuple [.Name tx p2, .Name ty p3] k p4] X.env)).any (·.1) = false := by rfl) :
    DE X F0 H0 W (.Call (.Name x p) [a, .Tuple [.Name tx p2, .Name ty p3] k p4] [] pos) (d1 (fun d => some (.bool (g d || g' d))) f) := by
  refine PE.imp (pe_callB call_isiT hg hm hv (pa_cons ha (pa_cons (pe_tup (pa_cons (pe_bltn (v := .ty tn) gt mt vt rfl hn2 hdb2) (pa_cons (pe_bltn (v := .ty tm) gt2 mt2 vt2 rfl hn3 hdb3) pa_nil h3) h2)) pa_nil h1) he) hn hdb he hpl) fun σ H Q ⟨ρ, F, sr, q⟩ => ?_
  obtain ⟨ρ1, F1, sr1, q1⟩ := rd_step (R := Den X.K) sr q
  refine ⟨ρ1, F1, sr1, q1.imp fun v H1 F2 d g1 r1 k => ?_⟩
  obtain ⟨a', F3, g3, r3, sr3, q3⟩ := k v H1 F2 (.refl g1.fh) r1
  refine ⟨z24 (show 2 ≤ 16777216 by decide), fun tp hp => ?_⟩
  have gn := Gr.newO (o := .tup [.ty tn, .ty tm]) sr3.ex hp
  refine ⟨v, tp, [.ty tn, .ty tm], .type (tyOf a'), [.type tn, .type tm], g a' || g' a', rfl, upd_same, .cons (.ty tn) (.cons (.ty tm) .nil), (r3.tyx (sr3.ex.trans (Ex.new hp))), ?_, q3 _ _ F3 gn (.bl _)⟩
  refine kitAny_cons (kit_ty (hk a')) (fun e => kitAny_cons (kit_ty (hk2 a')) (fun e2 => ?_) fun e2 => ?_) fun e => ?_
  · rw [e, e2]; exact kitAny_nil
  · rw [e, e2]; rfl
  · rw [e]; rfl
end
end DL

/-! DL4: statements, loops, calls, comprehensions. -/
namespace DL
open PySem PySem.Spec PyProof.Rows L2

inductive Out where
  | nx (ρ : Sls)
  | rt (d : PyData)
  | bk (ρ : Sls)
  | ct (ρ : Sls)
  | exc (x : Xn) (ρ : Sls)
  | bad
section
variable (mg : Str → Option Value) (K : PySem.W.Frag) (F0 H0 : Hp) (W : WX)
def Fin (o : Out) (D : Ends) (F : Hp) : Prop := match o with
  | .nx ρ' => ∀ σ' H' F', SR K F0 H0 ρ' σ' H' F' → Ex F F' → D.nx σ' H'
  | .rt d => ∀ v H' F', Gr F0 H0 F' H' → Ex F F' → Den K F' v d → D.rt v H'
  | .bk ρ' => ∀ σ' H' F', SR K F0 H0 ρ' σ' H' F' → Ex F F' → D.bk σ' H'
  | .ct ρ' => ∀ σ' H' F', SR K F0 H0 ρ' σ' H' F' → Ex F F' → D.ct σ' H'
  | .exc x ρ' => ∀ cls dd σ' H' F', SR K F0 H0 ρ' σ' H' F' → Ex F F' → ExR mg x cls dd H' F' → W cls dd σ' H'
  | .bad => False
def sOf (g : Sls → Out) : TS := fun D σ H => ∃ ρ F, SR K F0 H0 ρ σ H F ∧ Fin mg K F0 H0 W (g ρ) D F
end
def sE {α : Type} (f : Sls → Res α) (k : α → Sls → Out) (ρ : Sls) : Out := match f ρ with
  | .ok a => k a ρ
  | .exc x => .exc x ρ
  | .bad => .bad
section
variable {mg : Str → Option Value} {K : PySem.W.Frag} {F0 H0 : Hp} {W : WX} {α β : Type} {R : Hp → β → α → Prop} {σ : L2.St} {H F F1 : Hp} {ρ : Sls}
theorem Fin.weak {o : Out} {D : Ends} (e : Ex F F1) (h : Fin mg K F0 H0 W o D F) : Fin mg K F0 H0 W o D F1 := by
  cases o with
  | nx ρ' => exact fun σ' H' F' s x => h σ' H' F' s (e.trans x)
  | rt d => exact fun v H' F' s x => h v H' F' s (e.trans x)
  | bk ρ' => exact fun σ' H' F' s x => h σ' H' F' s (e.trans x)
  | ct ρ' => exact fun σ' H' F' s x => h σ' H' F' s (e.trans x)
  | exc x ρ' => exact fun cls dd σ' H' F' s x => h cls dd σ' H' F' s (e.trans x)
  | bad => exact h
/-- the ends are wished for more -/
theorem Fin.mono {o : Out} {D D' : Ends} (h : Fin mg K F0 H0 W o D F) (h1 : ∀ ρ', o = .nx ρ' → ∀ σ' H' F', SR K F0 H0 ρ' σ' H' F' → Ex F F' → D.nx σ' H' → D'.nx σ' H') (h2 : ∀ d, o = .rt d → ∀ v H' F', Gr F0 H0 F' H' → Ex F F' → Den K F' v d → D.rt v H' → D'.rt v H')
    (h3 : ∀ ρ', o = .bk ρ' → ∀ σ' H' F', SR K F0 H0 ρ' σ' H' F' → Ex F F' → D.bk σ' H' → D'.bk σ' H') (h4 : ∀ ρ', o = .ct ρ' → ∀ σ' H' F', SR K F0 H0 ρ' σ' H' F' → Ex F F' → D.ct σ' H' → D'.ct σ' H') : Fin mg K F0 H0 W o D' F := by
  cases o with
  | nx ρ' => exact fun σ' H' F' s x => h1 ρ' rfl σ' H' F' s x (h σ' H' F' s x)
  | rt d => exact fun v H' F' s x y => h2 d rfl v H' F' s x y (h v H' F' s x y)
  | bk ρ' => exact fun σ' H' F' s x => h3 ρ' rfl σ' H' F' s x (h σ' H' F' s x)
  | ct ρ' => exact fun σ' H' F' s x => h4 ρ' rfl σ' H' F' s x (h σ' H' F' s x)
  | exc x ρ' => exact h
  | bad => exact h
theorem fin_rd {f : Sls → Res α} {k : α → Sls → Out} {D : Ends} (sr : SR K F0 H0 ρ σ H F) (q : Fin mg K F0 H0 W (sE f k ρ) D F) :
    rd mg K F0 H0 W R f σ H (fun v H1 => ∃ a F1, Gr F H F1 H1 ∧ R F1 v a ∧ SR K F0 H0 ρ σ H1 F1 ∧ Fin mg K F0 H0 W (k a ρ) D F1) := by
  refine ⟨ρ, F, sr, ?_⟩
  unfold sE at q
  cases e : f ρ with
  | ok a => rw [e] at q; exact fun v H1 F1 g r => ⟨a, F1, g, r, sr.grow g, q.weak g.ff⟩
  | exc x => rw [e] at q; exact fun cls dd H1 F1 g r => q cls dd σ H1 F1 (sr.grow g) g.ff r
  | bad => rw [e] at q; exact q
end

/-- what every rule of a body may ask of its place -/
structure Cz (X : Cx) (W : WX) (k : Nat) : Prop where
  calm : X.calm = true
  tk : Takes X W
  po : PassesOwn (model X.prog X.w) X.A X.env X.xe
  room : Room k X.A
abbrev WF : WX := fun _ _ _ _ => False
theorem Cz.blk {X : Cx} {W : WX} {k : Nat} (c : Cz X W k) (s : Shared) (H : Hp) (scope : Scope) (cenv : PySem.Env) (fp : List Addr) : Cz (X.blk s H scope cenv fp) WF k := ⟨c.calm, takes0, PassesOwn.never, c.room⟩

section
variable (X : Cx) (F0 H0 : Hp) (W : WX)
def DS (st : Stmt) (g : Sls → Out) : Prop := PS X st (sOf X.mg X.K F0 H0 W g)
def DSs (st : List Stmt) (g : Sls → Out) : Prop := PSs X st (sOf X.mg X.K F0 H0 W g)
end
section
variable {X : Cx} {F0 H0 : Hp} {W : WX} {pos : Pos} {e c : Expr} {st : Stmt} {rest b1 b2 : List Stmt} {f : Sls → Res PyData} {t : Sls → Res Bool} {g g1 g2 : Sls → Out} {k : Nat}
def gNext (ρ : Sls) : Out := .nx ρ
def gSeq (g1 g2 : Sls → Out) (ρ : Sls) : Out := match g1 ρ with
  | .nx ρ' => g2 ρ'
  | o => o
theorem dss_nil : DSs X F0 H0 W [] gNext := PSs.imp pss_nil fun D σ H ⟨ρ, F, sr, q⟩ => q σ H F sr (.refl _)
theorem dss_cons (h1 : DS X F0 H0 W st g1) (h2 : DSs X F0 H0 W rest g2) : DSs X F0 H0 W (st :: rest) (gSeq g1 g2) := by
  refine PSs.imp (pss_cons h1 h2) fun D σ H ⟨ρ, F, sr, q⟩ => ⟨ρ, F, sr, ?_⟩
  unfold gSeq at q
  cases e : g1 ρ with
  | nx ρ' =>
    rw [e] at q
    exact fun σ' H' F' sr' x => ⟨ρ', F', sr', q.weak x⟩
  | rt d => rw [e] at q; exact q
  | bk ρ' => rw [e] at q; exact q
  | ct ρ' => rw [e] at q; exact q
  | exc x ρ' => rw [e] at q; exact q
  | bad => rw [e] at q; exact q
theorem dss_one (h1 : DS X F0 H0 W st g) : DSs X F0 H0 W [st] g := pss_one h1
theorem ds_pass : DS X F0 H0 W (.Pass pos) gNext := PS.imp ps_pass fun D σ H ⟨ρ, F, sr, q⟩ => q σ H F sr (.refl _)
theorem ds_break : DS X F0 H0 W (.Break pos) (fun ρ => .bk ρ) := PS.imp ps_break fun D σ H ⟨ρ, F, sr, q⟩ => q σ H F sr (.refl _)
theorem ds_continue : DS X F0 H0 W (.Continue pos) (fun ρ => .ct ρ) := PS.imp ps_continue fun D σ H ⟨ρ, F, sr, q⟩ => q σ H F sr (.refl _)
def gIf (t : Sls → Res Bool) (g1 g2 : Sls → Out) : Sls → Out := sE t fun b ρ => if b = true then g1 ρ else g2 ρ
theorem ds_if (hc : DT X F0 H0 W c t) (ha : DSs X F0 H0 W b1 g1) (hb : DSs X F0 H0 W b2 g2) : DS X F0 H0 W (.If c b1 b2 pos) (gIf t g1 g2) := by
  refine PS.imp (ps_if hc ha hb) fun D σ H ⟨ρ, F, sr, q⟩ => ?_
  obtain ⟨ρ1, F1, sr1, q1⟩ := fin_rd (R := REq) sr q
  refine ⟨ρ1, F1, sr1, q1.imp fun v H1 F2 a g1 r1 k => ?_⟩
  obtain ⟨a', F3, g3, rfl, sr3, q3⟩ := k v H1 F2 (.refl g1.fh) r1
  cases v with
  | true => simp only [if_true] at q3 ⊢; exact ⟨ρ, F3, sr3, q3⟩
  | false => simp only [Bool.false_eq_true, if_false] at q3 ⊢; exact ⟨ρ, F3, sr3, q3⟩
def gSet (i : Nat) (f : Sls → Res PyData) : Sls → Out := sE f fun d ρ => .nx (ρ.set i (.val d))
theorem ds_set {i : Nat} {x : Str} {pos' : Pos} (hN : X.N.Nodup) (hi : X.N[i]? = some x) (hx : Loc X.env.scope x) (he : DE X F0 H0 W e f) (hs : swapsWith e (some (.Name x pos')) pos.line X.env = pure false := by rfl) (hf : X.fn x = true ∨ X.env.scope.names.lookup x = some .local := by first | exact .inl rfl | exact .inr rfl | assumption) :
    DS X F0 H0 W (.Assign [.Name x pos'] e pos) (gSet i f) := by
  refine PS.imp (ps_set hN hi hx he hs hf) fun D σ H ⟨ρ, F, sr, q⟩ => ?_
  obtain ⟨ρ1, F1, sr1, q1⟩ := fin_rd (R := Den X.K) sr q
  refine ⟨ρ1, F1, sr1, q1.imp fun v H1 F2 a g1 r1 k => ?_⟩
  obtain ⟨a', F3, g3, r3, sr3, q3⟩ := k v H1 F2 (.refl g1.fh) r1
  exact q3 _ H1 F3 (sr3.set r3 i) (.refl _)
/-- x = a new list, kept apart -/
def gSetN (i : Nat) (fs : Sls → Res (List PyData)) : Sls → Out := sE fs fun ds ρ => .nx (ρ.set i (.own ds))
theorem fin_n {fs : Sls → Res (List PyData)} {D : Ends} {σ : L2.St} {H F : Hp} {ρ : Sls} {i : Nat} (sr : SR X.K F0 H0 ρ σ H F) (q : Fin X.mg X.K F0 H0 W (gSetN i fs ρ) D F) : nOf F0 H0 W X.mg X.K fs σ H fun v H1 => D.nx (σ.set i (some v)) H1 := by
  refine ⟨ρ, F, sr, ?_⟩
  unfold gSetN sE at q
  cases e : fs ρ with
  | ok ds =>
    rw [e] at q
    intro a xs H1 F1 g1 ha hx hF dn
    have own : ∀ j, ¬ OwnAt ρ σ j a := fun j o => sr.ownNe o ha
    exact q _ H1 F1 ((sr.grow g1).setO hx hF (not_of_none sr.gr.hh ha) own dn i) g1.ff
  | exc x => rw [e] at q; exact fun cls dd H1 F1 g r => q cls dd σ H1 F1 (sr.grow g) g.ff r
  | bad => rw [e] at q; exact q
theorem ds_setN {i : Nat} {x : Str} {pos' : Pos} {fs : Sls → Res (List PyData)} (hN : X.N.Nodup) (hi : X.N[i]? = some x) (hx : Loc X.env.scope x) (he : DN X F0 H0 W e fs) (hs : swapsWith e (some (.Name x pos')) pos.line X.env = pure false := by rfl) (hf : X.fn x = true ∨ X.env.scope.names.lookup x = some .local := by first | exact .inl rfl | exact .inr rfl | assumption) :
    DS X F0 H0 W (.Assign [.Name x pos'] e pos) (gSetN i fs) :=
  PS.imp (ps_set hN hi hx he hs hf) fun D σ H ⟨ρ, F, sr, q⟩ => fin_n sr q
def gRet (f : Sls → Res PyData) : Sls → Out := sE f fun d _ => .rt d
theorem ds_ret (he : DE X F0 H0 W e f) : DS X F0 H0 W (.Return (some e) pos) (gRet f) := by
  refine PS.imp (ps_ret he) fun D σ H ⟨ρ, F, sr, q⟩ => ?_
  obtain ⟨ρ1, F1, sr1, q1⟩ := fin_rd (R := Den X.K) sr q
  refine ⟨ρ1, F1, sr1, q1.imp fun v H1 F2 a g1 r1 k => ?_⟩
  obtain ⟨a', F3, g3, r3, sr3, q3⟩ := k v H1 F2 (.refl g1.fh) r1
  exact q3 v H1 F3 sr3.gr (.refl _) r3
theorem ds_retN : DS X F0 H0 W (.Return none pos) (fun _ => .rt .none) := PS.imp ps_retN fun D σ H ⟨ρ, F, sr, q⟩ => q .non H F sr.gr (.refl _) .non
def gDrop (f : Sls → Res PyData) : Sls → Out := sE f fun _ ρ => .nx ρ
theorem ds_expr (he : DE X F0 H0 W e f) (hs : swapsWith e none pos.line X.env = pure false := by rfl) : DS X F0 H0 W (.Expr e pos) (gDrop f) := by
  refine PS.imp (ps_expr he hs) fun D σ H ⟨ρ, F, sr, q⟩ => ?_
  obtain ⟨ρ1, F1, sr1, q1⟩ := fin_rd (R := Den X.K) sr q
  refine ⟨ρ1, F1, sr1, q1.imp fun v H1 F2 a g1 r1 k => ?_⟩
  obtain ⟨a', F3, g3, r3, sr3, q3⟩ := k v H1 F2 (.refl g1.fh) r1
  exact q3 _ H1 F3 sr3 (.refl _)
theorem ds_doc {x j} {pos' : Pos} : DS X F0 H0 W (.Expr (.Constant (.str x) j pos) pos') gNext := PS.imp ps_doc fun D σ H ⟨ρ, F, sr, q⟩ => q σ H F sr (.refl _)

/-! an own list is used -/
def frz (i : Nat) (ρ : Sls) : Sls := match ρ[i]? with
  | some (.own ds) => ρ.set i (.val (.list ds))
  | _ => ρ
theorem frz_sr {K : PySem.W.Frag} {σ : L2.St} {H F : Hp} {ρ : Sls} (i : Nat) (sr : SR K F0 H0 ρ σ H F) : ∃ F', Ex F F' ∧ SR K F0 H0 (frz i ρ) σ H F' := by
  unfold frz
  cases e : ρ[i]? with
  | none => exact ⟨F, .refl _, sr⟩
  | some s =>
    cases s with
    | own ds =>
      obtain ⟨a, xs, F', _, _, _, _, _, hx, sr'⟩ := sr.freeze e
      exact ⟨F', hx, sr'⟩
    | val d => exact ⟨F, .refl _, sr⟩
    | un => exact ⟨F, .refl _, sr⟩
    | adr a => exact ⟨F, .refl _, sr⟩
    | dcK kvs => exact ⟨F, .refl _, sr⟩
    | dcB kvs => exact ⟨F, .refl _, sr⟩
/-- from here on slot i is data -/
theorem DS.frz (i : Nat) (h : DS X F0 H0 W st g) : DS X F0 H0 W st (fun ρ => g (frz i ρ)) := PS.imp h fun D σ H ⟨ρ, F, sr, q⟩ => by
  obtain ⟨F', hx, sr'⟩ := frz_sr i sr
  exact ⟨_, F', sr', q.weak hx⟩
theorem DSs.frz (i : Nat) (h : DSs X F0 H0 W rest g) : DSs X F0 H0 W rest (fun ρ => g (frz i ρ)) := PSs.imp h fun D σ H ⟨ρ, F, sr, q⟩ => by
  obtain ⟨F', hx, sr'⟩ := frz_sr i sr
  exact ⟨_, F', sr', q.weak hx⟩
/-- slot i is data for one expression whose value is flat -/
def flatR (r : Res PyData) : Res PyData := match r with
  | .ok d => if flatD d = true then .ok d else .bad
  | .exc _ => .bad
  | .bad => .bad
theorem brw {σ : L2.St} {H F : Hp} {ρ : Sls} (i : Nat) (sr : SR X.K F0 H0 ρ σ H F) : ∃ F', SR X.K F0 H0 (frz i ρ) σ H F' ∧ ∀ H' F2, Gr F' H F2 H' → Gr F H F H' := by
  obtain ⟨F', hx, sr'⟩ := frz_sr i sr
  refine ⟨F', sr', fun H' F2 g => ⟨.refl _, g.hh, sr.ex.trans g.hh, fun _ h _ => h, fun a o u h z => by rw [not_of_none sr.ex h] at z; cases z⟩⟩
theorem DE.brw (i : Nat) (h : DE X F0 H0 W e f) : DE X F0 H0 W e (fun ρ => flatR (f (frz i ρ))) := PE.imp h fun σ H Q ⟨ρ, F, sr, q⟩ => by
  obtain ⟨F', sr', gg⟩ := DL.brw i sr
  refine ⟨_, F', sr', ?_⟩
  cases e : f (DL.frz i ρ) with
  | ok d =>
    simp only [e, flatR] at q
    by_cases hd : flatD d = true
    · rw [if_pos hd] at q
      exact fun v H1 F1 g r => q v H1 F (gg H1 F1 g) (r.toFlat hd F)
    · rw [if_neg hd] at q
      exact q.elim
  | exc x => simp only [e, flatR] at q; exact q.elim
  | bad => simp only [e, flatR] at q; exact q.elim
def boolR (r : Res Bool) : Res Bool := match r with
  | .ok d => .ok d
  | .exc _ => .bad
  | .bad => .bad
theorem DT.brw (i : Nat) (h : DT X F0 H0 W e t) : DT X F0 H0 W e (fun ρ => boolR (t (frz i ρ))) := PT.imp h fun σ H Q ⟨ρ, F, sr, q⟩ => by
  obtain ⟨F', sr', gg⟩ := DL.brw i sr
  refine ⟨_, F', sr', ?_⟩
  cases e : t (DL.frz i ρ) with
  | ok d =>
    simp only [e, boolR] at q
    exact fun v H1 F1 g r => q v H1 F (gg H1 F1 g) r
  | exc x => simp only [e, boolR] at q; exact q.elim
  | bad => simp only [e, boolR] at q; exact q.elim
/-- xs.append(e), xs in slot i -/
def gApp (i : Nat) (f : Sls → Res PyData) (ρ : Sls) : Out := match ρ[i]? with
  | some (.own ds) => sE f (fun d ρ => if ds.length < 16777216 then .nx (ρ.set i (.own (ds ++ [d]))) else .bad) ρ
  | _ => .bad
theorem ds_append {i : Nat} {x : Str} {xp apos cpos : Pos} (hv : PE X (.Name x xp) (tVar i)) (he : DE X F0 H0 W e f)
    (hbase : attributeBase (.Name x xp) "append" X.env (eval (.Name x xp) X.env) = eval (.Name x xp) X.env := by rfl)
    (hfew : ((backTo cpos (starEach (e :: []) X.env)).all (fun x => !x.1) && (backToKw cpos (keywordEach [] X.env)).all (fun x => x.1.isSome)
      && decide ((e :: []).length + ([] : List Keyword).length + (if ([] : List Keyword).isEmpty then 0 else 1) < 30)) = true := by rfl)
    (hline : (apos.endLine == cpos.line) = true := by rfl) (hs : starEach (e :: []) X.env = (false, eval e X.env) :: starEach [] X.env := by rfl) (hplain : (backTo cpos (starEach [] X.env)).any (·.1) = false := by rfl)
    (hw : swapsWith (.Call (.Attribute (.Name x xp) "append" apos) (e :: []) [] cpos) none pos.line X.env = pure false := by rfl) :
    DS X F0 H0 W (.Expr (.Call (.Attribute (.Name x xp) "append" apos) (e :: []) [] cpos) pos) (gApp i f) := by
  refine PS.imp (ps_expr (pe_bm PySem.F.plainAttrs_list PySem.F.slot_list_append PySem.F.type_list_append mt_append hv (pa_cons he pa_nil hs) hbase hfew hline hs hplain) hw) fun D σ H ⟨ρ, F, sr, q⟩ => ?_
  unfold gApp at q
  cases e1 : ρ[i]? with
  | none => simp only [e1] at q; exact q.elim
  | some s =>
    cases s with
    | un => simp only [e1] at q; exact q.elim
    | adr a => simp only [e1] at q; exact q.elim
    | dcK kvs => simp only [e1] at q; exact q.elim
    | dcB kvs => simp only [e1] at q; exact q.elim
    | val d => simp only [e1] at q; exact q.elim
    | own ds =>
      simp only [e1] at q
      obtain ⟨a, xs, e2, h1, h2, h3⟩ := sr.sl i _ e1
      refine ⟨.ref a, e2, .inl ⟨rfl, xs, .inl (.inl h1)⟩, ?_⟩
      obtain ⟨ρ1, F1, sr1, q1⟩ := fin_rd (R := Den X.K) sr q
      refine ⟨ρ1, F1, sr1, q1.imp fun v H1 F2 d g1 r1 k => ?_⟩
      obtain ⟨d', F3, g3, r3, sr3, q3⟩ := k v H1 F2 (.refl g1.fh) r1
      obtain ⟨a', xs', e2', h1', h2', h3'⟩ := sr3.sl i _ e1
      rw [e2] at e2'
      have e4 : V.ref a = V.ref a' := Option.some.inj (Option.some.inj e2')
      cases e4
      by_cases hz : ds.length < 16777216
      · simp only [hz, if_true] at q3
        refine ⟨a, xs', v, rfl, rfl, h1', by rw [h3'.length, line24]; exact hz, ?_⟩
        exact q3 σ _ F3 (sr3.change e1 e2 (h3'.append (.cons r3 .nil))) (.refl _)
      · simp only [hz, if_false] at q3
        exact q3.elim

/-! ### targets -/
def gOf (K : PySem.W.Frag) (F0 H0 : Hp) (bt : PyData → Sls → Option Sls) (vs : List Nat) : TG := fun v σ H Q => ∃ ρ F d, SR K F0 H0 ρ σ H F ∧ Den K F v d ∧ match bt d ρ with
  | some ρ' => ∀ σ', SR K F0 H0 ρ' σ' H F → (∀ ws, (∀ i ∈ vs, i ∈ ws) → wipe σ' ws = wipe σ ws) → Q σ' H
  | none => False
def gsOf (K : PySem.W.Frag) (F0 H0 : Hp) (bt : List PyData → Sls → Option Sls) (vs : List Nat) : TGs := fun xs σ H Q => ∃ ρ F ds, SR K F0 H0 ρ σ H F ∧ Dens K F xs ds ∧ match bt ds ρ with
  | some ρ' => ∀ σ', SR K F0 H0 ρ' σ' H F → (∀ ws, (∀ i ∈ vs, i ∈ ws) → wipe σ' ws = wipe σ ws) → Q σ' H
  | none => False
def DG (X : Cx) (F0 H0 : Hp) (e : Expr) (bt : PyData → Sls → Option Sls) (vs : List Nat) : Prop := PG X e (gOf X.K F0 H0 bt vs)
def DGs (X : Cx) (F0 H0 : Hp) (es : List Expr) (bt : List PyData → Sls → Option Sls) (vs : List Nat) : Prop := PGs X es (gsOf X.K F0 H0 bt vs)
theorem PG.imp {X : Cx} {e : Expr} {t t' : TG} (h : PG X e t) (k : ∀ v σ H Q, t' v σ H Q → t v σ H Q) : PG X e t' := ⟨fun pins s σ H v u Q I r q => h.run pins s σ H v u Q I r (k v σ H Q q)⟩
theorem PGs.imp {X : Cx} {e : List Expr} {t t' : TGs} (h : PGs X e t) (k : ∀ v σ H Q, t' v σ H Q → t v σ H Q) : PGs X e t' := ⟨fun pins s σ H v u Q I r q => h.run pins s σ H v u Q I r (k v σ H Q q)⟩
theorem wipe_set_out {σ : L2.St} {i : Nat} {o : Option V} : ∀ {vs : List Nat}, i ∉ vs → wipe (σ.set i o) vs = (wipe σ vs).set i o
  | [], _ => rfl
  | v :: vs, h => by
    have h1 : v ≠ i := fun e => h (by rw [e]; exact List.mem_cons_self)
    have h2 : i ∉ vs := fun m => h (List.mem_cons_of_mem _ m)
    unfold wipe
    rw [wipe_set_out h2, List.set_comm _ _ (Ne.symm h1)]
theorem wipe_set {σ : L2.St} {i : Nat} {o : Option V} : ∀ {vs : List Nat}, i ∈ vs → wipe (σ.set i o) vs = wipe σ vs
  | [], h => by cases h
  | v :: vs, h => by
    unfold wipe
    by_cases h2 : i ∈ vs
    · rw [wipe_set h2]
    · have h1 : i = v := by
        rcases List.mem_cons.mp h with e | m
        · exact e
        · exact absurd m h2
      subst h1
      rw [wipe_set_out h2, List.set_set]
def bName (i : Nat) (d : PyData) (ρ : Sls) : Option Sls := some (ρ.set i (.val d))
theorem dg_name {i : Nat} {x : Str} (hN : X.N.Nodup) (hi : X.N[i]? = some x) (hx : Loc X.env.scope x) (hf : X.fn x = true ∨ X.env.scope.names.lookup x = some .local := by first | exact .inl rfl | exact .inr rfl | assumption) : DG X F0 H0 (.Name x pos) (bName i) [i] :=
  PG.imp (pg_name hN hi hx hf) fun v σ H Q ⟨ρ, F, d, sr, dn, q⟩ => q _ (sr.set dn i) fun ws hw => wipe_set (hw i List.mem_cons_self)
def bNil (ds : List PyData) (ρ : Sls) : Option Sls := match ds with
  | [] => some ρ
  | _ => none
def bCons (b : PyData → Sls → Option Sls) (bs : List PyData → Sls → Option Sls) (ds : List PyData) (ρ : Sls) : Option Sls := match ds with
  | d :: ds => (b d ρ).bind (bs ds)
  | [] => none
theorem dgs_nil : DGs X F0 H0 [] bNil [] := by
  refine PGs.imp pgs_nil fun xs σ H Q ⟨ρ, F, ds, sr, dn, q⟩ => ?_
  cases dn with
  | nil => exact ⟨rfl, q σ sr fun ws _ => rfl⟩
  | cons _ _ => exact q.elim
theorem dgs_cons {es : List Expr} {b : PyData → Sls → Option Sls} {bs : List PyData → Sls → Option Sls} {vs ws : List Nat} (h1 : DG X F0 H0 e b vs) (h2 : DGs X F0 H0 es bs ws)
    (hs : (assignEach (e :: es) X.env).map (·.2) = assign e X.env :: (assignEach es X.env).map (·.2) := by rfl) : DGs X F0 H0 (e :: es) (bCons b bs) (vs ++ ws) := by
  refine PGs.imp (pgs_cons h1 h2 hs) fun xs σ H Q ⟨ρ, F, ds, sr, dn, q⟩ => ?_
  cases dn with
  | nil => exact q.elim
  | @cons v xs d ds r1 r2 =>
    have q' : match (b d ρ).bind (bs ds) with
      | some ρ' => ∀ σ', SR X.K F0 H0 ρ' σ' H F → (∀ zs, (∀ i ∈ vs ++ ws, i ∈ zs) → wipe σ' zs = wipe σ zs) → Q σ' H
      | none => False := q
    refine ⟨v, xs, rfl, ρ, F, d, sr, r1, ?_⟩
    cases e1 : b d ρ with
    | none => rw [e1] at q'; exact q'.elim
    | some ρ1 =>
      rw [e1] at q'
      refine fun σ1 sr1 w1 => ⟨ρ1, F, ds, sr1, r2, ?_⟩
      have q2 : match bs ds ρ1 with
        | some ρ' => ∀ σ', SR X.K F0 H0 ρ' σ' H F → (∀ zs, (∀ i ∈ vs ++ ws, i ∈ zs) → wipe σ' zs = wipe σ zs) → Q σ' H
        | none => False := q'
      cases e2 : bs ds ρ1 with
      | none => rw [e2] at q2; exact q2.elim
      | some ρ2 =>
        rw [e2] at q2
        exact fun σ2 sr2 w2 => q2 σ2 sr2 fun zs hz => (w2 zs fun i hi => hz i (List.mem_append_right _ hi)).trans (w1 zs fun i hi => hz i (List.mem_append_left _ hi))
/-- (a, b, ..) = a tuple, a list -/
def bTup (n : Nat) (bs : List PyData → Sls → Option Sls) (d : PyData) (ρ : Sls) : Option Sls := match d with
  | .tuple ds => if ds.length = n then bs ds ρ else none
  | _ => none
theorem dg_tup {es : List Expr} {k : Nat} {bs : List PyData → Sls → Option Sls} {vs : List Nat} {n : Nat} (hc : X.calm = true) (h : DGs X F0 H0 es bs vs)
    (hn : (assignEach es X.env).length = n := by rfl) (hst : (assignEach es X.env).findIdx? (·.1) = none := by rfl) : DG X F0 H0 (.Tuple es k pos) (bTup n bs) vs := by
  refine PG.imp (pg_tup hc h hn hst) fun v σ H Q ⟨ρ, F, d, sr, dn, q⟩ => ?_
  cases dn with
  | @tup a xs ds h1 h2 =>
    by_cases hz : ds.length = n
    · simp only [bTup, hz, if_true] at q
      exact ⟨a, xs, rfl, sr.ex.st h1, by rw [h2.length]; exact hz, ρ, F, ds, sr, h2, q⟩
    · simp only [bTup, hz, if_false] at q
  | _ => exact q.elim
def bLst (n : Nat) (bs : List PyData → Sls → Option Sls) (d : PyData) (ρ : Sls) : Option Sls := match d with
  | .list ds => if ds.length = n then bs ds ρ else none
  | _ => none
theorem dg_lst {es : List Expr} {k : Nat} {bs : List PyData → Sls → Option Sls} {vs : List Nat} {n : Nat} (hc : X.calm = true) (h : DGs X F0 H0 es bs vs)
    (hn : (assignEach es X.env).length = n := by rfl) (hst : (assignEach es X.env).findIdx? (·.1) = none := by rfl) : DG X F0 H0 (.Tuple es k pos) (bLst n bs) vs := by
  refine PG.imp (pg_lst hc h hn hst) fun v σ H Q ⟨ρ, F, d, sr, dn, q⟩ => ?_
  cases dn with
  | @lst a xs ds h1 h2 =>
    by_cases hz : ds.length = n
    · simp only [bLst, hz, if_true] at q
      exact ⟨a, xs, rfl, sr.ex.sl h1, by rw [h2.length]; exact hz, ρ, F, ds, sr, h2, q⟩
    · simp only [bLst, hz, if_false] at q
  | _ => exact q.elim
/-- target = e -/
def gAsg (f : Sls → Res PyData) (bt : PyData → Sls → Option Sls) : Sls → Out := sE f fun d ρ => match bt d ρ with
  | some ρ' => .nx ρ'
  | none => .bad
theorem ds_asg {tg : Expr} {bt : PyData → Sls → Option Sls} {vs : List Nat} (he : DE X F0 H0 W e f) (hg : DG X F0 H0 tg bt vs) (hs : swapsWithSole [tg] e pos.line X.env = pure false := by rfl) (hw : swappedStores [tg] e X.env = pure none := by rfl)
    (h1 : (assignEach [tg] X.env).map (·.2) = [assign tg X.env] := by rfl) : DS X F0 H0 W (.Assign [tg] e pos) (gAsg f bt) := by
  refine PS.imp (ps_asg he hg hs hw h1) fun D σ H ⟨ρ, F, sr, q⟩ => ?_
  obtain ⟨ρ1, F1, sr1, q1⟩ := fin_rd (R := Den X.K) sr q
  refine ⟨ρ1, F1, sr1, q1.imp fun v H1 F2 a g1 r1 k => ?_⟩
  obtain ⟨a', F3, g3, r3, sr3, q3⟩ := k v H1 F2 (.refl g1.fh) r1
  refine ⟨ρ, F3, a', sr3, r3, ?_⟩
  cases e1 : bt a' ρ with
  | none => simp only [e1] at q3; exact q3.elim
  | some ρ' => simp only [e1] at q3; exact fun σ' sr' _ => q3 σ' H1 F3 sr' (.refl _)
/-- a, b = e1, e2 at once -/
def gPar (i j : Nat) (fs : Sls → Res (List PyData)) : Sls → Out := sE fs fun ds ρ => match ds with
  | [x, y] => .nx ((ρ.set i (.val x)).set j (.val y))
  | _ => .bad
theorem ds_par {i j : Nat} {x y : Str} {a b : Expr} {px py pt : Pos} {kt k2 pt2} {fs : Sls → Res (List PyData)} (hc : X.calm = true) (hN : X.N.Nodup) (hi : X.N[i]? = some x) (hj : X.N[j]? = some y) (hij : i ≠ j)
    (hx : X.env.scope.names.lookup x = some .local) (hy : X.env.scope.names.lookup y = some .local) (ha : DA X F0 H0 W [a, b] fs)
    (hw : swappedStores [.Tuple [.Name x px, .Name y py] kt pt] (.Tuple [a, b] k2 pt2) X.env = pure (some [x, y]))
    (hs : swapsWithSole [.Tuple [.Name x px, .Name y py] kt pt] (.Tuple [a, b] k2 pt2) pos.line X.env = pure false := by rfl) :
    DS X F0 H0 W (.Assign [.Tuple [.Name x px, .Name y py] kt pt] (.Tuple [a, b] k2 pt2) pos) (gPar i j fs) := by
  refine PS.imp (ps_par hc hN hi hj hij hx hy ha hw hs) fun D σ H ⟨ρ, F, sr, q⟩ => ?_
  obtain ⟨ρ1, F1, sr1, q1⟩ := fin_rd (R := Dens X.K) sr q
  refine ⟨ρ1, F1, sr1, q1.imp fun v H1 F2 a g1 r1 k => ?_⟩
  obtain ⟨a', F3, g3, r3, sr3, q3⟩ := k v H1 F2 (.refl g1.fh) r1
  cases r3 with
  | nil => exact q3.elim
  | cons h1 r4 =>
    cases r4 with
    | nil => exact q3.elim
    | cons h2 r5 =>
      cases r5 with
      | nil => exact ⟨_, _, rfl, q3 _ H1 F3 ((sr3.set h1 i).set h2 j) (.refl _)⟩
      | cons _ _ => exact q3.elim
/-- x op= e -/
def gAug (i : Nat) (g : PyData → PyData → Option PyData) (f : Sls → Res PyData) (ρ : Sls) : Out := match ρ[i]? with
  | some (.val x) => sE f (fun y ρ => match g x y with
    | some z => .nx (ρ.set i (.val z))
    | none => .bad) ρ
  | _ => .bad
theorem ds_aug {i : Nat} {x : Str} {op : Operator} {g : PyData → PyData → Option PyData} {pos' : Pos} (hN : X.N.Nodup) (hi : X.N[i]? = some x) (hx : Loc X.env.scope x) (he : DE X F0 H0 W e f) (ho : OpR X (inplaceOp op) (r2 X.K g)) (hf : X.fn x = true ∨ X.env.scope.names.lookup x = some .local := by first | exact .inl rfl | exact .inr rfl | assumption) :
    DS X F0 H0 W (.AugAssign (.Name x pos') op e pos) (gAug i g f) := by
  refine PS.imp (ps_aug (ti := r2 X.K g) hN hi hx he ho hf) fun D σ H ⟨ρ, F, sr, q⟩ => ?_
  unfold gAug at q
  cases e1 : ρ[i]? with
  | none => simp only [e1] at q; exact q.elim
  | some s =>
    cases s with
    | un => simp only [e1] at q; exact q.elim
    | adr a => simp only [e1] at q; exact q.elim
    | dcK kvs => simp only [e1] at q; exact q.elim
    | dcB kvs => simp only [e1] at q; exact q.elim
    | own d => simp only [e1] at q; exact q.elim
    | val d =>
      simp only [e1] at q
      obtain ⟨v, e2, dv⟩ := sr.sl i _ e1
      refine ⟨v, e2, ?_⟩
      obtain ⟨ρ1, F1, sr1, q1⟩ := fin_rd (R := Den X.K) sr q
      refine ⟨ρ1, F1, sr1, q1.imp fun w H1 F2 d2 g1 r1 k => ?_⟩
      obtain ⟨d', F3, g3, r3, sr3, q3⟩ := k w H1 F2 (.refl g1.fh) r1
      refine ⟨d, d', F3, sr3.ex, dv.mono g3.ff, r3, ?_⟩
      cases e3 : g d d' with
      | none => simp only [e3] at q3; exact q3.elim
      | some z =>
        simp only [e3] at q3
        exact fun u H4 F4 g4 r4 => q3 _ H4 F4 ((sr3.grow g4).set r4 i) g4.ff
end
/-! += of ints and texts -/
section
variable {X : Cx}
def iaddD : PyData → PyData → Option PyData
  | .int i, .int j => some (.int (i + j))
  | .str x, .str y => if x.length + y.length ≤ 16777216 then some (.str (x ++ y)) else none
  | _, _ => none
theorem iop_addD : OpR X (inplaceOp .Add) (r2 X.K iaddD) := by
  intro pins s σ H x y v u Q I rx ry h
  obtain ⟨a, b, F, ex, da, db, q⟩ := h
  cases da with
  | int i =>
    cases db with
    | int j => exact iop_add pins s σ H _ _ v u Q I rx ry ⟨i, j, rfl, rfl, q.val ex (.int _)⟩
    | _ => exact q.elim
  | str i =>
    cases db with
    | str j =>
      by_cases hz : i.length + j.length ≤ 16777216
      · simp only [iaddD, hz, if_true] at q
        exact iop_add_str pins s σ H _ _ v u Q I rx ry ⟨i, j, rfl, rfl, z24 hz, q.val ex (.str _)⟩
      · simp only [iaddD, hz, if_false] at q
        exact q.elim
    | _ => exact q.elim
  | _ => exact q.elim
theorem iop_subD : OpR X (inplaceOp .Sub) (r2 X.K subD) := by
  intro pins s σ H x y v u Q I rx ry h
  obtain ⟨a, b, F, ex, da, db, q⟩ := h
  cases da with
  | int i =>
    cases db with
    | int j => exact iop_sub pins s σ H _ _ v u Q I rx ry ⟨i, j, rfl, rfl, q.val ex (.int _)⟩
    | _ => exact q.elim
  | _ => exact q.elim
end
end DL

/-! DL5: what is walked, for, while, comprehensions, calls of defs, a def's body. -/
namespace DL
open PySem PySem.Spec PyProof.Rows L2

/-! ### what is walked -/
structure ItOk (K : PySem.W.Frag) (J : It) (ds : List PyData) (F1 : Hp) : Prop where
  go : ∀ i H, Ex F1 H → i < ds.length → J.go i H
  stop : ∀ i H, Ex F1 H → ds.length = i → J.stop i H
  yld : ∀ i H x H' F d, Ex F1 F → Ex F H → ds[i]? = some d → J.yld i H x H' → ∃ F', Gr F H F' H' ∧ Den K F' x d
def iOf (mg : Str → Option Value) (K : PySem.W.Frag) (F0 H0 : Hp) (W : WX) (f : Sls → Res (List PyData)) : TI := fun σ H R => ∃ ρ F, SR K F0 H0 ρ σ H F ∧ match f ρ with
  | .ok ds => ∀ J H' F', Gr F H F' H' → ItOk K J ds F' → R J H'
  | .exc x => ∀ cls dd H' F', Gr F H F' H' → ExR mg x cls dd H' F' → W cls dd σ H'
  | .bad => False
def DI (X : Cx) (F0 H0 : Hp) (W : WX) (tg e : Expr) (f : Sls → Res (List PyData)) : Prop := PI X tg e (iOf X.mg X.K F0 H0 W f)
theorem itok_l {K : PySem.W.Frag} {F1 : Hp} {a : Addr} {xs : List V} {ds : List PyData} (h : SqL K F1 a xs) (q : Dens K F1 xs ds) : ItOk K (Itl K a) ds F1 := by
  refine ⟨fun i H e hi => ?_, fun i H e hi => ⟨xs, e.sl h, by rw [q.length]; exact Nat.le_of_eq hi⟩, fun i H x H' F d e1 e2 hd y => ?_⟩
  · obtain ⟨v, hv, _⟩ := q.get (List.getElem?_eq_getElem hi)
    exact ⟨xs, v, e.sl h, hv⟩
  · obtain ⟨rfl, y⟩ := y
    obtain ⟨v, hv, dv⟩ := q.get hd
    have := y xs ((e1.trans e2).sl h)
    rw [hv] at this
    cases this
    exact ⟨F, .refl e2, dv.mono e1⟩
theorem itok_t {K : PySem.W.Frag} {F1 : Hp} {a : Addr} {xs : List V} {ds : List PyData} (h : SqT K F1 a xs) (q : Dens K F1 xs ds) : ItOk K (Itt K a) ds F1 := by
  refine ⟨fun i H e hi => ?_, fun i H e hi => ⟨xs, e.st h, by rw [q.length]; exact Nat.le_of_eq hi⟩, fun i H x H' F d e1 e2 hd y => ?_⟩
  · obtain ⟨v, hv, _⟩ := q.get (List.getElem?_eq_getElem hi)
    exact ⟨xs, v, e.st h, hv⟩
  · obtain ⟨rfl, y⟩ := y
    obtain ⟨v, hv, dv⟩ := q.get hd
    have := y xs ((e1.trans e2).st h)
    rw [hv] at this
    cases this
    exact ⟨F, .refl e2, dv.mono e1⟩
def signsD (x : Str) : List PyData := x.cps.toList.map fun c => .str ⟨#[c]⟩
theorem itok_s {K : PySem.W.Frag} {F1 : Hp} {x : Str} : ItOk K (Its x) (signsD x) F1 := by
  have hl : (signsD x).length = x.cps.size := by simp [signsD]
  refine ⟨fun i H e hi => by rw [hl] at hi; exact hi, fun i H e hi => by rw [hl] at hi; exact Nat.le_of_eq hi, fun i H v H' F d e1 e2 hd y => ?_⟩
  obtain ⟨rfl, c, hc, rfl⟩ := y
  have : d = .str ⟨#[c]⟩ := by
    unfold signsD at hd
    rw [List.getElem?_map, Array.getElem?_toList, hc] at hd
    cases hd
    rfl
  subst this
  exact ⟨F, .refl e2, .str _⟩
def rangeD (lo : Int) (n : Nat) : List PyData := (List.range n).map fun i => .int (lo + (i : Nat))
theorem itok_r {K : PySem.W.Frag} {F1 : Hp} {lo : Int} {n : Nat} : ItOk K (Itr lo n) (rangeD lo n) F1 := by
  have hl : (rangeD lo n).length = n := by simp [rangeD]
  refine ⟨fun i H e hi => by rw [hl] at hi; exact hi, fun i H e hi => by rw [hl] at hi; exact Nat.le_of_eq hi, fun i H v H' F d e1 e2 hd y => ?_⟩
  obtain ⟨rfl, rfl⟩ := y
  have hi : i < n := by rw [← hl]; exact (List.getElem?_eq_some_iff.mp hd).1
  have : d = .int (lo + (i : Nat)) := by
    unfold rangeD at hd
    rw [List.getElem?_map, List.getElem?_range hi] at hd
    cases hd
    rfl
  subst this
  exact ⟨F, .refl e2, .int _⟩
section
variable {X : Cx} {F0 H0 : Hp} {W : WX} {pos : Pos} {tg l a b c e : Expr} {f : Sls → Res PyData} {fs : Sls → Res (List PyData)}
/-- a list, a tuple, a text -/
def iAny (K : PySem.W.Frag) (tl : TE) : TI := fun σ H R => tl σ H fun x H1 => (∃ a, x = .ref a ∧ (∃ xs, SqL K H1 a xs) ∧ R (Itl K a) H1) ∨ (∃ a, x = .ref a ∧ (∃ xs, SqT K H1 a xs) ∧ R (Itt K a) H1) ∨ ∃ z, x = .str z ∧ R (Its z) H1
theorem pi_any {tl : TE} (hl : PE X l tl) : PI X tg l (iAny X.K tl) := by
  refine ⟨fun pins s σ H R I h => ?_⟩
  refine thn (hl.run pins s σ H _ I h) fun v s1 ⟨x, H1, I1, r1, q1⟩ => ?_
  rcases q1 with ⟨a, e, ⟨xs, hq⟩, q⟩ | ⟨a, e, ⟨xs, hq⟩, q⟩ | ⟨z, e, q⟩
  · subst e
    cases r1
    obtain ⟨its, rv, p, hz⟩ := I1.list hq
    refine wpAny_pyIter_list p.isList ?_
    refine ⟨s1.heap.objs.size, [s1.heap.objs.size], _, _, H1, rfl, I1.kept (t' := s1.toks) fun b o e => Heap.get?_push_of_some _ e, turn_list a _, ⟨_, Heap.get?_push_size _ rfl, rfl, rfl⟩, fun b hb => ?_, q⟩
    have e : b = s1.heap.objs.size := by simpa using hb
    subst e
    exact I1.fpOk (Nat.le_refl _) (I1.hok.fresh (Nat.le_refl _))
  · subst e
    cases r1
    obtain ⟨its, rv, p, hz⟩ := I1.tuple hq
    refine wpAny_pyIter_tuple (show s1.heap.IsTuple a its.toArray from p) ?_
    refine ⟨s1.heap.objs.size, [s1.heap.objs.size], _, _, H1, rfl, I1.kept (t' := s1.toks) fun b o e => Heap.get?_push_of_some _ e, turn_tuple a _, ⟨_, Heap.get?_push_size _ rfl, rfl, rfl⟩, fun b hb => ?_, q⟩
    have e : b = s1.heap.objs.size := by simpa using hb
    subst e
    exact I1.fpOk (Nat.le_refl _) (I1.hok.fresh (Nat.le_refl _))
  · subst e
    obtain ⟨t, rfl⟩ := r1
    cases ha : z.cps.all (· < 128)
    · exact wpAny_pyIter_wide ha (pi_one (tk := s1.toks) I1 _ (turn_str _ z t "str_iterator" (.inr rfl)) ⟨_, Heap.get?_push_size _ rfl, rfl, rfl⟩ q)
    · exact wpAny_pyIter_ascii ha (pi_one (tk := s1.toks) I1 _ (turn_str _ z t "str_ascii_iterator" (.inl rfl)) ⟨_, Heap.get?_push_size _ rfl, rfl, rfl⟩ q)
def itemsOf : PyData → Option (List PyData)
  | .list ds => some ds
  | .tuple ds => some ds
  | .str z => some (signsD z)
  | _ => none
def dItems (f : Sls → Res PyData) (ρ : Sls) : Res (List PyData) := f ρ >>= fun d => ofO (itemsOf d)
theorem di_any (h : DE X F0 H0 W l f) : DI X F0 H0 W tg l (dItems f) := by
  refine PI.imp (pi_any h) fun σ H R ⟨ρ, F, sr, q⟩ => ⟨ρ, F, sr, ?_⟩
  unfold dItems at q
  cases e : f ρ with
  | ok d =>
    simp only [e, bind_ok] at q
    intro v H1 F1 g1 r1
    cases r1 with
    | @lst a xs ds h1 h2 => exact .inl ⟨a, rfl, ⟨xs, g1.fh.sl h1⟩, q _ H1 F1 g1 (itok_l h1 h2)⟩
    | @tup a xs ds h1 h2 => exact .inr (.inl ⟨a, rfl, ⟨xs, g1.fh.st h1⟩, q _ H1 F1 g1 (itok_t h1 h2)⟩)
    | str z => exact .inr (.inr ⟨z, rfl, q _ H1 F1 g1 itok_s⟩)
    | _ => exact q.elim
  | exc x => simp only [e, bind_exc] at q; exact q
  | bad => simp only [e, bind_bad] at q
def rng1 : List PyData → Option (List PyData)
  | [.int j] => if -(2 ^ 62) ≤ j ∧ j < 2 ^ 62 then some (rangeD 0 j.toNat) else none
  | _ => none
def rng2 : List PyData → Option (List PyData)
  | [.int i, .int j] => if -(2 ^ 62) ≤ i ∧ i < 2 ^ 62 ∧ -(2 ^ 62) ≤ j ∧ j < 2 ^ 62 then some (rangeD i (j - i).toNat) else none
  | _ => none
def dRng (g : List PyData → Option (List PyData)) (fs : Sls → Res (List PyData)) (ρ : Sls) : Res (List PyData) := fs ρ >>= fun ds => ofO (g ds)
theorem di_range1 {p : Pos} (hg : Gl X "range") (hm : X.mg "range" = none) (ha : DA X F0 H0 W [a] fs) (hs : starEach [a] X.env = [(false, eval a X.env)] := by rfl) : DI X F0 H0 W tg (.Call (.Name "range" p) [a] [] pos) (dRng rng1 fs) := by
  refine PI.imp (pi_range1 hg hm ha hs) fun σ H R ⟨ρ, F, sr, q⟩ => ⟨ρ, F, sr, ?_⟩
  unfold dRng at q
  cases e : fs ρ with
  | ok ds =>
    simp only [e, bind_ok] at q
    intro v H1 F1 g1 r1
    cases r1 with
    | nil => exact q.elim
    | cons h1 r2 =>
      cases r2 with
      | cons _ _ => cases h1 <;> exact q.elim
      | nil =>
        cases h1 with
        | int j =>
          by_cases hz : -(2 ^ 62) ≤ j ∧ j < 2 ^ 62
          · simp only [rng1, hz, and_self, if_true] at q
            exact ⟨j, rfl, hz.1, hz.2, q _ H1 F1 g1 itok_r⟩
          · simp only [rng1, hz, if_false] at q
            exact q.elim
        | _ => exact q.elim
  | exc x => simp only [e, bind_exc] at q; exact q
  | bad => simp only [e, bind_bad] at q
theorem di_range2 {p : Pos} (hg : Gl X "range") (hm : X.mg "range" = none) (ha : DA X F0 H0 W [a, b] fs) (hs : starEach [a, b] X.env = [(false, eval a X.env), (false, eval b X.env)] := by rfl) (hs2 : starEach [b] X.env = [(false, eval b X.env)] := by rfl) :
    DI X F0 H0 W tg (.Call (.Name "range" p) [a, b] [] pos) (dRng rng2 fs) := by
  refine PI.imp (pi_range2 hg hm ha hs hs2) fun σ H R ⟨ρ, F, sr, q⟩ => ⟨ρ, F, sr, ?_⟩
  unfold dRng at q
  cases e : fs ρ with
  | ok ds =>
    simp only [e, bind_ok] at q
    intro v H1 F1 g1 r1
    cases r1 with
    | nil => exact q.elim
    | cons h1 r2 =>
      cases r2 with
      | nil => cases h1 <;> exact q.elim
      | cons h2 r3 =>
        cases r3 with
        | cons _ _ => cases h1 <;> cases h2 <;> exact q.elim
        | nil =>
          cases h1 with
          | int i =>
            cases h2 with
            | int j =>
              by_cases hz : -(2 ^ 62) ≤ i ∧ i < 2 ^ 62 ∧ -(2 ^ 62) ≤ j ∧ j < 2 ^ 62
              · have q' := q
                simp only [rng2] at q'
                rw [if_pos hz] at q'
                exact ⟨i, j, rfl, hz, q' _ H1 F1 g1 itok_r⟩
              · have q' := q
                simp only [rng2] at q'
                rw [if_neg hz] at q'
                exact q'.elim
            | _ => exact q.elim
          | _ => cases h2 <;> exact q.elim
  | exc x => simp only [e, bind_exc] at q; exact q
  | bad => simp only [e, bind_bad] at q

/-! ### for -/
def forL (bt : PyData → Sls → Option Sls) (body : Sls → Out) : List PyData → Sls → Out
  | [], ρ => .nx ρ
  | d :: ds, ρ => match bt d ρ with
    | none => .bad
    | some ρ1 => match body ρ1 with
      | .nx ρ2 => forL bt body ds ρ2
      | .ct ρ2 => forL bt body ds ρ2
      | .bk ρ2 => .nx ρ2
      | .rt d => .rt d
      | .exc x ρ2 => .exc x ρ2
      | .bad => .bad
def gFor (fs : Sls → Res (List PyData)) (bt : PyData → Sls → Option Sls) (body : Sls → Out) : Sls → Out := sE fs fun ds ρ => forL bt body ds ρ
theorem ds_for {iter : Expr} {body : List Stmt} {bt : PyData → Sls → Option Sls} {vs : List Nat} {g : Sls → Out} {k : Nat} (c : Cz X W k) (hi : DI X F0 H0 W tg iter fs) (hg : DG X F0 H0 tg bt vs) (hb : DSs X F0 H0 W body g)
    (hs : ∀ x, foldedSetIterable iter X.env x = pure x := by intro _; rfl) : DS X F0 H0 W (.For tg iter body [] pos) (gFor fs bt g) := by
  refine PS.imp (ps_for c.po c.calm hi hg hb hs) fun D σ H ⟨ρ, F, sr, q⟩ => ⟨ρ, F, sr, ?_⟩
  unfold gFor sE at q
  cases e : fs ρ with
  | exc x => simp only [e] at q; exact fun cls dd H1 F1 g r => q cls dd σ H1 F1 (sr.grow g) g.ff r
  | bad => simp only [e] at q; exact q
  | ok ds =>
    simp only [e] at q
    intro J H1 F1 g1 ok
    refine ⟨fun i m σ H => m = ds.length - i ∧ i ≤ ds.length ∧ ∃ ρ F, SR X.K F0 H0 ρ σ H F ∧ Ex F1 F ∧ Fin X.mg X.K F0 H0 W (forL bt g (ds.drop i) ρ) D F, ⟨ds.length, by simp, Nat.zero_le _, ρ, F1, sr.grow g1, .refl _, q.weak g1.ff⟩, ?_⟩
    rintro i m σ2 H2 ⟨rfl, hi, ρ2, F2, sr2, ex2, q2⟩
    by_cases hlt : i < ds.length
    · have hd : ds[i]? = some ds[i] := List.getElem?_eq_getElem hlt
      rw [List.drop_eq_getElem_cons hlt] at q2
      refine .inr ⟨ok.go i H2 (ex2.trans sr2.ex) hlt, fun σ' H' => ∃ ρ' F', SR X.K F0 H0 ρ' σ' H' F' ∧ Ex F1 F' ∧ Fin X.mg X.K F0 H0 W (forL bt g (ds.drop (i + 1)) ρ') D F', fun σ' H' ⟨ρ', F', a, b, c⟩ => ⟨ds.length - (i + 1), by omega, rfl, hlt, ρ', F', a, b, c⟩, fun x H' y => ?_⟩
      obtain ⟨F3, g3, dn⟩ := ok.yld i H2 x H' F2 _ ex2 sr2.ex hd y
      refine ⟨ρ2, F3, ds[i], sr2.grow g3, dn, ?_⟩
      have ex3 : Ex F1 F3 := ex2.trans g3.ff
      have q3 := q2.weak g3.ff
      simp only [forL] at q3
      cases e1 : bt ds[i] ρ2 with
      | none => simp only [e1] at q3; exact q3.elim
      | some ρ3 =>
        simp only [e1] at q3
        refine fun σ3 sr3 _ => ⟨ρ3, F3, sr3, ?_⟩
        cases e2 : g ρ3 with
        | nx ρ4 => simp only [e2] at q3; exact fun σ4 H4 F4 sr4 x4 => ⟨ρ4, F4, sr4, ex3.trans x4, q3.weak x4⟩
        | ct ρ4 => simp only [e2] at q3; exact fun σ4 H4 F4 sr4 x4 => ⟨ρ4, F4, sr4, ex3.trans x4, q3.weak x4⟩
        | bk ρ4 => simp only [e2] at q3; exact q3
        | rt d => simp only [e2] at q3; exact q3
        | exc x ρ4 => simp only [e2] at q3; exact q3
        | bad => simp only [e2] at q3; exact q3
    · have e3 : i = ds.length := by omega
      subst e3
      rw [List.drop_length] at q2
      exact .inl ⟨ok.stop _ H2 (ex2.trans sr2.ex) rfl, q2 σ2 H2 F2 sr2 (.refl _)⟩

/-! ### while, with a bound on its turns -/
def whileN (t : Sls → Res Bool) (body : Sls → Out) : Nat → Sls → Out
  | 0, _ => .bad
  | n + 1, ρ => match t ρ with
    | .bad => .bad
    | .exc x => .exc x ρ
    | .ok false => .nx ρ
    | .ok true => match body ρ with
      | .nx ρ2 => whileN t body n ρ2
      | .ct ρ2 => whileN t body n ρ2
      | .bk ρ2 => .nx ρ2
      | .rt d => .rt d
      | .exc x ρ2 => .exc x ρ2
      | .bad => .bad
theorem ds_while {cnd : Expr} {body : List Stmt} {t : Sls → Res Bool} {g : Sls → Out} {k : Nat} (n : Sls → Nat) (c : Cz X W k) (hc : DT X F0 H0 W cnd t) (hb : DSs X F0 H0 W body g) : DS X F0 H0 W (.While cnd body [] pos) (fun ρ => whileN t g (n ρ) ρ) := by
  refine PS.imp (ps_while c.po hc hb) fun D σ H ⟨ρ, F, sr, q⟩ => ?_
  refine ⟨fun m σ H => ∃ ρ F, SR X.K F0 H0 ρ σ H F ∧ Fin X.mg X.K F0 H0 W (whileN t g m ρ) D F, ⟨n ρ, ρ, F, sr, q⟩, ?_⟩
  rintro m σ1 H1 ⟨ρ1, F1, sr1, q1⟩
  cases m with
  | zero => exact q1.elim
  | succ m =>
    refine ⟨ρ1, F1, sr1, ?_⟩
    simp only [whileN] at q1
    cases e : t ρ1 with
    | bad => simp only [e] at q1; exact q1
    | exc x => simp only [e] at q1; exact fun cls dd H2 F2 g r => q1 cls dd σ1 H2 F2 (sr1.grow g) g.ff r
    | ok b =>
      intro v H2 F2 g2 r2
      obtain rfl : v = b := r2
      cases v with
      | false => simp only [e] at q1; simp only [Bool.false_eq_true, if_false]; exact q1 σ1 H2 F2 (sr1.grow g2) g2.ff
      | true =>
        simp only [e] at q1
        simp only [if_true]
        refine ⟨fun σ' H' => ∃ ρ' F', SR X.K F0 H0 ρ' σ' H' F' ∧ Fin X.mg X.K F0 H0 W (whileN t g m ρ') D F', fun σ' H' ⟨ρ', F', a, b⟩ => ⟨m, Nat.lt_succ_self _, ρ', F', a, b⟩, ρ1, F2, sr1.grow g2, ?_⟩
        have q2 := q1.weak g2.ff
        cases e2 : g ρ1 with
        | nx ρ4 => simp only [e2] at q2; exact fun σ4 H4 F4 sr4 x4 => ⟨ρ4, F4, sr4, q2.weak x4⟩
        | ct ρ4 => simp only [e2] at q2; exact fun σ4 H4 F4 sr4 x4 => ⟨ρ4, F4, sr4, q2.weak x4⟩
        | bk ρ4 => simp only [e2] at q2; exact q2
        | rt d => simp only [e2] at q2; exact q2
        | exc x ρ4 => simp only [e2] at q2; exact q2
        | bad => simp only [e2] at q2; exact q2

/-! ### comprehensions -/
def wipeS (ρ : Sls) : List Nat → Sls
  | [] => ρ
  | v :: vs => (wipeS ρ vs).set v .un
theorem SR.wipe1 {K : PySem.W.Frag} {σ : L2.St} {H F : Hp} {ρ : Sls} (r : SR K F0 H0 ρ σ H F) (i : Nat) : SR K F0 H0 (ρ.set i .un) (σ.set i none) H F := by
  have ow : ∀ j a, OwnAt (ρ.set i .un) (σ.set i none) j a → j ≠ i ∧ OwnAt ρ σ j a := fun j a ⟨⟨ds, e1⟩, e2⟩ => by
    by_cases hj : j = i
    · subst hj
      by_cases hl : j < ρ.length
      · rw [List.getElem?_set_self hl] at e1; cases e1
      · rw [List.getElem?_eq_none (by simpa using hl)] at e1; cases e1
    · rw [List.getElem?_set_ne (Ne.symm hj)] at e1 e2
      exact ⟨hj, ⟨ds, e1⟩, e2⟩
  refine ⟨r.gr, by simp [r.len], fun j s e => ?_, fun j a o => r.own0 j a (ow j a o).2, fun j k a o1 o2 => r.sep j k a (ow j a o1).2 (ow k a o2).2⟩
  by_cases hj : j = i
  · subst hj
    by_cases hl : j < ρ.length
    · rw [List.getElem?_set_self hl] at e; cases e
      exact True.intro
    · rw [List.getElem?_eq_none (by simpa using hl)] at e; cases e
  · rw [List.getElem?_set_ne (Ne.symm hj)] at e ⊢
    exact r.sl j s e
theorem SR.wipeAll {K : PySem.W.Frag} {σ : L2.St} {H F : Hp} {ρ : Sls} (r : SR K F0 H0 ρ σ H F) : ∀ vs : List Nat, SR K F0 H0 (wipeS ρ vs) (wipe σ vs) H F
  | [] => r
  | v :: vs => (SR.wipeAll r vs).wipe1 v
theorem wipe_sub {σ : L2.St} {vs : List Nat} : ∀ {us : List Nat}, (∀ i ∈ us, i ∈ vs) → wipe (wipe σ us) vs = wipe σ vs
  | [], _ => rfl
  | u :: us, h => by
    show wipe ((wipe σ us).set u none) vs = wipe σ vs
    rw [wipe_set (h u List.mem_cons_self)]
    exact wipe_sub fun i hi => h i (List.mem_cons_of_mem _ hi)
def tYesD : Sls → Res Bool := fun _ => .ok true
def DTs (X : Cx) (F0 H0 : Hp) (W : WX) (ifs : List Expr) (t : Sls → Res Bool) : Prop := PTs X ifs (rd X.mg X.K F0 H0 W REq t)
theorem PTs.imp {X : Cx} {e : List Expr} {t t' : TT} (h : PTs X e t) (k : ∀ σ H Q, t' σ H Q → t σ H Q) : PTs X e t' := ⟨fun pins s σ H Q I q => h.run pins s σ H Q I (k σ H Q q)⟩
theorem dts_nil : DTs X F0 H0 W [] tYesD := PTs.imp pts_nil fun σ H Q ⟨ρ, F, sr, q⟩ => q true H F (.refl sr.ex) rfl
theorem dts_one {t : Sls → Res Bool} (h : DT X F0 H0 W c t) : DTs X F0 H0 W [c] t := pts_one h
/-- what a comprehension makes -/
def compL (bt : PyData → Sls → Option Sls) (t : Sls → Res Bool) (f : Sls → Res PyData) (ρ : Sls) : List PyData → Res (List PyData)
  | [] => .ok []
  | d :: ds => match bt d ρ with
    | none => .bad
    | some ρ1 => match t ρ1 with
      | .ok true => match f ρ1 with
        | .ok y => compL bt t f ρ ds >>= fun ys => .ok (y :: ys)
        | _ => .bad
      | .ok false => compL bt t f ρ ds
      | _ => .bad
theorem compL_noexc {bt : PyData → Sls → Option Sls} {t : Sls → Res Bool} {f : Sls → Res PyData} {ρ : Sls} {x : Xn} : ∀ ds, compL bt t f ρ ds ≠ .exc x
  | [] => by intro h; cases h
  | d :: ds => by
    intro h
    simp only [compL] at h
    have ih := compL_noexc (bt := bt) (t := t) (f := f) (ρ := ρ) (x := x) ds
    cases e1 : bt d ρ with
    | none => simp only [e1] at h; cases h
    | some ρ1 =>
      simp only [e1] at h
      cases e2 : t ρ1 with
      | ok b =>
        simp only [e2] at h
        cases b with
        | true =>
          simp only at h
          cases e3 : f ρ1 with
          | ok y =>
            simp only [e3] at h
            cases e4 : compL bt t f ρ ds with
            | ok ys => simp only [e4, bind_ok] at h; cases h
            | exc z => simp only [e4, bind_exc] at h; cases h; exact ih e4
            | bad => simp only [e4, bind_bad] at h; cases h
          | exc z => simp only [e3] at h; cases h
          | bad => simp only [e3] at h; cases h
        | false => exact ih h
      | exc z => simp only [e2] at h; cases h
      | bad => simp only [e2] at h; cases h
def dLc (fs : Sls → Res (List PyData)) (bt : PyData → Sls → Option Sls) (t : Sls → Res Bool) (f : Sls → Res PyData) (vs : List Nat) (ρ : Sls) : Res (List PyData) :=
  fs ρ >>= fun ds => if ds.length ≤ 16777216 then compL bt t f (wipeS ρ vs) ds else .bad
theorem lc_run {fi : Sls → Res (List PyData)} {bt : PyData → Sls → Option Sls} {t : Sls → Res Bool} {fe : Sls → Res PyData} {vs : List Nat} {σ : L2.St} {H : Hp} {Q : VK} {ws : List Nat} (hw : ∀ i ∈ ws, i ∈ vs)
    (h : nOf F0 H0 W X.mg X.K (dLc fi bt t fe vs) σ H Q) : tLc (iOf X.mg X.K F0 H0 W fi) (gOf X.K F0 H0 bt ws) (rd X.mg X.K F0 H0 WF REq t) (rd X.mg X.K F0 H0 WF (Den X.K) fe) vs σ H Q := by
  obtain ⟨ρ, F, sr, q⟩ := h
  refine ⟨ρ, F, sr, ?_⟩
  unfold dLc at q
  cases e : fi ρ with
  | exc x => simp only [e, bind_exc] at q; exact q
  | bad => simp only [e, bind_bad] at q
  | ok ds =>
    simp only [e, bind_ok] at q
    by_cases hz : ds.length ≤ 16777216
    case neg => simp only [hz, if_false] at q
    simp only [hz, if_true] at q
    intro J H1 F1 g1 ok D hD
    have hD0 : H D = none := not_of_none g1.hh hD
    have sr1 := sr.grow g1
    refine ⟨fun i m Hi => m = ds.length - i ∧ i ≤ ds.length ∧ ∃ H' F' acc accD, Gr F1 H1 F' H' ∧ H' D = none ∧ F' D = none ∧ Hi = upd H' D (.lst acc) ∧ acc.length ≤ i ∧ Dens X.K F' acc accD ∧
        (match compL bt t fe (wipeS ρ vs) (ds.drop i) with
          | .ok r => ∀ a xs H2 F2, Gr F H F2 H2 → H a = none → H2 a = some (.lst xs) → F2 a = none → Dens X.K F2 xs (accD ++ r) → Q (.ref a) H2
          | _ => False), ⟨ds.length, by simp, Nat.zero_le _, H1, F1, [], [], .refl g1.fh, hD, not_of_none g1.fh hD, rfl, Nat.le_refl _, .nil, ?_⟩, ?_⟩
    · rw [List.drop_zero]
      cases e2 : compL bt t fe (wipeS ρ vs) ds with
      | ok r => rw [e2] at q; simpa using q
      | exc x => exact absurd e2 (compL_noexc ds)
      | bad => rw [e2] at q; exact q
    · rintro i m Hi ⟨rfl, hi, H', F', acc, accD, g2, hn, hFn, rfl, hacc, dacc, q2⟩
      have grD : Gr F' H' F' (upd H' D (.lst acc)) := Gr.newO g2.fh hn
      by_cases hlt : i < ds.length
      · have hd : ds[i]? = some ds[i] := List.getElem?_eq_getElem hlt
        rw [List.drop_eq_getElem_cons hlt] at q2
        refine .inr ⟨ok.go i _ (g2.ff.trans grD.fh) hlt, fun Hi => i + 1 ≤ ds.length ∧ ∃ H' F' acc accD, Gr F1 H1 F' H' ∧ H' D = none ∧ F' D = none ∧ Hi = upd H' D (.lst acc) ∧ acc.length ≤ i + 1 ∧ Dens X.K F' acc accD ∧
          (match compL bt t fe (wipeS ρ vs) (ds.drop (i + 1)) with
            | .ok r => ∀ a xs H2 F2, Gr F H F2 H2 → H a = none → H2 a = some (.lst xs) → F2 a = none → Dens X.K F2 xs (accD ++ r) → Q (.ref a) H2
            | _ => False), fun Hi ⟨hj, rest⟩ => ⟨ds.length - (i + 1), by omega, rfl, hj, rest⟩, fun x H3 y => ?_⟩
        obtain ⟨F3, g3, dn⟩ := ok.yld i _ x H3 F' _ g2.ff grD.fh hd y
        -- the slots of the block
        have srB : SR X.K F0 H0 (wipeS ρ vs) (wipe σ vs) H3 F3 := ((sr1.wipeAll vs).grow (g2.trans grD)).grow g3
        refine ⟨wipeS ρ vs, F3, ds[i], srB, dn, ?_⟩
        simp only [compL] at q2
        cases e1 : bt ds[i] (wipeS ρ vs) with
        | none => simp only [e1] at q2
        | some ρ3 =>
          simp only [e1] at q2
          refine fun σ3 sr3 hwp => ⟨(hwp vs hw).trans (wipe_sub fun _ h => h), ρ3, F3, sr3, ?_⟩
          -- the heap without the list
          have back : ∀ {Hx Fx : Hp}, Gr F3 H3 Fx Hx → ∃ Hy, Gr F1 H1 Fx Hy ∧ Hy D = none ∧ Fx D = none ∧ Hx = upd Hy D (.lst acc) := fun {Hx Fx} gx => by
            have nD : Fx D = none := gx.nf D (g3.nf D hFn (by rw [upd_same]; simp)) (by rw [g3.hh D _ upd_same]; simp)
            have eD : Hx D = some (.lst acc) := gx.hh D _ (g3.hh D _ upd_same)
            refine ⟨fun b => if b = D then none else Hx b, ⟨g2.ff.trans (g3.ff.trans gx.ff), fun b o z => ?_, fun b o z => ?_, fun b z1 z2 => ?_, fun b ob u z1 z2 => ((g2.trans grD).trans (g3.trans gx)).nz b ob u z1 z2⟩, if_pos rfl, nD, ?_⟩
            · have hb : b ≠ D := fun w => by rw [w, hD] at z; cases z
              show (if b = D then none else Hx b) = some o
              rw [if_neg hb]
              exact gx.hh _ _ (g3.hh _ _ (grD.hh _ _ (g2.hh _ _ z)))
            · have hb : b ≠ D := fun w => by rw [w, nD] at z; cases z
              show (if b = D then none else Hx b) = some o
              rw [if_neg hb]
              exact gx.fh _ _ z
            · have y1 := g2.nf b z1 z2
              have z3 : H' b ≠ none := fun w => by
                cases w2 : H1 b with
                | none => exact z2 w2
                | some o => rw [g2.hh b o w2] at w; cases w
              have z4 : upd H' D (.lst acc) b ≠ none := fun w => by
                by_cases hb : b = D
                · rw [hb, upd_same] at w; cases w
                · rw [upd_ne hb] at w; exact z3 w
              have y2 := g3.nf b y1 z4
              exact gx.nf b y2 fun w => z4 (by
                cases w2 : upd H' D (.lst acc) b with
                | none => rfl
                | some o => rw [g3.hh b o w2] at w; cases w)
            · funext b
              show Hx b = if b = D then some (HO.lst acc) else if b = D then none else Hx b
              by_cases hb : b = D
              · rw [if_pos hb, hb]; exact eD
              · rw [if_neg hb, if_neg hb]
          cases e2 : t ρ3 with
          | exc x => simp only [e2] at q2
          | bad => simp only [e2] at q2
          | ok b =>
            simp only [e2] at q2
            intro v H4 F4 g4 r4
            obtain rfl : v = b := r4
            cases v with
            | false =>
              simp only [Bool.false_eq_true, if_false] at q2 ⊢
              obtain ⟨Hy, gy, hy, fy, rfl⟩ := back g4
              exact ⟨hlt, Hy, F4, acc, accD, gy, hy, fy, rfl, Nat.le_succ_of_le hacc, (dacc.mono g3.ff).mono g4.ff, q2⟩
            | true =>
              simp only [if_true] at q2 ⊢
              refine ⟨ρ3, F4, sr3.grow g4, ?_⟩
              cases e3 : fe ρ3 with
              | exc x => simp only [e3] at q2
              | bad => simp only [e3] at q2
              | ok z =>
                simp only [e3] at q2
                intro u H5 F5 g5 r5
                obtain ⟨Hy, gy, hy, fy, rfl⟩ := back (g4.trans g5)
                refine ⟨acc, upd_same, by rw [line24]; omega, hlt, Hy, F5, acc ++ [u], accD ++ [z], gy, hy, fy, upd_upd, by rw [List.length_append]; exact Nat.succ_le_succ hacc, (((dacc.mono g3.ff).mono g4.ff).mono g5.ff).append (.cons r5 .nil), ?_⟩
                cases e4 : compL bt t fe (wipeS ρ vs) (ds.drop (i + 1)) with
                | ok r => rw [e4] at q2; simp only [bind_ok] at q2; simpa using q2
                | exc x => rw [e4] at q2; simp only [bind_exc] at q2
                | bad => rw [e4] at q2; simp only [bind_bad] at q2
      · have e3 : i = ds.length := by omega
        subst e3
        rw [List.drop_length] at q2
        simp only [compL, List.append_nil] at q2
        refine .inl ⟨ok.stop _ _ (g2.ff.trans grD.fh) rfl, ?_⟩
        exact q2 D acc _ F' (g1.trans (g2.trans grD)) hD0 upd_same hFn dacc
theorem dn_lc {elt iter : Expr} {ifs : List Expr} {scope : Scope} {own : List (Str × Nat)} {fi : Sls → Res (List PyData)} {bt : PyData → Sls → Option Sls} {t : Sls → Res Bool} {fe : Sls → Res PyData} {ws : List Nat} {k : Nat} (c : Cz X W k) (hN : X.N.Nodup) (hi : DI X F0 H0 W tg iter fi) (ok : BlkOk X.N X.env.scope scope own)
    (hw : ∀ i ∈ ws, i ∈ own.map (·.2))
    (hg : ∀ (s : Shared) (H : Hp) (C : Addr) (cl : List (Str × Addr)) (fp : List Addr), Cz (X.blk s H scope (compEnvC scope cl C X.env) fp) WF k → DG (X.blk s H scope (compEnvC scope cl C X.env) fp) F0 H0 tg bt ws)
    (ht : ∀ (s : Shared) (H : Hp) (C : Addr) (cl : List (Str × Addr)) (fp : List Addr), Cz (X.blk s H scope (compEnvC scope cl C X.env) fp) WF k → DTs (X.blk s H scope (compEnvC scope cl C X.env) fp) F0 H0 WF ifs t)
    (he : ∀ (s : Shared) (H : Hp) (C : Addr) (cl : List (Str × Addr)) (fp : List Addr), Cz (X.blk s H scope (compEnvC scope cl C X.env) fp) WF k → DE (X.blk s H scope (compEnvC scope cl C X.env) fp) F0 H0 WF elt fe) (hs : ∀ x, foldedSetIterable iter X.env x = pure x := by intro _; rfl) :
    DN X F0 H0 W (.ListComp elt [⟨tg, iter, ifs, 0⟩] scope pos) (dLc fi bt t fe (own.map (·.2))) :=
  PE.imp (pe_lc (g := gOf X.K F0 H0 bt ws) (tt := rd X.mg X.K F0 H0 WF REq t) (te := rd X.mg X.K F0 H0 WF (Den X.K) fe) c.calm hN hi ok (fun s H C cl fp => hg s H C cl fp (c.blk ..)) (fun s H C cl fp => ht s H C cl fp (c.blk ..)) (fun s H C cl fp => he s H C cl fp (c.blk ..)) hs) fun _ _ _ h => lc_run hw h
/-- y = [..] -/
theorem ds_lcN {i : Nat} {y : Str} {py spos : Pos} {elt iter : Expr} {ifs : List Expr} {scope : Scope} {own : List (Str × Nat)} {fi : Sls → Res (List PyData)} {bt : PyData → Sls → Option Sls} {t : Sls → Res Bool} {fe : Sls → Res PyData} {ws : List Nat} {k : Nat} (c : Cz X W k) (hN : X.N.Nodup) (hy : X.N[i]? = some y) (hyl : X.env.scope.names.lookup y = some .local)
    (hsw : swapsWith (.ListComp elt [⟨tg, iter, ifs, 0⟩] scope pos) (some (.Name y py)) spos.line X.env = pure true) (hi : DI X F0 H0 W tg iter fi) (ok : BlkOk X.N X.env.scope scope own)
    (hw : ∀ i ∈ ws, i ∈ own.map (·.2))
    (hg : ∀ (s : Shared) (H : Hp) (C : Addr) (cl : List (Str × Addr)) (fp : List Addr), Cz (X.blk s H scope (compEnvC scope cl C X.env) fp) WF k → DG (X.blk s H scope (compEnvC scope cl C X.env) fp) F0 H0 tg bt ws)
    (ht : ∀ (s : Shared) (H : Hp) (C : Addr) (cl : List (Str × Addr)) (fp : List Addr), Cz (X.blk s H scope (compEnvC scope cl C X.env) fp) WF k → DTs (X.blk s H scope (compEnvC scope cl C X.env) fp) F0 H0 WF ifs t)
    (he : ∀ (s : Shared) (H : Hp) (C : Addr) (cl : List (Str × Addr)) (fp : List Addr), Cz (X.blk s H scope (compEnvC scope cl C X.env) fp) WF k → DE (X.blk s H scope (compEnvC scope cl C X.env) fp) F0 H0 WF elt fe) (hs : ∀ x, foldedSetIterable iter X.env x = pure x := by intro _; rfl) :
    DS X F0 H0 W (.Assign [.Name y py] (.ListComp elt [⟨tg, iter, ifs, 0⟩] scope pos) spos) (gSetN i (dLc fi bt t fe (own.map (·.2)))) :=
  PS.imp (ps_setLc (g := gOf X.K F0 H0 bt ws) (tt := rd X.mg X.K F0 H0 WF REq t) (te := rd X.mg X.K F0 H0 WF (Den X.K) fe) c.calm hN hy hyl hsw hi ok (fun s H C cl fp => hg s H C cl fp (c.blk ..)) (fun s H C cl fp => ht s H C cl fp (c.blk ..)) (fun s H C cl fp => he s H C cl fp (c.blk ..)) hs) fun D σ H ⟨ρ, F, sr, q⟩ => lc_run hw (fin_n sr q)
/-- the same, at once data -/
def gFrz (i : Nat) (g : Sls → Out) (ρ : Sls) : Out := match g ρ with
  | .nx ρ' => .nx (frz i ρ')
  | o => o
theorem DS.post {st : Stmt} {g : Sls → Out} (i : Nat) (h : DS X F0 H0 W st g) : DS X F0 H0 W st (gFrz i g) := PS.imp h fun D σ H ⟨ρ, F, sr, q⟩ => ⟨ρ, F, sr, by
  unfold gFrz at q
  cases e : g ρ with
  | nx ρ' =>
    simp only [e] at q
    intro σ' H' F' sr' x
    obtain ⟨F2, x2, sr2⟩ := frz_sr i sr'
    exact q σ' H' F2 sr2 (x.trans x2)
  | rt d => simp only [e] at q; exact q
  | bk ρ' => simp only [e] at q; exact q
  | ct ρ' => simp only [e] at q; exact q
  | exc x ρ' => simp only [e] at q; exact q
  | bad => simp only [e] at q; exact q⟩
end
end DL

/-! DL6: calls of defs, a def's body, methods of texts. -/
namespace DL
open PySem PySem.Spec PyProof.Rows L2

/-- a def's promise by a function of data -/
def spD (mg : Str → Option Value) (K : PySem.W.Frag) (n : Nat) (Fn : List PyData → Res PyData) : Sp := fun vs H Q E => ∃ ds Fz, vs.length = n ∧ Ex Fz H ∧ Dens K Fz vs ds ∧ match Fn ds with
  | .ok d => ∀ v H' F', Gr Fz H F' H' → Den K F' v d → Q v H'
  | .exc x => ∀ cls dd H' F', Gr Fz H F' H' → ExR mg x cls dd H' F' → E cls dd H'
  | .bad => False
/-- the def at f keeps to Fn, within k levels -/
abbrev FnD (P : Program) (w : World) (K : PySem.W.Frag) (mg : Str → Option Value) (base : Heap) (k : Nat) (f : Addr) (fd : FuncData) (ps : List Str) (Fn : List PyData → Res PyData) : Prop :=
  FnOk P w K mg base (L2.CX P w) k f fd ps (spD mg K ps.length Fn)
section
variable {X : Cx} {F0 H0 : Hp} {W : WX} {pos p : Pos} {e : Expr} {es : List Expr} {fs : Sls → Res (List PyData)} {k j : Nat} {f : Addr} {fd : FuncData} {ps : List Str} {Fn : List PyData → Res PyData} {x : Str}
def dCall (Fn : List PyData → Res PyData) (fs : Sls → Res (List PyData)) (ρ : Sls) : Res PyData := fs ρ >>= Fn
theorem call_run {σ : L2.St} {H : Hp} {Q : VK} {n : Nat} (hn : ∀ ρ ds, fs ρ = .ok ds → ds.length = n) (h : rd X.mg X.K F0 H0 W (Den X.K) (dCall Fn fs) σ H Q) :
    tCallS (spD X.mg X.K n Fn) (WE W) (rd X.mg X.K F0 H0 W (Dens X.K) fs) σ H Q := by
  obtain ⟨ρ, F, sr, q⟩ := h
  refine ⟨ρ, F, sr, ?_⟩
  unfold dCall at q
  cases e : fs ρ with
  | ok ds =>
    simp only [e, bind_ok] at q
    intro v H1 F1 g1 r1
    refine ⟨ds, F1, by rw [r1.length]; exact hn ρ ds e, g1.fh, r1, ?_⟩
    cases e2 : Fn ds with
    | ok d => rw [e2] at q; exact fun v H' F' g r => q v H' F' (g1.trans g) r
    | exc x => rw [e2] at q; exact fun cls dd H' F' g r => q cls dd H' F' (g1.trans g) r
    | bad => rw [e2] at q; exact q
  | exc x => simp only [e, bind_exc] at q; exact q
  | bad => simp only [e, bind_bad] at q; exact q
theorem de_call (G : FnD X.prog X.w X.K X.mg X.base j f fd ps Fn) (c : Cz X W k) (hj : j ≤ k) (hg : Gl X x) (hm : X.mg x = some (.ref f)) (hk : PySem.W.keepIn X.K (.ref f) = true) (hb : Binds X.K fd ps []) (ha : DA X F0 H0 W (e :: es) fs)
    (hn : ∀ ρ ds, fs ρ = .ok ds → ds.length = ps.length) (hdb : (x == ("__debug__" : Str)) = false := by decide) (he : starEach (e :: es) X.env = (false, eval e X.env) :: starEach es X.env := by rfl) (hpl : (backTo pos (starEach es X.env)).any (·.1) = false := by rfl) :
    DE X F0 H0 W (.Call (.Name x p) (e :: es) [] pos) (dCall Fn fs) :=
  PE.imp (pe_callS G (c.room.mono hj) hg hm hk hb (fun σ => passAt c.tk σ) ha hdb he hpl) fun _ _ _ h => call_run hn h
theorem de_call0 (G : FnD X.prog X.w X.K X.mg X.base j f fd [] Fn) (c : Cz X W k) (hj : j ≤ k) (hg : Gl X x) (hm : X.mg x = some (.ref f)) (hk : PySem.W.keepIn X.K (.ref f) = true) (hb : Binds X.K fd [] []) (hdb : (x == ("__debug__" : Str)) = false := by decide) :
    DE X F0 H0 W (.Call (.Name x p) [] [] pos) (fun _ => Fn []) := by
  refine ⟨fun pins s σ H Q I h => ?_⟩
  refine wpAny_Call_Name_kw (ld_glob I hg hm ?_ hdb)
  obtain ⟨ρ, F, sr, q⟩ := h
  refine PySem.W.callWith_K0 I.kIn hk (run_fnS (us := []) (vs := []) (E := WE W) G (c.room.mono hj) hb (passAt c.tk σ) I .nil ?_)
  refine ⟨[], F, rfl, sr.ex, .nil, ?_⟩
  cases e2 : Fn [] with
  | ok d => simp only [e2] at q; exact q
  | exc x => simp only [e2] at q; exact q
  | bad => simp only [e2] at q; exact q
/-- the number of arguments -/
theorem dCons_len {f : Sls → Res PyData} {fs : Sls → Res (List PyData)} {n : Nat} (h : ∀ ρ ds, fs ρ = .ok ds → ds.length = n) : ∀ ρ ds, dCons f fs ρ = .ok ds → ds.length = n + 1 := fun ρ ds e => by
  unfold dCons at e
  cases e1 : f ρ with
  | ok d =>
    simp only [e1, bind_ok] at e
    cases e2 : fs ρ with
    | ok es =>
      simp only [e2, bind_ok] at e
      cases e
      rw [List.length_cons, h ρ es e2]
    | exc x => simp only [e2, bind_exc] at e; cases e
    | bad => simp only [e2, bind_bad] at e; cases e
  | exc x => simp only [e1, bind_exc] at e; cases e
  | bad => simp only [e1, bind_bad] at e; cases e
theorem nil_len : ∀ (ρ : Sls) (ds : List PyData), (fun _ => .ok [] : Sls → Res (List PyData)) ρ = .ok ds → ds.length = 0 := fun ρ ds e => by cases e; rfl
end
/-! ### a def's body -/
def st0 (N : List Str) (ds : List PyData) : Sls := ds.map Sl.val ++ List.replicate (N.length - ds.length) Sl.un
def outR : Out → Res PyData
  | .rt d => .ok d
  | .nx _ => .ok .none
  | .exc x _ => .exc x
  | _ => .bad
theorem dens_sl {K : PySem.W.Frag} {F : Hp} : ∀ {vs : List V} {ds : List PyData}, Dens K F vs ds → ∀ (i : Nat) (n : Nat) (m : Nat) (s : Sl), (ds.map Sl.val ++ List.replicate n Sl.un)[i]? = some s → ∀ H, SlOk K H F (vs.map some ++ List.replicate m none)[i]? s
  | _, _, .nil, i, n, m, s, e, H => by
    rw [List.map_nil, List.nil_append, List.getElem?_replicate] at e
    split at e
    · cases e; exact True.intro
    · cases e
  | _, _, .cons h q, 0, n, m, s, e, H => by
    cases e
    exact ⟨_, rfl, h⟩
  | _, _, .cons h q, i + 1, n, m, s, e, H => dens_sl q i n m s e H
theorem st0_sr {K : PySem.W.Frag} {H Fz : Hp} {vs : List V} {ds : List PyData} (N : List Str) (hl : ds.length ≤ N.length) (e : Ex Fz H) (d : Dens K Fz vs ds) : SR K Fz H (st0 N ds) (L2.start N vs) H Fz := by
  have noOwn : ∀ i a, ¬ OwnAt (st0 N ds) (L2.start N vs) i a := fun i a ⟨⟨xs, e1⟩, _⟩ => by
    unfold st0 at e1
    by_cases hi : i < ds.length
    · rw [List.getElem?_append_left (by simpa using hi), List.getElem?_map, List.getElem?_eq_getElem hi] at e1
      cases e1
    · rw [List.getElem?_append_right (by simpa using hi), List.getElem?_replicate] at e1
      split at e1 <;> cases e1
  refine ⟨.refl e, ?_, fun i s h => ?_, fun i a o => absurd o (noOwn i a), fun i j a o _ => absurd o (noOwn i a)⟩
  · unfold st0 L2.start
    have := d.length
    simp only [List.length_append, List.length_map, List.length_replicate]
    omega
  · unfold st0 at h
    unfold L2.start
    exact dens_sl d i _ _ s h H
section
variable {P : Program} {w : World} {K : PySem.W.Frag} {mg : Str → Option Value} {base : Heap} {x qual : Str} {st : Stmt} {f : Addr} {fd : FuncData} {N ps : List Str} {k : Nat} {Fn : List PyData → Res PyData} {g : Sls → Out}
/-- THE RULE for a def: its body by a function of the slots, which is Fn -/
theorem fn_D (Fu : Fun K x qual st f fd) (S : FnScope N ps (defScope st)) (hN : ps.length ≤ N.length)
    (hb : ∀ (cdv : Value) (A : Around) (outer : List PySem.Env) (s : Shared) (H : Hp) (E : XK) (Fz : Hp),
      Cz (cxOf (L2.CX P w) P w K mg base N qual (defScope st) f cdv A outer s H E) (fun cls dd _ H' => E cls dd H') k → DSs (cxOf (L2.CX P w) P w K mg base N qual (defScope st) f cdv A outer s H E) Fz H (fun cls dd _ H' => E cls dd H') (defBody st) g)
    (hF : ∀ ds, ds.length = ps.length → Fn ds = .bad ∨ outR (g (st0 N ds)) = Fn ds) : FnD P w K mg base (k + 1) f fd ps Fn := by
  refine Fu.okX S (fun vs H Q E h => ?_) (fun cdv A outer s H vs Q E hr h => ?_)
  · obtain ⟨ds, Fz, hl, _⟩ := h
    exact hl
  · obtain ⟨ds, Fz, hl, ex, dn, q⟩ := h
    have hlen : ds.length = ps.length := by rw [← dn.length]; exact hl
    refine ⟨_, hb cdv A outer s H E Fz ⟨rfl, takes_of rfl rfl rfl rfl, passes_of rfl, hr⟩, st0 N ds, Fz, st0_sr N (by omega) ex dn, ?_⟩
    rcases hF ds hlen with e | e
    · rw [e] at q; exact q.elim
    · rw [← e] at q
      cases e2 : g (st0 N ds) with
      | nx ρ' => simp only [e2, outR] at q; exact fun σ' H' F' sr' x => q .non H' F' sr'.gr .non
      | rt d => simp only [e2, outR] at q; exact fun v H' F' gr x r => q v H' F' gr r
      | bk ρ' => simp only [e2, outR] at q
      | ct ρ' => simp only [e2, outR] at q
      | exc y ρ' => simp only [e2, outR] at q; exact fun cls dd σ' H' F' sr' x r => q cls dd H' F' sr'.gr r
      | bad => simp only [e2, outR] at q
theorem FnD.mono {j : Nat} (G : FnD P w K mg base j f fd ps Fn) (h : j ≤ k) : FnD P w K mg base k f fd ps Fn := FnOk.mono G h
/-- another function that says no more -/
theorem FnD.imp {Fn' : List PyData → Res PyData} (G : FnD P w K mg base k f fd ps Fn) (h : ∀ ds, ds.length = ps.length → Fn' ds = .bad ∨ Fn ds = Fn' ds) : FnD P w K mg base k f fd ps Fn' := FnOk.imp G fun vs H Q E ⟨ds, Fz, hl, ex, dn, q⟩ => by
  refine ⟨ds, Fz, hl, ex, dn, ?_⟩
  rcases h ds (by rw [← dn.length]; exact hl) with e | e
  · rw [e] at q; exact q.elim
  · rw [e]; exact q
end
/-! ### methods of texts -/
section
variable {X : Cx} {F0 H0 : Hp} {W : WX} {o e : Expr} {es : List Expr} {f : Sls → Res PyData} {fs : Sls → Res (List PyData)} {name : Str} {apos cpos : Pos} {id : String}
def dM (g : PyData → List PyData → Option PyData) (f : Sls → Res PyData) (fs : Sls → Res (List PyData)) (ρ : Sls) : Res PyData := f ρ >>= fun x => match x with
  | .str z => fs ρ >>= fun xs => ofO (g (.str z) xs)
  | _ => .bad
theorem de_sm {g : PyData → List PyData → Option PyData} (slot : Slot "str" name id) (hty : typeOf (.builtin id) = pure (.type "method_descriptor")) (hm : MtR X id (rM X.K g)) (ho : DE X F0 H0 W o f) (ha : DA X F0 H0 W (e :: es) fs)
    (hbase : attributeBase o name X.env (eval o X.env) = eval o X.env := by rfl)
    (hfew : ((backTo cpos (starEach (e :: es) X.env)).all (fun x => !x.1) && (backToKw cpos (keywordEach [] X.env)).all (fun x => x.1.isSome)
      && decide ((e :: es).length + ([] : List Keyword).length + (if ([] : List Keyword).isEmpty then 0 else 1) < 30)) = true := by rfl)
    (hline : (apos.endLine == cpos.line) = true := by rfl) (hs : starEach (e :: es) X.env = (false, eval e X.env) :: starEach es X.env := by rfl) (hplain : (backTo cpos (starEach es X.env)).any (·.1) = false := by rfl) :
    DE X F0 H0 W (.Call (.Attribute o name apos) (e :: es) [] cpos) (dM g f fs) := by
  refine PE.imp (pe_bm PySem.F.plainAttrs_str slot hty hm ho ha hbase hfew hline hs hplain) fun σ H Q ⟨ρ, F, sr, q⟩ => ?_
  obtain ⟨ρ1, F1, sr1, q1⟩ := rd_step (R := Den X.K) sr q
  refine ⟨ρ1, F1, sr1, q1.imp fun v H1 F2 a g1 r1 k => ?_⟩
  obtain ⟨a', F3, g3, r3, sr3, q3⟩ := k v H1 F2 (.refl g1.fh) r1
  cases r3 with
  | str z =>
    refine ⟨rfl, ?_⟩
    obtain ⟨ρ4, F4, sr4, q4⟩ := rd_step (R := Dens X.K) sr3 q3
    refine ⟨ρ4, F4, sr4, q4.imp fun u H5 F5 b g5 r5 k5 => ?_⟩
    obtain ⟨b', F6, g6, r6, sr6, q6⟩ := k5 u H5 F5 (.refl g5.fh) r5
    exact ⟨.str z, b', F6, sr6.ex, .str z, r6, q6.rop⟩
  | _ => exact q3.elim
theorem de_sm0 {g : PyData → List PyData → Option PyData} (slot : Slot "str" name id) (hty : typeOf (.builtin id) = pure (.type "method_descriptor")) (hm : MtR X id (rM X.K g)) (ho : DE X F0 H0 W o f)
    (hbase : attributeBase o name X.env (eval o X.env) = eval o X.env := by rfl) (hline : (apos.endLine == cpos.line) = true := by rfl) :
    DE X F0 H0 W (.Call (.Attribute o name apos) [] [] cpos) (dM g f (fun _ => .ok [])) := by
  refine PE.imp (pe_bm0 PySem.F.plainAttrs_str slot hty hm ho hbase hline) fun σ H Q ⟨ρ, F, sr, q⟩ => ?_
  obtain ⟨ρ1, F1, sr1, q1⟩ := rd_step (R := Den X.K) sr q
  refine ⟨ρ1, F1, sr1, q1.imp fun v H1 F2 a g1 r1 k => ?_⟩
  obtain ⟨a', F3, g3, r3, sr3, q3⟩ := k v H1 F2 (.refl g1.fh) r1
  cases r3 with
  | str z => exact ⟨rfl, .str z, [], F3, sr3.ex, .str z, .nil, Rest.rop q3⟩
  | _ => exact q3.elim
def strsOf : List PyData → Option (List Str)
  | [] => some []
  | .str x :: r => (strsOf r).map (x :: ·)
  | _ :: _ => none
theorem strsOf_map (ys : List Str) : strsOf (ys.map PyData.str) = some ys := by
  induction ys with
  | nil => rfl
  | cons y ys ih => rw [List.map_cons]; simp only [strsOf, ih, Option.map_some]
theorem strsOf_eq : ∀ {ds : List PyData} {ys : List Str}, strsOf ds = some ys → ds = ys.map PyData.str
  | [], ys, h => by cases h; rfl
  | d :: ds, ys, h => by
    cases d with
    | str x =>
      simp only [strsOf] at h
      cases e : strsOf ds with
      | none => rw [e] at h; cases h
      | some zs =>
        rw [e] at h
        cases h
        rw [strsOf_eq e]
        rfl
    | _ => cases h
def joinS (sep : Str) (ds : List PyData) : Option PyData := (strsOf ds).bind fun ys => if (ys.map (·.length)).sum + ys.length * sep.length ≤ 16777216 then some (.str (Txt.join sep ys)) else none
def joinD (a : PyData) (as : List PyData) : Option PyData := match a, as with
  | .str sep, [.list ds] => joinS sep ds
  | .str sep, [.tuple ds] => joinS sep ds
  | _, _ => none
theorem mt_joinD {X : Cx} : MtR X "str.join" (rM X.K joinD) := by
  intro pins s σ H x xs v us Q I rx rs h
  obtain ⟨a, as, F, ex, da, das, q⟩ := h
  cases da with
  | str sep =>
    cases das with
    | nil => exact q.elim
    | cons d1 d2 =>
      cases d2 with
      | cons _ _ => cases d1 <;> exact q.elim
      | nil =>
        cases d1 with
        | @lst p xs ds h1 h2 =>
          have q' : Rop X.K (joinS sep ds) H F Q := q
          unfold joinS at q'
          cases e : strsOf ds with
          | none => rw [e] at q'; exact q'.elim
          | some ys =>
            rw [e] at q'
            simp only [Option.bind_some] at q'
            by_cases hz : (ys.map (·.length)).sum + ys.length * sep.length ≤ 16777216
            · rw [if_pos hz] at q'
              have e2 := strsOf_eq e
              subst e2
              have e3 := h2.strs
              subst e3
              exact mt_join pins s σ H _ _ v us Q I rx rs ⟨sep, p, ys, rfl, rfl, .inl (ex.sl h1), hz, q'.val ex (.str _)⟩
            · rw [if_neg hz] at q'; exact q'.elim
        | @tup p xs ds h1 h2 =>
          have q' : Rop X.K (joinS sep ds) H F Q := q
          unfold joinS at q'
          cases e : strsOf ds with
          | none => rw [e] at q'; exact q'.elim
          | some ys =>
            rw [e] at q'
            simp only [Option.bind_some] at q'
            by_cases hz : (ys.map (·.length)).sum + ys.length * sep.length ≤ 16777216
            · rw [if_pos hz] at q'
              have e2 := strsOf_eq e
              subst e2
              have e3 := h2.strs
              subst e3
              exact mt_join pins s σ H _ _ v us Q I rx rs ⟨sep, p, ys, rfl, rfl, .inr (ex.st h1), hz, q'.val ex (.str _)⟩
            · rw [if_neg hz] at q'; exact q'.elim
        | _ => exact q.elim
  | _ => exact q.elim
def upperD (a : PyData) (as : List PyData) : Option PyData := match a, as with
  | .str x, [] => if x.length ≤ 5592405 then some (.str (Txt.upper x)) else none
  | _, _ => none
def lowerD (a : PyData) (as : List PyData) : Option PyData := match a, as with
  | .str x, [] => if x.length ≤ 5592405 then some (.str (Txt.lower x)) else none
  | _, _ => none
def startsD (a : PyData) (as : List PyData) : Option PyData := match a, as with
  | .str x, [.str y] => some (.bool (Txt.startswith x y))
  | _, _ => none
theorem mt_upperD {X : Cx} : MtR X "str.upper" (rM X.K upperD) := by
  intro pins s σ H x xs v us Q I rx rs h
  obtain ⟨a, as, F, ex, da, das, q⟩ := h
  cases da with
  | str z =>
    cases das with
    | nil =>
      have q' : Rop X.K (if z.length ≤ 5592405 then some (.str (Txt.upper z)) else none) H F Q := q
      by_cases hz : z.length ≤ 5592405
      · rw [if_pos hz] at q'
        exact mt_upper pins s σ H _ _ v us Q I rx rs ⟨z, rfl, rfl, hz, q'.val ex (.str _)⟩
      · rw [if_neg hz] at q'; exact q'.elim
    | cons _ _ => exact q.elim
  | _ => exact q.elim
theorem mt_lowerD {X : Cx} : MtR X "str.lower" (rM X.K lowerD) := by
  intro pins s σ H x xs v us Q I rx rs h
  obtain ⟨a, as, F, ex, da, das, q⟩ := h
  cases da with
  | str z =>
    cases das with
    | nil =>
      have q' : Rop X.K (if z.length ≤ 5592405 then some (.str (Txt.lower z)) else none) H F Q := q
      by_cases hz : z.length ≤ 5592405
      · rw [if_pos hz] at q'
        exact mt_lower pins s σ H _ _ v us Q I rx rs ⟨z, rfl, rfl, hz, q'.val ex (.str _)⟩
      · rw [if_neg hz] at q'; exact q'.elim
    | cons _ _ => exact q.elim
  | _ => exact q.elim
theorem mt_startsD {X : Cx} : MtR X "str.startswith" (rM X.K startsD) := by
  intro pins s σ H x xs v us Q I rx rs h
  obtain ⟨a, as, F, ex, da, das, q⟩ := h
  cases da with
  | str z =>
    cases das with
    | nil => exact q.elim
    | cons d1 d2 =>
      cases d2 with
      | cons _ _ => cases d1 <;> exact q.elim
      | nil =>
        cases d1 with
        | str y => exact mt_startswith pins s σ H _ _ v us Q I rx rs ⟨z, y, rfl, rfl, q.val ex (.bl _)⟩
        | _ => exact q.elim
  | _ => exact q.elim
end
end DL

/-! DL7: names for the printed walk, module constants, the end. -/
namespace DL
open PySem PySem.Spec PyProof.Rows L2

def dNil : Sls → Res (List PyData) := fun _ => .ok []
def tupD : List PyData → Option PyData := fun ds => if ds.length ≤ 1000 then some (.tuple ds) else none
def dDisp (fs : Sls → Res (List PyData)) (ρ : Sls) : Res (List PyData) := fs ρ >>= fun ds => if ds.length ≤ 1000 then .ok ds else .bad
def dFr (fs : Sls → Res (List PyData)) (ρ : Sls) : Res PyData := fs ρ >>= fun ds => .ok (.list ds)
def notD : PyData → Option PyData := fun d => (truD d).map fun b => .bool (!b)
def dPart (f : Sls → Res PyData) (ρ : Sls) : Res (Option Int) := f ρ >>= fun d => ofO ((asI d).map some)
def isi1 (g : PyData → Bool) : PyData → Option PyData := fun d => some (.bool (g d))
def isi2 (g g' : PyData → Bool) : PyData → Option PyData := fun d => some (.bool (g d || g' d))
def gBefore (i : Nat) (g : Sls → Out) (ρ : Sls) : Out := g (frz i ρ)
def gWhile (n : Sls → Nat) (t : Sls → Res Bool) (g : Sls → Out) (ρ : Sls) : Out := whileN t g (n ρ) ρ
def dNL (fs : Sls → Res (List PyData)) (ρ : Sls) : Res (List PyData) := fs ρ >>= fun ds => match ds with
  | [.list xs] => .ok xs
  | [.tuple xs] => .ok xs
  | _ => .bad

section
variable {X : Cx} {F0 H0 : Hp} {W : WX} {pos : Pos} {x : Str}
theorem de_globI {n : Int} (hg : Gl X x) (hm : ∃ t, X.mg x = some (.int n t)) (h : (x == ("__debug__" : Str)) = false := by decide) : DE X F0 H0 W (.Name x pos) (fun _ => .ok (.int n)) := by
  obtain ⟨t, hm⟩ := hm
  exact de_glob (v := .int n) hg hm ⟨t, rfl⟩ (fun _ => .int n) h
theorem de_globS {n : Str} (hg : Gl X x) (hm : ∃ t, X.mg x = some (.str n t)) (h : (x == ("__debug__" : Str)) = false := by decide) : DE X F0 H0 W (.Name x pos) (fun _ => .ok (.str n)) := by
  obtain ⟨t, hm⟩ := hm
  exact de_glob (v := .str n) hg hm ⟨t, rfl⟩ (fun _ => .str n) h
theorem de_globR {d : PyData} (hg : Gl X x) (hm : ∃ a, X.mg x = some (.ref a) ∧ ∀ F, Den X.K F (.ref a) d) (h : (x == ("__debug__" : Str)) = false := by decide) : DE X F0 H0 W (.Name x pos) (fun _ => .ok d) := by
  obtain ⟨a, hm, hd⟩ := hm
  exact de_glob (v := .ref a) hg hm rfl hd h
/-- {} -/
theorem de_dict0 : DE X F0 H0 W (.Dict [] [] pos) (fun _ => .ok (.dict [])) :=
  PE.imp pe_dnewK fun σ H Q ⟨ρ, F, sr, q⟩ p hp => q _ _ _ (Gr.new sr.ex hp) (.dic upd_same .nil)
/-- list(x), kept apart -/
theorem dn_list {e : Expr} {es : List Expr} {fs : Sls → Res (List PyData)} {p : Pos} (hg : Gl X x) (hm : X.mg x = none) (hv : bootBuiltins x = some (.type "list")) (ha : DA X F0 H0 W (e :: es) fs) (hn : x ≠ "__name__" := by decide) (hdb : (x == ("__debug__" : Str)) = false := by decide)
    (he : starEach (e :: es) X.env = (false, eval e X.env) :: starEach es X.env := by rfl) (hpl : (backTo pos (starEach es X.env)).any (·.1) = false := by rfl) : DN X F0 H0 W (.Call (.Name x p) (e :: es) [] pos) (dNL fs) := by
  refine PE.imp (pe_callTy call_list_of hg hm hv ha hn hdb he hpl) fun σ H Q ⟨ρ, F, sr, q⟩ => ?_
  refine ⟨ρ, F, sr, ?_⟩
  unfold dNL at q
  cases e : fs ρ with
  | exc x => simp only [e, bind_exc] at q; exact q
  | bad => simp only [e, bind_bad] at q
  | ok ds =>
    simp only [e, bind_ok] at q
    intro vs H1 F1 g1 r1
    cases r1 with
    | nil => exact q.elim
    | cons d1 d2 =>
      cases d2 with
      | cons _ _ => cases d1 <;> exact q.elim
      | nil =>
        cases d1 with
        | @lst l xs ds h1 h2 => exact ⟨l, xs, rfl, .inl (g1.fh.sl h1), fun p hp => q p xs _ F1 (g1.trans (Gr.newO g1.fh hp)) (not_of_none g1.hh hp) upd_same (not_of_none g1.fh hp) h2⟩
        | @tup l xs ds h1 h2 => exact ⟨l, xs, rfl, .inr (g1.fh.st h1), fun p hp => q p xs _ F1 (g1.trans (Gr.newO g1.fh hp)) (not_of_none g1.hh hp) upd_same (not_of_none g1.fh hp) h2⟩
        | _ => exact q.elim
end

/-! ### sums and ends of lists of ints -/
def intsOf : List PyData → Option (List Int)
  | [] => some []
  | .int i :: r => (intsOf r).map (i :: ·)
  | _ :: _ => none
theorem intsOf_map (ns : List Int) : intsOf (ns.map PyData.int) = some ns := by
  induction ns with
  | nil => rfl
  | cons n ns ih => rw [List.map_cons]; simp only [intsOf, ih, Option.map_some]
theorem intsOf_eq : ∀ {ds : List PyData} {ns : List Int}, intsOf ds = some ns → ds = ns.map PyData.int
  | [], ns, h => by cases h; rfl
  | d :: ds, ns, h => by
    cases d with
    | int x =>
      simp only [intsOf] at h
      cases e : intsOf ds with
      | none => rw [e] at h; cases h
      | some zs => rw [e] at h; cases h; rw [intsOf_eq e]; rfl
    | _ => cases h
def maxI : List Int → Option Int
  | [] => none
  | n :: ns => some (ns.foldl max n)
def minI : List Int → Option Int
  | [] => none
  | n :: ns => some (ns.foldl min n)
theorem foldl_max_ge : ∀ (ns : List Int) (n : Int), n ≤ ns.foldl max n ∧ ∀ y ∈ ns, y ≤ ns.foldl max n
  | [], n => ⟨Int.le_refl _, fun y h => by cases h⟩
  | m :: ns, n => by
    obtain ⟨h1, h2⟩ := foldl_max_ge ns (max n m)
    simp only [List.foldl_cons]
    refine ⟨by omega, fun y hy => ?_⟩
    rcases List.mem_cons.mp hy with rfl | hy
    · omega
    · exact h2 y hy
theorem foldl_max_mem : ∀ (ns : List Int) (n : Int), ns.foldl max n = n ∨ ns.foldl max n ∈ ns
  | [], n => .inl rfl
  | m :: ns, n => by
    simp only [List.foldl_cons]
    rcases foldl_max_mem ns (max n m) with h | h
    · rw [h]
      rcases Int.le_total n m with z | z
      · right; rw [Int.max_eq_right z]; exact List.mem_cons_self
      · left; exact Int.max_eq_left z
    · right; exact List.mem_cons_of_mem _ h
theorem foldl_min_le : ∀ (ns : List Int) (n : Int), ns.foldl min n ≤ n ∧ ∀ y ∈ ns, ns.foldl min n ≤ y
  | [], n => ⟨Int.le_refl _, fun y h => by cases h⟩
  | m :: ns, n => by
    obtain ⟨h1, h2⟩ := foldl_min_le ns (min n m)
    simp only [List.foldl_cons]
    refine ⟨by omega, fun y hy => ?_⟩
    rcases List.mem_cons.mp hy with rfl | hy
    · omega
    · exact h2 y hy
theorem foldl_min_mem : ∀ (ns : List Int) (n : Int), ns.foldl min n = n ∨ ns.foldl min n ∈ ns
  | [], n => .inl rfl
  | m :: ns, n => by
    simp only [List.foldl_cons]
    rcases foldl_min_mem ns (min n m) with h | h
    · rw [h]
      rcases Int.le_total n m with z | z
      · left; exact Int.min_eq_left z
      · right; rw [Int.min_eq_right z]; exact List.mem_cons_self
    · right; exact List.mem_cons_of_mem _ h
theorem max_is {ns : List Int} {m k : Int} (hm : m ∈ ns) (h : ∀ y, y ∈ ns → y ≤ m) (e : maxI ns = some k) : m = k := by
  cases ns with
  | nil => cases hm
  | cons n ns =>
    cases e
    have h1 := foldl_max_ge ns n
    have h3 : ns.foldl max n ∈ n :: ns := by
      rcases foldl_max_mem ns n with z | z
      · rw [z]; exact List.mem_cons_self
      · exact List.mem_cons_of_mem _ z
    have h4 := h _ h3
    rcases List.mem_cons.mp hm with rfl | z
    · omega
    · have := h1.2 m z; omega
theorem min_is {ns : List Int} {m k : Int} (hm : m ∈ ns) (h : ∀ y, y ∈ ns → m ≤ y) (e : minI ns = some k) : m = k := by
  cases ns with
  | nil => cases hm
  | cons n ns =>
    cases e
    have h1 := foldl_min_le ns n
    have h3 : ns.foldl min n ∈ n :: ns := by
      rcases foldl_min_mem ns n with z | z
      · rw [z]; exact List.mem_cons_self
      · exact List.mem_cons_of_mem _ z
    have h4 := h _ h3
    rcases List.mem_cons.mp hm with rfl | z
    · omega
    · have := h1.2 m z; omega
def maxLD : List PyData → Option PyData
  | [.list ds] => (intsOf ds).bind fun ns => (maxI ns).map .int
  | _ => none
def minLD : List PyData → Option PyData
  | [.list ds] => (intsOf ds).bind fun ns => (minI ns).map .int
  | _ => none
def sumD : List PyData → Option PyData
  | [.list ds] => (intsOf ds).map fun ns => .int ns.sum
  | _ => none
section
variable {X : Cx}
theorem oneList {K : PySem.W.Frag} {H F : Hp} {Q : VK} {as : List PyData} {xs : List V} {g : List PyData → Option PyData} (hg : ∀ as, (∀ ds, as ≠ [.list ds]) → g as = none) (ex : Ex F H) (da : Dens K F xs as) (q : Rop K (g as) H F Q) : ∃ l ys ds, as = [.list ds] ∧ xs = [.ref l] ∧ SqL K H l ys ∧ Dens K F ys ds := by
  cases da with
  | nil => rw [hg [] (by intro ds h; cases h)] at q; exact q.elim
  | cons d1 d2 =>
    cases d2 with
    | cons _ _ => rw [hg _ (by intro ds h; cases h)] at q; exact q.elim
    | nil =>
      cases d1 with
      | @lst l ys ds h1 h2 => exact ⟨l, ys, ds, rfl, rfl, ex.sl h1, h2⟩
      | _ => rw [hg _ (by intro ds h; cases h)] at q; exact q.elim
theorem call_maxLV (hc : X.calm = true) : CallR X (.builtin "max") (rL X.K maxLD) := by
  intro pins s σ H xs us Q I r h
  obtain ⟨as, F, ex, da, q⟩ := h
  obtain ⟨l, ys, ds, rfl, rfl, hl, hd⟩ := oneList (g := maxLD) (by intro as; unfold maxLD; split <;> intro h <;> first | rfl | exact absurd rfl (h _)) ex da q
  have q' : Rop X.K ((intsOf ds).bind fun ns => (maxI ns).map .int) H F Q := q
  cases e : intsOf ds with
  | none => rw [e] at q'; exact q'.elim
  | some ns =>
    rw [e, Option.bind_some] at q'
    have e2 := intsOf_eq e
    subst e2
    have e3 := hd.ints
    subst e3
    cases e4 : maxI ns with
    | none => rw [e4] at q'; exact q'.elim
    | some k =>
      rw [e4] at q'
      refine cr_max hc pins s σ H _ us Q I r ⟨l, ns, rfl, hl, ?_, fun m h1 h2 => ?_⟩
      · cases ns with
        | nil => cases e4
        | cons _ _ => exact Nat.zero_lt_succ _
      · obtain rfl := max_is h1 h2 e4
        exact q'.val ex (.int _)
theorem call_minLV (hc : X.calm = true) : CallR X (.builtin "min") (rL X.K minLD) := by
  intro pins s σ H xs us Q I r h
  obtain ⟨as, F, ex, da, q⟩ := h
  obtain ⟨l, ys, ds, rfl, rfl, hl, hd⟩ := oneList (g := minLD) (by intro as; unfold minLD; split <;> intro h <;> first | rfl | exact absurd rfl (h _)) ex da q
  have q' : Rop X.K ((intsOf ds).bind fun ns => (minI ns).map .int) H F Q := q
  cases e : intsOf ds with
  | none => rw [e] at q'; exact q'.elim
  | some ns =>
    rw [e, Option.bind_some] at q'
    have e2 := intsOf_eq e
    subst e2
    have e3 := hd.ints
    subst e3
    cases e4 : minI ns with
    | none => rw [e4] at q'; exact q'.elim
    | some k =>
      rw [e4] at q'
      refine cr_min hc pins s σ H _ us Q I r ⟨l, ns, rfl, hl, ?_, fun m h1 h2 => ?_⟩
      · cases ns with
        | nil => cases e4
        | cons _ _ => exact Nat.zero_lt_succ _
      · obtain rfl := min_is h1 h2 e4
        exact q'.val ex (.int _)
theorem call_sumV (hc : X.calm = true) : CallR X (.builtin "sum") (rL X.K sumD) := by
  intro pins s σ H xs us Q I r h
  obtain ⟨as, F, ex, da, q⟩ := h
  obtain ⟨l, ys, ds, rfl, rfl, hl, hd⟩ := oneList (g := sumD) (by intro as; unfold sumD; split <;> intro h <;> first | rfl | exact absurd rfl (h _)) ex da q
  have q' : Rop X.K ((intsOf ds).map fun ns => .int ns.sum) H F Q := q
  cases e : intsOf ds with
  | none => rw [e] at q'; exact q'.elim
  | some ns =>
    rw [e] at q'
    have e2 := intsOf_eq e
    subst e2
    have e3 := hd.ints
    subst e3
    exact cr_sum hc pins s σ H _ us Q I r ⟨l, ns, rfl, hl, q'.val ex (.int _)⟩
end

/-! ### module constants -/
mutual
/-- u, in the written part, stands for d -/
def denB (K : PySem.W.Frag) : PyData → Value → Bool
  | .none, u => u == .none
  | .bool b, u => match u with | .bool c => b == c | _ => false
  | .int i, u => match u with | .int j _ => decide (i = j) | _ => false
  | .str x, u => match u with | .str y _ => decide (x = y) | _ => false
  | .list ds, u => match u with
    | .ref a => match K.lookup a with
      | some ⟨.type "list", none, .seq its _, _⟩ => its.toList.length ≤ 1000 && densB K ds its.toList
      | _ => false
    | _ => false
  | .tuple ds, u => match u with
    | .ref a => match K.lookup a with
      | some ⟨.type "tuple", _, .seq its _, _⟩ => its.toList.length ≤ 1000 && densB K ds its.toList
      | _ => false
    | _ => false
  | .dict _, _ => false
def densB (K : PySem.W.Frag) : List PyData → List Value → Bool
  | [], us => us.isEmpty
  | d :: ds, us => match us with | u :: us => denB K d u && densB K ds us | [] => false
end
theorem z1000 {its : Array Value} (h : its.toList.length ≤ 1000) : its.size ≤ sizeLine := by
  rw [sizeLine_eq]
  rw [Array.length_toList] at h
  omega
mutual
theorem denB_of {K : PySem.W.Frag} : ∀ {d : PyData} {u : Value}, denB K d u = true → ∃ v, RelV v u ∧ ∀ F, Den K F v d
  | .none, u, h => by
    refine ⟨.non, ?_, fun _ => .non⟩
    simp only [denB] at h
    show u = .none
    cases u <;> first | rfl | exact absurd h (by decide) | (revert h; intro h; cases h)
  | .bool b, u, h => by
    cases u with
    | bool c => simp only [denB, beq_iff_eq] at h; subst h; exact ⟨.bl b, rfl, fun _ => .bl b⟩
    | _ => simp only [denB] at h; cases h
  | .int i, u, h => by
    cases u with
    | int j t => simp only [denB, decide_eq_true_eq] at h; subst h; exact ⟨.int i, ⟨t, rfl⟩, fun _ => .int i⟩
    | _ => simp only [denB] at h; cases h
  | .str x, u, h => by
    cases u with
    | str y t => simp only [denB, decide_eq_true_eq] at h; subst h; exact ⟨.str x, ⟨t, rfl⟩, fun _ => .str x⟩
    | _ => simp only [denB] at h; cases h
  | .list ds, u, h => by
    cases u with
    | ref a =>
      simp only [denB] at h
      split at h
      · rename_i its n sl e
        rw [Bool.and_eq_true, decide_eq_true_eq] at h
        obtain ⟨vs, rv, dn⟩ := densB_of h.2
        exact ⟨.ref a, rfl, fun F => .lst (.inr ⟨_, its, n, e, rfl, rfl, rfl, z1000 h.1, rv⟩) (dn F)⟩
      · cases h
    | _ => simp only [denB] at h; cases h
  | .tuple ds, u, h => by
    cases u with
    | ref a =>
      simp only [denB] at h
      split at h
      · rename_i dd its n sl e
        rw [Bool.and_eq_true, decide_eq_true_eq] at h
        obtain ⟨vs, rv, dn⟩ := densB_of h.2
        exact ⟨.ref a, rfl, fun F => .tup (.inr ⟨_, its, n, e, rfl, rfl, z1000 h.1, rv⟩) (dn F)⟩
      · cases h
    | _ => simp only [denB] at h; cases h
  | .dict _, u, h => by simp only [denB] at h; cases h
theorem densB_of {K : PySem.W.Frag} : ∀ {ds : List PyData} {us : List Value}, densB K ds us = true → ∃ vs, Vals vs us ∧ ∀ F, Dens K F vs ds
  | [], us, h => by
    cases us with
    | nil => exact ⟨[], .nil, fun _ => .nil⟩
    | cons _ _ => simp only [densB] at h; cases h
  | d :: ds, us, h => by
    cases us with
    | nil => simp only [densB] at h; cases h
    | cons u us =>
      simp only [densB, Bool.and_eq_true] at h
      obtain ⟨v, r, dv⟩ := denB_of h.1
      obtain ⟨vs, rs, dvs⟩ := densB_of h.2
      exact ⟨v :: vs, .cons r rs, fun F => .cons (dv F) (dvs F)⟩
end
theorem denB_den {K : PySem.W.Frag} {a : Addr} {d : PyData} (h : denB K d (.ref a) = true) (F : Hp) : Den K F (.ref a) d := by
  obtain ⟨v, r, q⟩ := denB_of h
  cases v with
  | ref b => have e : Value.ref a = Value.ref b := r; cases e; exact q F
  | non => exact nomatch (show Value.ref a = Value.none from r)
  | bl b => exact nomatch (show Value.ref a = Value.bool b from r)
  | ty n => exact nomatch (show Value.ref a = Value.type n from r)
  | int i => obtain ⟨t, e⟩ := r; cases e
  | str i => obtain ⟨t, e⟩ := r; cases e
  | byt i => obtain ⟨t, e⟩ := r; cases e
  | flt i => obtain ⟨t, e⟩ := r; cases e

/-! ### the end -/
def spL (K : PySem.W.Frag) : Sp := fun vs H Q _ => ∃ (a : Addr) (ns : List Int), vs = [.ref a] ∧ SqL K H a (ns.map V.int) ∧ ns.length ≤ 63 ∧ ∀ H', Q (.bl true) H'
section
variable {P : Program} {w : World} {K : PySem.W.Frag} {mg : Str → Option Value} {base : Heap} {f : Addr} {fd : FuncData} {x : Str} {k : Nat} {Fn : List PyData → Res PyData}
theorem law_end (G : FnD P w K mg base k f fd [x] Fn) (h : ∀ ns : List Int, ns.length ≤ 63 → Fn [.list (ns.map .int)] = .ok (.bool true)) : FnOk P w K mg base (L2.CX P w) k f fd [x] (spL K) :=
  FnOk.imp G fun vs H Q E ⟨a, ns, e, hs, hl, q⟩ => by
    subst e
    refine ⟨[.list (ns.map .int)], H, rfl, .refl H, .cons (.lst hs (.of_ints ns)) .nil, ?_⟩
    rw [h ns hl]
    intro v H' F' g r
    cases r
    exact q H'
theorem cx_false {outer : List PySem.Env} {H : Hp} {s : Shared} {u : Value} {s' : Shared} (h : L2.CX P w outer H s (fun _ _ _ => False) u s') : False := by
  obtain ⟨a, B, H', cls, d, _, _, _, _, _, _, _, e⟩ := h
  exact e
end
end DL

/-! DL8: a < b of tuples whose items need not be alike. -/
namespace DL
open PySem PySem.Spec PyProof.Rows L2

/-- the items side by side: the first pair that differs has a < that tells k; fin where none differs -/
inductive LtRun (A : Around) (s : Shared) (fin : Bool) : List (Value × Value) → Bool → Prop
  | nil : LtRun A s fin [] fin
  | same {y x : Value} {r : List (Value × Value)} {k : Bool} : SeqAt.EqAt A s y x true → LtRun A s fin r k → LtRun A s fin ((y, x) :: r) k
  | diff {y x : Value} {r : List (Value × Value)} {k : Bool} : SeqAt.EqAt A s y x false → SeqAt.RcLt A s y x k → LtRun A s fin ((y, x) :: r) k
section
open SeqAt
open AutoSeq1 (wpAny_loadPart')
open MeetsSeq MeetsSeq2 MeetsSeq3 SeqRoads2
theorem tup_run (p q : Addr) (xs ys : Array Value) (m m' : Nat) (dx dy : Option Addr) (ex ey : Array (Option Value)) (k : Bool) :
    Meets (Builtin.«tuple.__lt__» ⟨[.ref p, .ref q], []⟩)
      (fun A R s => (s.heap.get? p = some ⟨.type "tuple", dx, .seq xs m, ex⟩ ∧ s.heap.get? q = some ⟨.type "tuple", dy, .seq ys m', ey⟩) ∧
        LtRun A.in1 s (decide (xs.size < ys.size)) (xs.toList.zip ys.toList) k ∧ R (.ok (.ret (.bool k))) s) :=
  .of_wp fun prog w A R s h => by
    obtain ⟨hp, gg, dd, tt, oo⟩ := s
    obtain ⟨⟨hl, hb⟩, run, hR⟩ := h
    have sub := AutoSeq1.sub_tuple_tuple
    wp_walk using wpAny_loadPart' hl, wpAny_loadPart' hb, wpAny_forIn_list _ (fun rest b s' => b.1 = none ∧ s' = ⟨hp, gg, dd, tt, oo⟩ ∧ LtRun A.in1 ⟨hp, gg, dd, tt, oo⟩ (decide (xs.size < ys.size)) rest k ∧ R (.ok (.ret (.bool k))) ⟨hp, gg, dd, tt, oo⟩) _
    case turn =>
      rintro ⟨y, x⟩ rest b s' ⟨hb', rfl, run, hR⟩
      cases run with
      | same he hr =>
        refine wpAny_bind (he prog w _ _ ?_)
        wp_walk
        exact ⟨rfl, rfl, hr, hR⟩
      | diff he hr =>
        have hr2 := hr prog w
        refine wpAny_bind (he prog w _ _ ?_)
        generalize richCompare CmpOp.Lt y x = rc at hr2 ⊢
        wp_walk
        refine hr2 _ _ ?_
        wp_walk
        exact ⟨_, rfl, hR⟩
    case fin =>
      rintro ⟨b1, b2⟩ s' ⟨hb', rfl, run, hR⟩
      simp only at hb'
      subst hb'
      cases run
      wp_walk
      exact ⟨_, rfl, by simpa [Builtin.Tuple.tupleCompareSizes] using hR⟩
    exact ⟨rfl, rfl, run, hR⟩
theorem RcLt.run {A : Around} {s : Shared} {p q : Addr} {xs ys : Array Value} {k : Bool} (hl : s.heap.IsTuple p xs) (hb : s.heap.IsTuple q ys) (hu : A.units < cLine) (h : LtRun A.in1 s (decide (xs.size < ys.size)) (xs.toList.zip ys.toList) k) : SeqAt.RcLt A s (.ref p) (.ref q) k := fun prog w E Q hq => by
  obtain ⟨⟨cx, dx, bx, ex⟩, ho, hc, m, hd⟩ := id hl
  obtain ⟨⟨cy, dy, by_, ey⟩, ho2, hc2, m2, hd2⟩ := id hb
  simp only at hc hd hc2 hd2
  subst hc hd hc2 hd2
  exact richCompare_meets_room (op := .Lt) ⟨_, ho, rfl⟩ ⟨_, ho2, rfl⟩ F.slot_tuple_lt F.entry_tuple_lt (F.args_tuple_lt_2 _ _) (tup_run p q xs ys m m2 dx dy ex ey k)
    ⟨⟨ho, ho2⟩, h, show Value.bool k ≠ Value.notImplemented ∧ Q (.bool k) s from ⟨(fun x => nomatch x), hq⟩⟩ hu
end
mutual
/-- a < b -/
def lessD : PyData → PyData → Option Bool
  | .int i, b => match b with | .int j => some (decide (i < j)) | _ => none
  | .str x, b => match b with | .str y => some (decide (x.cps.toList < y.cps.toList)) | _ => none
  | .bool x, b => match b with | .bool y => some (decide (b2i x < b2i y)) | _ => none
  | .tuple xs, b => match b with | .tuple ys => lessL (decide (xs.length < ys.length)) xs ys | _ => none
  | _, _ => none
def lessL (fin : Bool) : List PyData → List PyData → Option Bool
  | [], _ => some fin
  | x :: xs, l => match l with
    | [] => some fin
    | y :: ys => if (x.canLay0 && y.canLay0) = true then (if PyData.eqv x y = true then lessL fin xs ys else lessD x y) else none
end
mutual
theorem less_reads : ∀ (a : PyData) (b : PyData) (k : Bool) (A : Around) (s : Shared) (u v : Value) (as bs : List Addr), Reads s.heap u a as → Reads s.heap v b bs → lessD a b = some k → A.units + a.depth < cLine → SeqAt.RcLt A s u v k
  | .int i, b, k, A, s, u, v, as, bs, ra, rb, e, hu => by
    cases b with
    | int j =>
      cases ra
      cases rb
      simp only [lessD, Option.some.injEq] at e
      subst e
      intro prog w E Q hq
      exact P.lt_int hq
    | _ => simp only [lessD] at e; cases e
  | .str i, b, k, A, s, u, v, as, bs, ra, rb, e, hu => by
    cases b with
    | str j =>
      cases ra
      cases rb
      simp only [lessD, Option.some.injEq] at e
      subst e
      intro prog w E Q hq
      exact P.lt_str hq
    | _ => simp only [lessD] at e; cases e
  | .bool i, b, k, A, s, u, v, as, bs, ra, rb, e, hu => by
    cases b with
    | bool j =>
      cases ra
      cases rb
      simp only [lessD, Option.some.injEq] at e
      subst e
      intro prog w E Q hq
      exact lt_bool hq
    | _ => simp only [lessD] at e; cases e
  | .tuple xs, b, k, A, s, u, v, as, bs, ra, rb, e, hu => by
    cases b with
    | tuple ys =>
      simp only [lessD] at e
      cases ra with
      | @tuple l o vs n _ as₁ h1 h2 h3 h4 =>
        cases rb with
        | @tuple l' o' vs' n' _ bs₁ k1 k2 k3 k4 =>
          have n1 : vs.size = xs.length := by simpa using SeqAt.ReadsAll.length _ _ _ h4
          have n2 : vs'.size = ys.length := by simpa using SeqAt.ReadsAll.length _ _ _ k4
          have hd : (PyData.tuple xs).depth = PyData.depthAll xs + 1 := by rw [PyData.depth]
          refine RcLt.run ⟨_, h1, h2, _, h3⟩ ⟨_, k1, k2, _, k3⟩ (by omega) ?_
          rw [n1, n2]
          exact less_run _ xs ys k A.in1 s vs.toList vs'.toList _ _ h4 k4 e (by show A.units + 1 + _ < cLine; omega)
    | _ => simp only [lessD] at e; cases e
  | .none, b, k, A, s, u, v, as, bs, ra, rb, e, hu => by simp only [lessD] at e; cases e
  | .list _, b, k, A, s, u, v, as, bs, ra, rb, e, hu => by simp only [lessD] at e; cases e
  | .dict _, b, k, A, s, u, v, as, bs, ra, rb, e, hu => by simp only [lessD] at e; cases e
theorem less_run (fin : Bool) : ∀ (xs ys : List PyData) (k : Bool) (A : Around) (s : Shared) (us vs : List Value) (as bs : List Addr), ReadsAll s.heap us xs as → ReadsAll s.heap vs ys bs → lessL fin xs ys = some k → A.units + PyData.depthAll xs < cLine → LtRun A s fin (us.zip vs) k
  | [], ys, k, A, s, us, vs, as, bs, ra, rb, e, hu => by
    cases ra
    simp only [lessL, Option.some.injEq] at e
    subst e
    exact .nil
  | x :: xs, ys, k, A, s, us, vs, as, bs, ra, rb, e, hu => by
    cases ra with
    | cons r rs =>
      cases rb with
      | nil =>
        simp only [lessL, Option.some.injEq] at e
        subst e
        exact .nil
      | @cons v' vs' y ys as' bs' r' rs' =>
        simp only [lessL] at e
        have hx : (PyData.depthAll (x :: xs)) = max x.depth (PyData.depthAll xs) := by rw [PyData.depthAll]
        by_cases hc : (x.canLay0 && y.canLay0) = true
        · rw [if_pos hc] at e
          rw [Bool.and_eq_true] at hc
          have he := SeqAt.eqAt_reads x y A s _ _ _ _ r r' hc.1 hc.2 (by omega)
          by_cases hq : PyData.eqv x y = true
          · rw [if_pos hq] at e
            rw [hq] at he
            exact .same he (less_run fin xs ys k A s _ _ _ _ rs rs' e (by omega))
          · rw [if_neg hq] at e
            rw [Bool.not_eq_true] at hq
            rw [hq] at he
            exact .diff he (less_reads x y k A s _ _ _ _ r r' e (by omega))
        · rw [if_neg hc] at e
          cases e
end
/-- a < b: ints, texts, truth values, tuples -/
def ltV (a b : PyData) : Option PyData := if (noDic a && noDic b && decide (a.depth ≤ 64)) = true then (lessD a b).map .bool else none
theorem op_ltV {X : Cx} (hu : X.A.units + 64 < cLine) : OpR X (compareOp .Lt) (r2 X.K ltV) := by
  intro pins s σ H x y v u Q I rx ry h
  obtain ⟨a, b, F, ex, da, db, q⟩ := h
  unfold ltV at q
  by_cases hz : (noDic a && noDic b && decide (a.depth ≤ 64)) = true
  · rw [if_pos hz] at q
    simp only [Bool.and_eq_true, decide_eq_true_eq] at hz
    cases e : lessD a b with
    | none => rw [e] at q; exact q.elim
    | some k =>
      rw [e] at q
      obtain ⟨as, r1⟩ := Dp.reads I a x v ((da.mono ex).dp hz.1.1) rx
      obtain ⟨bs, r2⟩ := Dp.reads I b y u ((db.mono ex).dp hz.1.2) ry
      exact less_reads a b k _ _ _ _ _ _ r1 r2 e (by omega) _ _ _ _ ⟨.bl k, H, I, rfl, q.val ex (.bl k)⟩
  · rw [if_neg hz] at q
    exact q.elim
/-! ### a > b -/
/-- a > b gives k, the state as it was -/
def RcGt (A : Around) (s : Shared) (y x : Value) (k : Bool) : Prop := ∀ (prog : Program) (w : World) (E : Value → Shared → Prop) (Q : Value → Shared → Prop), Q (.bool k) s → wpAny (model prog w) A (richCompare .Gt y x) Q E s
theorem more_str {prog : Program} {w : World} {A : Around} {E : Value → Shared → Prop} {s : Shared} {x y : Str} {t u : Tok} {Q : Value → Shared → Prop} (h : Q (.bool (decide (y.cps.toList < x.cps.toList))) s) : wpAny (model prog w) A (compareOp .Gt (.str x t) (.str y u)) Q E s := PySem.P.gt_str h
/-- the items side by side: the first pair that differs has a > that tells k; fin where none differs -/
inductive GtRun (A : Around) (s : Shared) (fin : Bool) : List (Value × Value) → Bool → Prop
  | nil : GtRun A s fin [] fin
  | same {y x : Value} {r : List (Value × Value)} {k : Bool} : SeqAt.EqAt A s y x true → GtRun A s fin r k → GtRun A s fin ((y, x) :: r) k
  | diff {y x : Value} {r : List (Value × Value)} {k : Bool} : SeqAt.EqAt A s y x false → RcGt A s y x k → GtRun A s fin ((y, x) :: r) k
section
open SeqAt
open AutoSeq1 (wpAny_loadPart')
open MeetsSeq MeetsSeq2 MeetsSeq3 SeqRoads2
theorem tup_runG (p q : Addr) (xs ys : Array Value) (m m' : Nat) (dx dy : Option Addr) (ex ey : Array (Option Value)) (k : Bool) :
    Meets (Builtin.«tuple.__gt__» ⟨[.ref p, .ref q], []⟩)
      (fun A R s => (s.heap.get? p = some ⟨.type "tuple", dx, .seq xs m, ex⟩ ∧ s.heap.get? q = some ⟨.type "tuple", dy, .seq ys m', ey⟩) ∧
        GtRun A.in1 s (decide (xs.size > ys.size)) (xs.toList.zip ys.toList) k ∧ R (.ok (.ret (.bool k))) s) :=
  .of_wp fun prog w A R s h => by
    obtain ⟨hp, gg, dd, tt, oo⟩ := s
    obtain ⟨⟨hl, hb⟩, run, hR⟩ := h
    have sub := AutoSeq1.sub_tuple_tuple
    wp_walk using wpAny_loadPart' hl, wpAny_loadPart' hb, wpAny_forIn_list _ (fun rest b s' => b.1 = none ∧ s' = ⟨hp, gg, dd, tt, oo⟩ ∧ GtRun A.in1 ⟨hp, gg, dd, tt, oo⟩ (decide (xs.size > ys.size)) rest k ∧ R (.ok (.ret (.bool k))) ⟨hp, gg, dd, tt, oo⟩) _
    case turn =>
      rintro ⟨y, x⟩ rest b s' ⟨hb', rfl, run, hR⟩
      cases run with
      | same he hr =>
        refine wpAny_bind (he prog w _ _ ?_)
        wp_walk
        exact ⟨rfl, rfl, hr, hR⟩
      | diff he hr =>
        have hr2 := hr prog w
        refine wpAny_bind (he prog w _ _ ?_)
        generalize richCompare CmpOp.Gt y x = rc at hr2 ⊢
        wp_walk
        refine hr2 _ _ ?_
        wp_walk
        exact ⟨_, rfl, hR⟩
    case fin =>
      rintro ⟨b1, b2⟩ s' ⟨hb', rfl, run, hR⟩
      simp only at hb'
      subst hb'
      cases run
      wp_walk
      exact ⟨_, rfl, by simpa [Builtin.Tuple.tupleCompareSizes] using hR⟩
    exact ⟨rfl, rfl, run, hR⟩
theorem RcGt.run {A : Around} {s : Shared} {p q : Addr} {xs ys : Array Value} {k : Bool} (hl : s.heap.IsTuple p xs) (hb : s.heap.IsTuple q ys) (hu : A.units < cLine) (h : GtRun A.in1 s (decide (xs.size > ys.size)) (xs.toList.zip ys.toList) k) : RcGt A s (.ref p) (.ref q) k := fun prog w E Q hq => by
  obtain ⟨⟨cx, dx, bx, ex⟩, ho, hc, m, hd⟩ := id hl
  obtain ⟨⟨cy, dy, by_, ey⟩, ho2, hc2, m2, hd2⟩ := id hb
  simp only at hc hd hc2 hd2
  subst hc hd hc2 hd2
  exact richCompare_meets_room (op := .Gt) ⟨_, ho, rfl⟩ ⟨_, ho2, rfl⟩ F.slot_tuple_gt F.entry_tuple_gt (F.args_tuple_gt_2 _ _) (tup_runG p q xs ys m m2 dx dy ex ey k)
    ⟨⟨ho, ho2⟩, h, show Value.bool k ≠ Value.notImplemented ∧ Q (.bool k) s from ⟨(fun x => nomatch x), hq⟩⟩ hu
end
mutual
/-- a > b -/
def moreD : PyData → PyData → Option Bool
  | .int i, b => match b with | .int j => some (decide (j < i)) | _ => none
  | .str x, b => match b with | .str y => some (decide (y.cps.toList < x.cps.toList)) | _ => none
  | .bool x, b => match b with | .bool y => some (decide (b2i y < b2i x)) | _ => none
  | .tuple xs, b => match b with | .tuple ys => moreL (decide (xs.length > ys.length)) xs ys | _ => none
  | _, _ => none
def moreL (fin : Bool) : List PyData → List PyData → Option Bool
  | [], _ => some fin
  | x :: xs, l => match l with
    | [] => some fin
    | y :: ys => if (x.canLay0 && y.canLay0) = true then (if PyData.eqv x y = true then moreL fin xs ys else moreD x y) else none
end
mutual
theorem more_reads : ∀ (a : PyData) (b : PyData) (k : Bool) (A : Around) (s : Shared) (u v : Value) (as bs : List Addr), Reads s.heap u a as → Reads s.heap v b bs → moreD a b = some k → A.units + a.depth < cLine → RcGt A s u v k
  | .int i, b, k, A, s, u, v, as, bs, ra, rb, e, hu => by
    cases b with
    | int j =>
      cases ra
      cases rb
      simp only [moreD, Option.some.injEq] at e
      subst e
      intro prog w E Q hq
      exact P.gt_int hq
    | _ => simp only [moreD] at e; cases e
  | .str i, b, k, A, s, u, v, as, bs, ra, rb, e, hu => by
    cases b with
    | str j =>
      cases ra
      cases rb
      simp only [moreD, Option.some.injEq] at e
      subst e
      intro prog w E Q hq
      exact more_str hq
    | _ => simp only [moreD] at e; cases e
  | .bool i, b, k, A, s, u, v, as, bs, ra, rb, e, hu => by
    cases b with
    | bool j =>
      cases ra
      cases rb
      simp only [moreD, Option.some.injEq] at e
      subst e
      intro prog w E Q hq
      exact gt_bool hq
    | _ => simp only [moreD] at e; cases e
  | .tuple xs, b, k, A, s, u, v, as, bs, ra, rb, e, hu => by
    cases b with
    | tuple ys =>
      simp only [moreD] at e
      cases ra with
      | @tuple l o vs n _ as₁ h1 h2 h3 h4 =>
        cases rb with
        | @tuple l' o' vs' n' _ bs₁ k1 k2 k3 k4 =>
          have n1 : vs.size = xs.length := by simpa using SeqAt.ReadsAll.length _ _ _ h4
          have n2 : vs'.size = ys.length := by simpa using SeqAt.ReadsAll.length _ _ _ k4
          have hd : (PyData.tuple xs).depth = PyData.depthAll xs + 1 := by rw [PyData.depth]
          refine RcGt.run ⟨_, h1, h2, _, h3⟩ ⟨_, k1, k2, _, k3⟩ (by omega) ?_
          rw [n1, n2]
          exact more_run _ xs ys k A.in1 s vs.toList vs'.toList _ _ h4 k4 e (by show A.units + 1 + _ < cLine; omega)
    | _ => simp only [moreD] at e; cases e
  | .none, b, k, A, s, u, v, as, bs, ra, rb, e, hu => by simp only [moreD] at e; cases e
  | .list _, b, k, A, s, u, v, as, bs, ra, rb, e, hu => by simp only [moreD] at e; cases e
  | .dict _, b, k, A, s, u, v, as, bs, ra, rb, e, hu => by simp only [moreD] at e; cases e
theorem more_run (fin : Bool) : ∀ (xs ys : List PyData) (k : Bool) (A : Around) (s : Shared) (us vs : List Value) (as bs : List Addr), ReadsAll s.heap us xs as → ReadsAll s.heap vs ys bs → moreL fin xs ys = some k → A.units + PyData.depthAll xs < cLine → GtRun A s fin (us.zip vs) k
  | [], ys, k, A, s, us, vs, as, bs, ra, rb, e, hu => by
    cases ra
    simp only [moreL, Option.some.injEq] at e
    subst e
    exact .nil
  | x :: xs, ys, k, A, s, us, vs, as, bs, ra, rb, e, hu => by
    cases ra with
    | cons r rs =>
      cases rb with
      | nil =>
        simp only [moreL, Option.some.injEq] at e
        subst e
        exact .nil
      | @cons v' vs' y ys as' bs' r' rs' =>
        simp only [moreL] at e
        have hx : (PyData.depthAll (x :: xs)) = max x.depth (PyData.depthAll xs) := by rw [PyData.depthAll]
        by_cases hc : (x.canLay0 && y.canLay0) = true
        · rw [if_pos hc] at e
          rw [Bool.and_eq_true] at hc
          have he := SeqAt.eqAt_reads x y A s _ _ _ _ r r' hc.1 hc.2 (by omega)
          by_cases hq : PyData.eqv x y = true
          · rw [if_pos hq] at e
            rw [hq] at he
            exact .same he (more_run fin xs ys k A s _ _ _ _ rs rs' e (by omega))
          · rw [if_neg hq] at e
            rw [Bool.not_eq_true] at hq
            rw [hq] at he
            exact .diff he (more_reads x y k A s _ _ _ _ r r' e (by omega))
        · rw [if_neg hc] at e
          cases e
end
/-- a > b: ints, texts, truth values, tuples -/
def gtV (a b : PyData) : Option PyData := if (noDic a && noDic b && decide (a.depth ≤ 64)) = true then (moreD a b).map .bool else none
theorem op_gtV {X : Cx} (hu : X.A.units + 64 < cLine) : OpR X (compareOp .Gt) (r2 X.K gtV) := by
  intro pins s σ H x y v u Q I rx ry h
  obtain ⟨a, b, F, ex, da, db, q⟩ := h
  unfold gtV at q
  by_cases hz : (noDic a && noDic b && decide (a.depth ≤ 64)) = true
  · rw [if_pos hz] at q
    simp only [Bool.and_eq_true, decide_eq_true_eq] at hz
    cases e : moreD a b with
    | none => rw [e] at q; exact q.elim
    | some k =>
      rw [e] at q
      obtain ⟨as, r1⟩ := Dp.reads I a x v ((da.mono ex).dp hz.1.1) rx
      obtain ⟨bs, r2⟩ := Dp.reads I b y u ((db.mono ex).dp hz.1.2) ry
      exact more_reads a b k _ _ _ _ _ _ r1 r2 e (by omega) _ _ _ _ ⟨.bl k, H, I, rfl, q.val ex (.bl k)⟩
  · rw [if_neg hz] at q
    exact q.elim
end DL

/-! DL9: what is not read (bad), tables of the module with text keys, a def out of a table. -/
namespace DL
open PySem PySem.Spec PyProof.Rows L2

/-! ### nothing is said -/
section
variable {X : Cx} {F0 H0 : Hp} {W : WX}
theorem de_bad {e : Expr} : DE X F0 H0 W e (fun _ => .bad) := ⟨fun pins s σ H Q I ⟨ρ, F, sr, q⟩ => q.elim⟩
theorem dt_bad {e : Expr} : DT X F0 H0 W e (fun _ => .bad) := ⟨fun pins s σ H Q I ⟨ρ, F, sr, q⟩ => q.elim⟩
theorem ds_bad {st : Stmt} : DS X F0 H0 W st (fun _ => .bad) := ⟨fun pins s σ H D I ⟨ρ, F, sr, q⟩ => q.elim⟩
theorem dss_bad {st : List Stmt} : DSs X F0 H0 W st (fun _ => .bad) := ⟨fun pins s σ H D I ⟨ρ, F, sr, q⟩ => q.elim⟩
end

/-! ### tables -/
/-- at a: a written dict, key by key what stands there -/
structure TabV {α : Type} (K : PySem.W.Frag) (w : World) (a : Addr) (tbl : List (Str × α)) (R : α → Value → Prop) : Prop where
  kd : ∃ es n, KDict K w a es n
  miss : ∀ z, tbl.lookup z = none → PySem.W.nsIn K a z = some none
  hit : ∀ z x, tbl.lookup z = some x → ∃ u, PySem.W.nsIn K a z = some (some u) ∧ R x u
def valsW (K : PySem.W.Frag) (a : Addr) : Option (List Value) := match K.lookup a with
  | some ⟨_, _, .dict es _, _⟩ => some (es.toList.map (·.val))
  | _ => none
inductive Match {α : Type} (R : α → Value → Prop) : List (Str × α) → List DictEntry → Prop
  | nil : Match R [] []
  | cons {k : Str} {x : α} {t : Tok} {e : DictEntry} {r : List (Str × α)} {es : List DictEntry} : e.key = .str k t → R x e.val → Match R r es → Match R ((k, x) :: r) (e :: es)
theorem str_beq (x y : Str) (t : Tok) : (Value.str y t).isStr x = (x == y) := by
  show (y == x) = (x == y)
  by_cases h : x = y
  · subst h; rfl
  · rw [beq_eq_false_iff_ne.mpr h, beq_eq_false_iff_ne.mpr fun z => h z.symm]
theorem Match.find {α : Type} {R : α → Value → Prop} (z : Str) : ∀ {tbl : List (Str × α)} {es : List DictEntry}, Match R tbl es →
    (∀ x, tbl.lookup z = some x → ∃ e, es.find? (·.key.isStr z) = some e ∧ R x e.val) ∧ (tbl.lookup z = none → es.find? (·.key.isStr z) = none) ∧ es.any (·.refKey) = false
  | _, _, .nil => ⟨(fun x h => by cases h), (fun _ => rfl), rfl⟩
  | _, _, @Match.cons _ _ k x t e r es h1 h2 h3 => by
    obtain ⟨i1, i2, i3⟩ := Match.find z h3
    have hk : e.key.isStr z = (z == k) := by rw [h1]; exact str_beq z k t
    have hr : e.refKey = false := by unfold DictEntry.refKey; rw [h1]
    refine ⟨fun y hy => ?_, fun hn => ?_, by rw [List.any_cons, hr, i3]; rfl⟩
    · rw [List.lookup_cons] at hy
      cases hz : z == k with
      | true =>
        rw [hz] at hy
        cases hy
        exact ⟨e, by rw [List.find?_cons, hk, hz], h2⟩
      | false =>
        rw [hz] at hy
        obtain ⟨e', q1, q2⟩ := i1 y hy
        exact ⟨e', by rw [List.find?_cons, hk, hz]; exact q1, q2⟩
    · rw [List.lookup_cons] at hn
      cases hz : z == k with
      | true => rw [hz] at hn; cases hn
      | false =>
        rw [hz] at hn
        rw [List.find?_cons, hk, hz]
        exact i2 hn
theorem match_of {α : Type} {R : α → Value → Prop} {P : Params} : ∀ {tbl : List (Str × α)} {es : List DictEntry}, es.map He.keyOf = He.keysIn P (tbl.map (·.1)) → Paired R (tbl.map (·.2)) (es.map (·.val)) → Match R tbl es
  | [], [], _, _ => .nil
  | [], e :: es, h, _ => by cases h
  | (k, x) :: r, [], h, _ => by cases h
  | (k, x) :: r, e :: es, h, q => by
    rw [List.map_cons, List.map_cons] at q
    cases q with
    | cons q1 q2 =>
      have h1 : He.keyOf e :: es.map He.keyOf = some (k, PyData.keyHash P k) :: He.keysIn P (r.map (·.1)) := h
      injection h1 with h2 h3
      unfold He.keyOf at h2
      split at h2
      · rename_i y t e1
        obtain ⟨h5, h6⟩ := Prod.mk.inj (Option.some.inj h2)
        exact .cons (t := t) (by rw [e1, h5]) q1 (match_of h3 q2)
      · cases h2
theorem tab_of {α : Type} {R : α → Value → Prop} {K : PySem.W.Frag} {w : World} {a : Addr} {tbl : List (Str × α)} {us : List Value} (h1 : He.dicW K a = some (He.keysIn w.params (tbl.map (·.1)))) (h2 : valsW K a = some us) (h3 : Paired R (tbl.map (·.2)) us) : TabV K w a tbl R := by
  obtain ⟨es, n, D⟩ := He.dicW_ok h1
  have hm : es.toList.map He.keyOf = He.keysIn w.params (tbl.map (·.1)) := by
    unfold He.dicW at h1
    rw [D.at_] at h1
    simp only at h1
    split at h1
    · exact Option.some.inj h1
    · cases h1
  have hv : es.toList.map (·.val) = us := by
    unfold valsW at h2
    rw [D.at_] at h2
    exact Option.some.inj h2
  have M := match_of (R := R) hm (by rw [hv]; exact h3)
  refine ⟨⟨es, n, D⟩, fun z hz => ?_, fun z x hz => ?_⟩
  · obtain ⟨_, i2, i3⟩ := M.find z
    unfold PySem.W.nsIn
    rw [D.at_]
    simp only [i2 hz, i3]
    rfl
  · obtain ⟨i1, _, _⟩ := M.find z
    obtain ⟨e, q1, q2⟩ := i1 x hz
    refine ⟨e.val, ?_, q2⟩
    unfold PySem.W.nsIn
    rw [D.at_]
    simp only [q1]
def DatR (K : PySem.W.Frag) (d : PyData) (u : Value) : Prop := ∃ v, RelV v u ∧ ∀ F, Den K F v d
abbrev TabD (K : PySem.W.Frag) (w : World) (a : Addr) (tbl : List (Str × PyData)) : Prop := TabV K w a tbl (DatR K)
theorem pairs_of {K : PySem.W.Frag} : ∀ {ds : List PyData} {us : List Value}, densB K ds us = true → Paired (DatR K) ds us
  | [], [], _ => .nil
  | [], _ :: _, h => by simp only [densB] at h; cases h
  | _ :: _, [], h => by simp only [densB] at h; cases h
  | d :: ds, u :: us, h => by
    simp only [densB, Bool.and_eq_true] at h
    exact .cons (denB_of h.1) (pairs_of h.2)
def valsB (K : PySem.W.Frag) (a : Addr) (ds : List PyData) : Bool := match valsW K a with
  | some us => densB K ds us
  | none => false
theorem tabD_of {K : PySem.W.Frag} {w : World} {a : Addr} {tbl : List (Str × PyData)} (h1 : He.dicW K a = some (He.keysIn w.params (tbl.map (·.1)))) (h2 : valsB K a (tbl.map (·.2)) = true) : TabD K w a tbl := by
  unfold valsB at h2
  cases e : valsW K a with
  | none => rw [e] at h2; cases h2
  | some us => rw [e] at h2; exact tab_of h1 e (pairs_of h2)
/-- a table of defs -/
abbrev TabF (K : PySem.W.Frag) (w : World) (a : Addr) (tbl : List (Str × Addr)) : Prop := TabV K w a tbl (fun f u => u = .ref f)
theorem refs_pair : ∀ (fs : List Addr), Paired (fun f u => u = Value.ref f) fs (fs.map .ref)
  | [] => .nil
  | f :: fs => .cons rfl (refs_pair fs)
theorem tabF_of {K : PySem.W.Frag} {w : World} {a : Addr} {tbl : List (Str × Addr)} (h1 : He.dicW K a = some (He.keysIn w.params (tbl.map (·.1)))) (h2 : valsW K a = some ((tbl.map (·.2)).map .ref)) : TabF K w a tbl := tab_of h1 h2 (refs_pair _)

section
variable {X : Cx} {F0 H0 : Hp} {W : WX} {pos p : Pos} {e : Expr} {f : Sls → Res PyData} {D : Str} {α : Type} {tbl : List (Str × α)} {R : α → Value → Prop}
/-- x in D, x not in D -/
def inT {α : Type} (tbl : List (Str × α)) : PyData → Option PyData
  | .str z => some (.bool (tbl.lookup z).isSome)
  | _ => none
def notInT {α : Type} (tbl : List (Str × α)) : PyData → Option PyData
  | .str z => some (.bool (!(tbl.lookup z).isSome))
  | _ => none
theorem in_run {g : PyData → Option PyData} {a : Addr} {σ : L2.St} {H : Hp} {Q : VK} (h : rd X.mg X.K F0 H0 W (Den X.K) (d1 g f) σ H Q) : tOp (fun x y H Q => y = .ref a ∧ ∃ d F, Ex F H ∧ Den X.K F x d ∧ Rop X.K (g d) H F Q) (rd X.mg X.K F0 H0 W (Den X.K) f) (tC (.ref a)) σ H Q := by
  obtain ⟨ρ, F, sr, q⟩ := h
  obtain ⟨ρ1, F1, sr1, q1⟩ := rd_step (R := Den X.K) sr q
  refine ⟨ρ1, F1, sr1, q1.imp fun v H1 F2 d g1 r1 k => ?_⟩
  obtain ⟨a', F3, g3, r3, sr3, q3⟩ := k v H1 F2 (.refl g1.fh) r1
  exact ⟨rfl, a', F3, sr3.ex, r3, q3.rop⟩
theorem op_inT {a : Addr} (T : TabV X.K X.w a tbl R) : OpR X (compareOp .In) (fun x y H Q => y = .ref a ∧ ∃ d F, Ex F H ∧ Den X.K F x d ∧ Rop X.K (inT tbl d) H F Q) := by
  intro pins s σ H x y v u Q I rx ry h
  obtain ⟨rfl, d, F, ex, dx, q⟩ := h
  obtain ⟨es, n, kd⟩ := T.kd
  cases dx with
  | str z =>
    have q' : Rop X.K (some (.bool (tbl.lookup z).isSome)) H F Q := q
    cases e : tbl.lookup z with
    | none => rw [e] at q'; exact op_in_kd kd pins s σ H _ _ v u Q I rx ry ⟨z, none, rfl, rfl, T.miss z e, q'.val ex (.bl _)⟩
    | some x =>
      rw [e] at q'
      obtain ⟨u0, h1, _⟩ := T.hit z x e
      exact op_in_kd kd pins s σ H _ _ v u Q I rx ry ⟨z, some u0, rfl, rfl, h1, q'.val ex (.bl _)⟩
  | _ => exact q.elim
theorem op_notInT {a : Addr} (T : TabV X.K X.w a tbl R) : OpR X (compareOp .NotIn) (fun x y H Q => y = .ref a ∧ ∃ d F, Ex F H ∧ Den X.K F x d ∧ Rop X.K (notInT tbl d) H F Q) := by
  intro pins s σ H x y v u Q I rx ry h
  obtain ⟨rfl, d, F, ex, dx, q⟩ := h
  obtain ⟨es, n, kd⟩ := T.kd
  cases dx with
  | str z =>
    have q' : Rop X.K (some (.bool (!(tbl.lookup z).isSome))) H F Q := q
    cases e : tbl.lookup z with
    | none => rw [e] at q'; exact op_notIn_kd kd pins s σ H _ _ v u Q I rx ry ⟨z, none, rfl, rfl, T.miss z e, q'.val ex (.bl _)⟩
    | some x =>
      rw [e] at q'
      obtain ⟨u0, h1, _⟩ := T.hit z x e
      exact op_notIn_kd kd pins s σ H _ _ v u Q I rx ry ⟨z, some u0, rfl, rfl, h1, q'.val ex (.bl _)⟩
  | _ => exact q.elim
theorem pe_globA {a : Addr} (hg : Gl X D) (hm : X.mg D = some (.ref a)) (h : (D == ("__debug__" : Str)) = false) : PE X (.Name D p) (tC (.ref a)) := pe_glob hg hm rfl h
theorem de_inT (hg : Gl X D) (T : ∃ a, X.mg D = some (.ref a) ∧ TabV X.K X.w a tbl R) (ha : DE X F0 H0 W e f) (h : (D == ("__debug__" : Str)) = false := by decide) (hm : behindInMarks .In (.Name D p) = false := by rfl) : DE X F0 H0 W (.Compare e [.In] [.Name D p] pos) (d1 (inT tbl) f) := by
  obtain ⟨a, m, T⟩ := T
  exact PE.imp (pe_cmpR (op_inT T) ha (pe_globA hg m h) hm) fun _ _ _ q => in_run q
theorem dt_inT (hg : Gl X D) (T : ∃ a, X.mg D = some (.ref a) ∧ TabV X.K X.w a tbl R) (ha : DE X F0 H0 W e f) (h : (D == ("__debug__" : Str)) = false := by decide) (hm : behindInMarks .In (.Name D p) = false := by rfl) : DT X F0 H0 W (.Compare e [.In] [.Name D p] pos) (dB (d1 (inT tbl) f)) := by
  obtain ⟨a, m, T⟩ := T
  refine PT.imp (pt_cmpR (op_inT T) ha (pe_globA hg m h) hm) fun σ H Q q => ?_
  exact in_run (rdB (f := d1 (inT tbl) f) q)
theorem de_notInT (hg : Gl X D) (T : ∃ a, X.mg D = some (.ref a) ∧ TabV X.K X.w a tbl R) (ha : DE X F0 H0 W e f) (h : (D == ("__debug__" : Str)) = false := by decide) (hm : behindInMarks .NotIn (.Name D p) = false := by rfl) : DE X F0 H0 W (.Compare e [.NotIn] [.Name D p] pos) (d1 (notInT tbl) f) := by
  obtain ⟨a, m, T⟩ := T
  exact PE.imp (pe_cmpR (op_notInT T) ha (pe_globA hg m h) hm) fun _ _ _ q => in_run q
theorem dt_notInT (hg : Gl X D) (T : ∃ a, X.mg D = some (.ref a) ∧ TabV X.K X.w a tbl R) (ha : DE X F0 H0 W e f) (h : (D == ("__debug__" : Str)) = false := by decide) (hm : behindInMarks .NotIn (.Name D p) = false := by rfl) : DT X F0 H0 W (.Compare e [.NotIn] [.Name D p] pos) (dB (d1 (notInT tbl) f)) := by
  obtain ⟨a, m, T⟩ := T
  refine PT.imp (pt_cmpR (op_notInT T) ha (pe_globA hg m h) hm) fun σ H Q q => ?_
  exact in_run (rdB (f := d1 (notInT tbl) f) q)
/-- D[x] -/
def ixT (tbl : List (Str × PyData)) : PyData → Option PyData
  | .str z => tbl.lookup z
  | _ => none
theorem ix_T {a : Addr} {tbl : List (Str × PyData)} (T : TabD X.K X.w a tbl) : IxR X (fun x y H Q => x = .ref a ∧ ∃ d F, Ex F H ∧ Den X.K F y d ∧ Rop X.K (ixT tbl d) H F Q) := by
  intro value slice pins s σ H x y v u Q I rx ry h hs
  obtain ⟨rfl, d, F, ex, dy, q⟩ := h
  obtain ⟨es, n, kd⟩ := T.kd
  cases dy with
  | str z =>
    have q' : Rop X.K (tbl.lookup z) H F Q := q
    cases e : tbl.lookup z with
    | none => rw [e] at q'; exact q'.elim
    | some d =>
      rw [e] at q'
      obtain ⟨u0, h1, v0, r0, hd⟩ := T.hit z d e
      exact ix_kdict value slice pins s σ H _ _ v u Q I rx ry ⟨a, z, v0, rfl, rfl, ⟨es, n, u0, kd.at_, kd.lit, h1, r0⟩, q'.val ex (hd F)⟩ hs
  | _ => exact q.elim
theorem de_ixT {tbl : List (Str × PyData)} (hg : Gl X D) (T : ∃ a, X.mg D = some (.ref a) ∧ TabD X.K X.w a tbl) (ha : DE X F0 H0 W e f) (hs : PlainIx e) (h : (D == ("__debug__" : Str)) = false := by decide) : DE X F0 H0 W (.Subscript (.Name D p) e pos) (d1 (ixT tbl) f) := by
  obtain ⟨a, m, T⟩ := T
  refine PE.imp (pe_ix (ix_T T) (pe_globA hg m h) ha hs) fun σ H Q ⟨ρ, F, sr, q⟩ => ?_
  show rd X.mg X.K F0 H0 W (Den X.K) f σ H _
  obtain ⟨ρ1, F1, sr1, q1⟩ := rd_step (R := Den X.K) sr q
  refine ⟨ρ1, F1, sr1, q1.imp fun v H1 F2 d g1 r1 k => ?_⟩
  obtain ⟨a', F3, g3, r3, sr3, q3⟩ := k v H1 F2 (.refl g1.fh) r1
  exact ⟨rfl, a', F3, sr3.ex, r3, q3.rop⟩
end
/-! ### action = D[name]; return action(..) -/
theorem SR.setU {K : PySem.W.Frag} {F0 H0 : Hp} {σ : L2.St} {H F : Hp} {ρ : Sls} (r : SR K F0 H0 ρ σ H F) (i : Nat) (o : Option V) : SR K F0 H0 (ρ.set i .un) (σ.set i o) H F := by
  have ow : ∀ j a, OwnAt (ρ.set i .un) (σ.set i o) j a → j ≠ i ∧ OwnAt ρ σ j a := fun j a ⟨⟨ds, e1⟩, e2⟩ => by
    by_cases hj : j = i
    · subst hj
      by_cases hl : j < ρ.length
      · rw [List.getElem?_set_self hl] at e1; cases e1
      · rw [List.getElem?_eq_none (by simpa using hl)] at e1; cases e1
    · rw [List.getElem?_set_ne (Ne.symm hj)] at e1 e2
      exact ⟨hj, ⟨ds, e1⟩, e2⟩
  refine ⟨r.gr, by simp [r.len], fun j s e => ?_, fun j a o => r.own0 j a (ow j a o).2, fun j k a o1 o2 => r.sep j k a (ow j a o1).2 (ow k a o2).2⟩
  by_cases hj : j = i
  · subst hj
    by_cases hl : j < ρ.length
    · rw [List.getElem?_set_self hl] at e; cases e
      exact True.intro
    · rw [List.getElem?_eq_none (by simpa using hl)] at e; cases e
  · rw [List.getElem?_set_ne (Ne.symm hj)] at e ⊢
    exact r.sl j s e
abbrev FnT := List PyData → Res PyData
/-- the defs of a table, and what each keeps to -/
inductive Acts (P : Program) (w : World) (K : PySem.W.Frag) (mg : Str → Option Value) (base : Heap) (j n : Nat) : List (Str × Addr) → List (Str × FnT) → Prop
  | nil : Acts P w K mg base j n [] []
  | cons {k : Str} {f : Addr} {fd : FuncData} {ps : List Str} {Fn : FnT} {t : List (Str × Addr)} {t' : List (Str × FnT)} : FnD P w K mg base j f fd ps Fn → PySem.W.keepIn K (.ref f) = true → Binds K fd ps [] → ps.length = n → Acts P w K mg base j n t t' → Acts P w K mg base j n ((k, f) :: t) ((k, Fn) :: t')
theorem Acts.get {P : Program} {w : World} {K : PySem.W.Frag} {mg : Str → Option Value} {base : Heap} {j n : Nat} {z : Str} {Fn : FnT} : ∀ {t : List (Str × Addr)} {t' : List (Str × FnT)}, Acts P w K mg base j n t t' → t'.lookup z = some Fn →
    ∃ f fd ps, t.lookup z = some f ∧ FnD P w K mg base j f fd ps Fn ∧ PySem.W.keepIn K (.ref f) = true ∧ Binds K fd ps [] ∧ ps.length = n
  | _, _, .nil, h => by cases h
  | _, _, @Acts.cons _ _ _ _ _ _ _ k f fd ps Fn' t t' G hk hb hl r, h => by
    rw [List.lookup_cons] at h ⊢
    cases hz : z == k with
    | true =>
      rw [hz] at h
      cases h
      exact ⟨f, fd, ps, rfl, G, hk, hb, hl⟩
    | false =>
      rw [hz] at h
      exact r.get h
section
variable {X : Cx} {F0 H0 : Hp} {W : WX} {pos p pd pc pr px : Pos} {e a : Expr} {es : List Expr} {f : Sls → Res PyData} {fs : Sls → Res (List PyData)} {D x : Str} {tbl : List (Str × Addr)} {acts : List (Str × FnT)} {i j k n : Nat} {rest : List Stmt}
theorem ix_F {a : Addr} (T : TabF X.K X.w a tbl) : IxR X (fun x y H Q => x = .ref a ∧ ∃ z f, y = .str z ∧ tbl.lookup z = some f ∧ Q (.ref f) H) := by
  intro value slice pins s σ H x y v u Q I rx ry h hs
  obtain ⟨rfl, z, f, rfl, e, q⟩ := h
  obtain ⟨es, n, kd⟩ := T.kd
  obtain ⟨u0, h1, rfl⟩ := T.hit z f e
  exact ix_kdict value slice pins s σ H _ _ v u Q I rx ry ⟨a, z, .ref f, rfl, rfl, ⟨es, n, _, kd.at_, kd.lit, h1, rfl⟩, q⟩ hs
/-- a call of what stands in slot i -/
theorem pe_act (c : Cz X W k) (hj : j ≤ k) (hN : X.N[i]? = some x) (hv : Vis X.env.scope x) {ta : TA} (ha : PA X (e :: es) ta) (hdb : (x == ("__debug__" : Str)) = false := by decide) (hcd : (x == ("__classdict__" : Str)) = false := by decide)
    (he : starEach (e :: es) X.env = (false, eval e X.env) :: starEach es X.env := by rfl) (hpl : (backTo pos (starEach es X.env)).any (·.1) = false := by rfl) :
    PE X (.Call (.Name x p) (e :: es) [] pos) (fun σ H Q => ∃ f fd ps Fn, σ[i]? = some (some (.ref f)) ∧ FnD X.prog X.w X.K X.mg X.base j f fd ps Fn ∧ PySem.W.keepIn X.K (.ref f) = true ∧ Binds X.K fd ps [] ∧ ta σ H fun vs H1 => spD X.mg X.K ps.length Fn vs H1 Q (WE W σ)) := by
  refine ⟨fun pins s σ H Q I h => ?_⟩
  obtain ⟨f, fd, ps, Fn, hs, G, hk, hb, ht⟩ := h
  refine wpAny_Call_Name_kw (thn ((pe_var (pos := p) hN hv hdb hcd).run pins s σ H (fun v H1 => v = .ref f ∧ H1 = H) I ⟨.ref f, hs, rfl, rfl⟩) fun u s1 ⟨v, H1, I1, r1, q1⟩ => ?_)
  obtain ⟨rfl, rfl⟩ := q1
  cases r1
  refine PySem.W.callWith_K (h₀ := X.base) I.ok.mod.kin hk (thn (ha.run pos pins s1 σ _ _ I1 ht) fun us s2 ⟨vs, H2, I2, r, q⟩ => ⟨I2.kIn, ?_⟩) he hpl
  exact run_fnS (E := WE W) G (c.room.mono hj) hb (passAt c.tk σ) I2 r q
def gAct (i : Nat) (acts : List (Str × FnT)) (f : Sls → Res PyData) (fs : Sls → Res (List PyData)) : Sls → Out := sE f fun d ρ => match d with
  | .str z => (match acts.lookup z with
    | some Fn => if i < ρ.length then sE (fun ρ => fs ρ >>= Fn) (fun d _ => .rt d) (ρ.set i .un) else .bad
    | none => .bad)
  | _ => .bad
theorem dss_act (c : Cz X W k) (hj : j ≤ k) (hg : Gl X D) (T : ∃ a, X.mg D = some (.ref a) ∧ TabF X.K X.w a tbl) (A : Acts X.prog X.w X.K X.mg X.base j n tbl acts) (hN : X.N.Nodup) (hi : X.N[i]? = some x) (hx : Loc X.env.scope x) (hv : Vis X.env.scope x)
    (he : DE X F0 H0 W a f) (hs : PlainIx a) (ha : DA X F0 H0 W (e :: es) fs) (hn : ∀ ρ ds, fs ρ = .ok ds → ds.length = n) (hD : (D == ("__debug__" : Str)) = false := by decide)
    (hsw : swapsWith (.Subscript (.Name D pd) a px) (some (.Name x p)) pos.line X.env = pure false := by rfl) (hf : X.fn x = true ∨ X.env.scope.names.lookup x = some .local := by first | exact .inl rfl | exact .inr rfl | assumption)
    (hdb : (x == ("__debug__" : Str)) = false := by decide) (hcd : (x == ("__classdict__" : Str)) = false := by decide)
    (hst : starEach (e :: es) X.env = (false, eval e X.env) :: starEach es X.env := by rfl) (hpl : (backTo pc (starEach es X.env)).any (·.1) = false := by rfl) {q0 : Pos} :
    DSs X F0 H0 W [.Assign [.Name x p] (.Subscript (.Name D pd) a px) pos, .Return (some (.Call (.Name x q0) (e :: es) [] pc)) pr] (gAct i acts f fs) := by
  obtain ⟨ad, m, T⟩ := T
  refine PSs.imp (pss_cons (ps_set hN hi hx (pe_ix (ix_F T) (pe_globA hg m hD) he hs) hsw hf) (pss_one (ps_ret (pe_act c hj hi hv ha hdb hcd hst hpl)))) fun Dn σ H ⟨ρ, F, sr, q⟩ => ?_
  show rd X.mg X.K F0 H0 W (Den X.K) f σ H _
  obtain ⟨ρ1, F1, sr1, q1⟩ := fin_rd (R := Den X.K) sr q
  refine ⟨ρ1, F1, sr1, q1.imp fun v H1 F2 d g1 r1 kk => ?_⟩
  obtain ⟨a', F3, g3, r3, sr3, q3⟩ := kk v H1 F2 (.refl g1.fh) r1
  cases r3 with
  | str z =>
    simp only at q3
    cases e1 : acts.lookup z with
    | none => rw [e1] at q3; exact q3.elim
    | some Fn =>
      rw [e1] at q3
      simp only at q3
      obtain ⟨f0, fd, ps, h1, G, hk, hb, hl⟩ := A.get e1
      refine ⟨rfl, z, f0, rfl, h1, ?_⟩
      by_cases hlen : i < ρ.length
      · rw [if_pos hlen] at q3
        have sr4 := sr3.setU i (some (.ref f0))
        refine ⟨f0, fd, ps, Fn, by rw [List.getElem?_set_self (by rw [← sr3.len]; exact hlen)], G, hk, hb, ?_⟩
        refine ⟨ρ.set i .un, F3, sr4, ?_⟩
        unfold sE at q3
        cases e2 : fs (ρ.set i .un) with
        | bad => simp only [e2, bind_bad] at q3; exact q3.elim
        | exc y => simp only [e2, bind_exc] at q3; exact fun cls dd H2 F2 g r => q3 cls dd _ H2 F2 (sr4.grow g) g.ff r
        | ok ds =>
          simp only [e2, bind_ok] at q3
          intro vs H2 F2 g r
          refine ⟨ds, F2, by rw [r.length, hn _ ds e2, hl], g.fh, r, ?_⟩
          cases e3 : Fn ds with
          | bad => rw [e3] at q3; exact q3.elim
          | exc y => rw [e3] at q3; exact fun cls dd H4 F4 g4 r4 => q3 cls dd _ H4 F4 (sr4.grow (g.trans g4)) (g.ff.trans g4.ff) r4
          | ok d => rw [e3] at q3; exact fun v H4 F4 g4 r4 => q3 v H4 F4 (sr4.grow (g.trans g4)).gr (g.ff.trans g4.ff) r4
      · rw [if_neg hlen] at q3
        exact q3.elim
  | _ => exact q3.elim
end
/-! ### a key of a table of defs -/
def inK (ks : List Str) : PyData → Option PyData
  | .str z => some (.bool (ks.contains z))
  | _ => none
def notInK (ks : List Str) : PyData → Option PyData
  | .str z => some (.bool (!ks.contains z))
  | _ => none
theorem lookup_keys {α : Type} (z : Str) : ∀ tbl : List (Str × α), (tbl.lookup z).isSome = (tbl.map (·.1)).contains z
  | [] => rfl
  | (k, x) :: r => by
    rw [List.lookup_cons, List.map_cons, List.contains_cons]
    cases hz : z == k with
    | true => rfl
    | false => rw [Bool.false_or]; exact lookup_keys z r
theorem inT_keys {α : Type} (tbl : List (Str × α)) : inT tbl = inK (tbl.map (·.1)) := by
  funext d
  cases d <;> first | rfl | (show some (PyData.bool _) = some (.bool _); rw [lookup_keys])
theorem notInT_keys {α : Type} (tbl : List (Str × α)) : notInT tbl = notInK (tbl.map (·.1)) := by
  funext d
  cases d <;> first | rfl | (show some (PyData.bool _) = some (.bool _); rw [lookup_keys])
section
variable {X : Cx} {F0 H0 : Hp} {W : WX} {pos p : Pos} {e : Expr} {f : Sls → Res PyData} {D : Str} {tbl : List (Str × Addr)}
theorem de_inTF {ks : List Str} (hg : Gl X D) (T : ∃ a, X.mg D = some (.ref a) ∧ TabF X.K X.w a tbl) (ha : DE X F0 H0 W e f) (h : (D == ("__debug__" : Str)) = false := by decide) (hm : behindInMarks .In (.Name D p) = false := by rfl) (hk : tbl.map (·.1) = ks := by rfl) : DE X F0 H0 W (.Compare e [.In] [.Name D p] pos) (d1 (inK ks) f) := by
  subst hk; rw [← inT_keys]; exact de_inT hg T ha h hm
theorem dt_inTF {ks : List Str} (hg : Gl X D) (T : ∃ a, X.mg D = some (.ref a) ∧ TabF X.K X.w a tbl) (ha : DE X F0 H0 W e f) (h : (D == ("__debug__" : Str)) = false := by decide) (hm : behindInMarks .In (.Name D p) = false := by rfl) (hk : tbl.map (·.1) = ks := by rfl) : DT X F0 H0 W (.Compare e [.In] [.Name D p] pos) (dB (d1 (inK ks) f)) := by
  subst hk; rw [← inT_keys]; exact dt_inT hg T ha h hm
theorem de_notInTF {ks : List Str} (hg : Gl X D) (T : ∃ a, X.mg D = some (.ref a) ∧ TabF X.K X.w a tbl) (ha : DE X F0 H0 W e f) (h : (D == ("__debug__" : Str)) = false := by decide) (hm : behindInMarks .NotIn (.Name D p) = false := by rfl) (hk : tbl.map (·.1) = ks := by rfl) : DE X F0 H0 W (.Compare e [.NotIn] [.Name D p] pos) (d1 (notInK ks) f) := by
  subst hk; rw [← notInT_keys]; exact de_notInT hg T ha h hm
theorem dt_notInTF {ks : List Str} (hg : Gl X D) (T : ∃ a, X.mg D = some (.ref a) ∧ TabF X.K X.w a tbl) (ha : DE X F0 H0 W e f) (h : (D == ("__debug__" : Str)) = false := by decide) (hm : behindInMarks .NotIn (.Name D p) = false := by rfl) (hk : tbl.map (·.1) = ks := by rfl) : DT X F0 H0 W (.Compare e [.NotIn] [.Name D p] pos) (dB (d1 (notInK ks) f)) := by
  subst hk; rw [← notInT_keys]; exact dt_notInT hg T ha h hm
end
/-! ### max and min of two texts, of two truth values -/
section
variable {prog : Program} {w : World} {A : Around} {E : Value → Shared → Prop} {s : Shared}
theorem two_kept {s : Shared} {a b : Value} {h' : Heap} {o1 : Obj} (hk : ∀ c o, c ∉ [((s.heap.push { cls := .type "tuple", data := .seq #[a, b] }).objs.size : Addr)] → ((s.heap.push { cls := .type "tuple", data := .seq #[a, b] }).push o1).get? c = some o → h'.get? c = some o) : ∀ c o, s.heap.get? c = some o → h'.get? c = some o := fun c o e => by
  refine hk c o (fun hm => ?_) (Heap.get?_push_of_some _ (Heap.get?_push_of_some _ e))
  have hlt := Heap.lt_size e
  have hz : (s.heap.push { cls := .type "tuple", data := .seq #[a, b] }).objs.size = s.heap.objs.size + 1 := Heap.size_push ..
  rw [List.mem_singleton.mp hm, hz] at hlt
  exact Nat.lt_irrefl _ (Nat.lt_of_succ_lt hlt)
theorem pick_two {a b v : Value} {bt : Nat → Nat → Bool} (h : (#[a, b] : Array Value)[argBest bt 1]? = some v) : v = if bt 1 0 = true then b else a := by
  have e : argBest bt 1 = if bt 1 0 = true then 1 else 0 := rfl
  rw [e] at h
  cases hb : bt 1 0 with
  | true => rw [hb] at h; simpa using h.symm
  | false => rw [hb] at h; simpa using h.symm
theorem max_by {a b : Value} {bt : Nat → Nat → Bool} {Q : Value → Shared → Prop} (hh : A.handled = none) (hc : CmpOf prog w A.in1 .Gt (fun i v => (#[a, b] : Array Value)[i]? = some v) bt)
    (h : ∀ h' tk, (∀ c o, s.heap.get? c = some o → h'.get? c = some o) → Q (if bt 1 0 = true then b else a) { s with heap := h', toks := tk }) : wpAny (model prog w) A (call (.builtin "max") [a, b]) Q E s := by
  have ht : (s.heap.push { cls := .type "tuple", data := .seq #[a, b] }).IsTuple s.heap.objs.size #[a, b] := ⟨_, Heap.get?_push_size _ rfl, rfl, 0, rfl⟩
  have hz : (s.heap.push { cls := .type "tuple", data := .seq #[a, b] }).objs.size = s.heap.objs.size + 1 := Heap.size_push ..
  refine call_max_two (wpAny_pyIter_tuple ht ⟨_, [_, s.heap.objs.size], [_], _, _, _, _, rfl, Walks.tuple (A := A.in1) hh _ s.heap.objs.size (by rw [hz]; exact Nat.ne_of_lt (Nat.lt_succ_self _)) #[a, b], ⟨⟨_, Heap.get?_push_size _ rfl, rfl, rfl⟩, ht.push _⟩, fun c hm => ?_, Nat.zero_lt_succ _, hc, fun v h' tk hP hk => ?_⟩)
  · show c < ((s.heap.push _).push _).objs.size
    rw [Heap.size_push, hz]
    simp only [List.mem_cons, List.not_mem_nil, or_false] at hm
    rcases hm with rfl | rfl
    · rw [hz]; exact Nat.lt_succ_self _
    · exact Nat.lt_succ_of_lt (Nat.lt_succ_self _)
  · rw [pick_two hP]
    exact h h' tk (two_kept hk)
theorem min_by {a b : Value} {bt : Nat → Nat → Bool} {Q : Value → Shared → Prop} (hh : A.handled = none) (hc : CmpOf prog w A.in1 .Lt (fun i v => (#[a, b] : Array Value)[i]? = some v) bt)
    (h : ∀ h' tk, (∀ c o, s.heap.get? c = some o → h'.get? c = some o) → Q (if bt 1 0 = true then b else a) { s with heap := h', toks := tk }) : wpAny (model prog w) A (call (.builtin "min") [a, b]) Q E s := by
  have ht : (s.heap.push { cls := .type "tuple", data := .seq #[a, b] }).IsTuple s.heap.objs.size #[a, b] := ⟨_, Heap.get?_push_size _ rfl, rfl, 0, rfl⟩
  have hz : (s.heap.push { cls := .type "tuple", data := .seq #[a, b] }).objs.size = s.heap.objs.size + 1 := Heap.size_push ..
  refine call_min_two (wpAny_pyIter_tuple ht ⟨_, [_, s.heap.objs.size], [_], _, _, _, _, rfl, Walks.tuple (A := A.in1) hh _ s.heap.objs.size (by rw [hz]; exact Nat.ne_of_lt (Nat.lt_succ_self _)) #[a, b], ⟨⟨_, Heap.get?_push_size _ rfl, rfl, rfl⟩, ht.push _⟩, fun c hm => ?_, Nat.zero_lt_succ _, hc, fun v h' tk hP hk => ?_⟩)
  · show c < ((s.heap.push _).push _).objs.size
    rw [Heap.size_push, hz]
    simp only [List.mem_cons, List.not_mem_nil, or_false] at hm
    rcases hm with rfl | rfl
    · rw [hz]; exact Nat.lt_succ_self _
    · exact Nat.lt_succ_of_lt (Nat.lt_succ_self _)
  · rw [pick_two hP]
    exact h h' tk (two_kept hk)
/-- the items, by their places -/
theorem two_items {a b v : Value} {i : Nat} (h : (#[a, b] : Array Value)[i]? = some v) : (i = 0 ∧ v = a) ∨ (i = 1 ∧ v = b) := by
  match i, h with
  | 0, h => exact .inl ⟨rfl, by simpa using h.symm⟩
  | 1, h => exact .inr ⟨rfl, by simpa using h.symm⟩
  | i + 2, h => simp at h
end
def keyS (x y : Str) : Nat → Str
  | 0 => x
  | _ => y
def keyB (x y : Bool) : Nat → Bool
  | 0 => x
  | _ => y
def max2D : List PyData → Option PyData
  | [.int i, .int j] => some (.int (if j > i then j else i))
  | [.str x, .str y] => some (.str (if x.cps.toList < y.cps.toList then y else x))
  | [.bool x, .bool y] => some (.bool (x || y))
  | _ => none
def min2D : List PyData → Option PyData
  | [.int i, .int j] => some (.int (if j < i then j else i))
  | [.str x, .str y] => some (.str (if y.cps.toList < x.cps.toList then y else x))
  | [.bool x, .bool y] => some (.bool (x && y))
  | _ => none
section
variable {X : Cx}
theorem call_max2W (hc : X.calm = true) : CallR X (.builtin "max") (rL X.K max2D) := by
  intro pins s σ H xs us Q I r h
  obtain ⟨as, F, ex, da, q⟩ := h
  cases da with
  | nil => exact q.elim
  | cons d1 d2 =>
    cases d2 with
    | nil => cases d1 <;> exact q.elim
    | cons d3 d4 =>
      cases d4 with
      | cons _ _ => cases d1 <;> cases d3 <;> exact q.elim
      | nil =>
        cases d1 with
        | int i =>
          cases d3 with
          | int j => exact call_max2 hc pins s σ H _ us Q I r ⟨i, j, rfl, q.val ex (.int _)⟩
          | _ => exact q.elim
        | str x =>
          cases d3 with
          | str y =>
            obtain ⟨u, w', rfl, ⟨t, rfl⟩, ⟨t', rfl⟩⟩ := vals2 r
            refine max_by (bt := fun i j => decide ((keyS x y j).cps.toList < (keyS x y i).cps.toList)) (I.ok.hd hc) (fun i j vi vj s Q E hi hj hQ => ?_) fun h' tk k => ⟨.str _, H, I.kept k, ?_, q.val ex (.str _)⟩
            · rcases two_items hi with ⟨rfl, rfl⟩ | ⟨rfl, rfl⟩ <;> rcases two_items hj with ⟨rfl, rfl⟩ | ⟨rfl, rfl⟩ <;> exact more_str hQ
            · show RelV _ (if decide (x.cps.toList < y.cps.toList) = true then _ else _)
              by_cases hz : x.cps.toList < y.cps.toList
              · rw [if_pos hz, if_pos (decide_eq_true hz)]; exact ⟨_, rfl⟩
              · rw [if_neg hz, if_neg (by simpa using hz)]; exact ⟨_, rfl⟩
          | _ => exact q.elim
        | bl x =>
          cases d3 with
          | bl y =>
            obtain ⟨u, w', rfl, rfl, rfl⟩ := vals2 r
            refine max_by (bt := fun i j => decide (b2i (keyB x y j) < b2i (keyB x y i))) (I.ok.hd hc) (fun i j vi vj s Q E hi hj hQ => ?_) fun h' tk k => ⟨.bl _, H, I.kept k, ?_, q.val ex (.bl _)⟩
            · rcases two_items hi with ⟨rfl, rfl⟩ | ⟨rfl, rfl⟩ <;> rcases two_items hj with ⟨rfl, rfl⟩ | ⟨rfl, rfl⟩ <;> exact gt_bool hQ
            · show RelV _ (if decide (b2i x < b2i y) = true then _ else _)
              cases x <;> cases y <;> rfl
          | _ => exact q.elim
        | _ => cases d3 <;> exact q.elim
theorem call_min2W (hc : X.calm = true) : CallR X (.builtin "min") (rL X.K min2D) := by
  intro pins s σ H xs us Q I r h
  obtain ⟨as, F, ex, da, q⟩ := h
  cases da with
  | nil => exact q.elim
  | cons d1 d2 =>
    cases d2 with
    | nil => cases d1 <;> exact q.elim
    | cons d3 d4 =>
      cases d4 with
      | cons _ _ => cases d1 <;> cases d3 <;> exact q.elim
      | nil =>
        cases d1 with
        | int i =>
          cases d3 with
          | int j => exact call_min2 hc pins s σ H _ us Q I r ⟨i, j, rfl, q.val ex (.int _)⟩
          | _ => exact q.elim
        | str x =>
          cases d3 with
          | str y =>
            obtain ⟨u, w', rfl, ⟨t, rfl⟩, ⟨t', rfl⟩⟩ := vals2 r
            refine min_by (bt := fun i j => decide ((keyS x y i).cps.toList < (keyS x y j).cps.toList)) (I.ok.hd hc) (fun i j vi vj s Q E hi hj hQ => ?_) fun h' tk k => ⟨.str _, H, I.kept k, ?_, q.val ex (.str _)⟩
            · rcases two_items hi with ⟨rfl, rfl⟩ | ⟨rfl, rfl⟩ <;> rcases two_items hj with ⟨rfl, rfl⟩ | ⟨rfl, rfl⟩ <;> exact P.lt_str hQ
            · show RelV _ (if decide (y.cps.toList < x.cps.toList) = true then _ else _)
              by_cases hz : y.cps.toList < x.cps.toList
              · rw [if_pos hz, if_pos (decide_eq_true hz)]; exact ⟨_, rfl⟩
              · rw [if_neg hz, if_neg (by simpa using hz)]; exact ⟨_, rfl⟩
          | _ => exact q.elim
        | bl x =>
          cases d3 with
          | bl y =>
            obtain ⟨u, w', rfl, rfl, rfl⟩ := vals2 r
            refine min_by (bt := fun i j => decide (b2i (keyB x y i) < b2i (keyB x y j))) (I.ok.hd hc) (fun i j vi vj s Q E hi hj hQ => ?_) fun h' tk k => ⟨.bl _, H, I.kept k, ?_, q.val ex (.bl _)⟩
            · rcases two_items hi with ⟨rfl, rfl⟩ | ⟨rfl, rfl⟩ <;> rcases two_items hj with ⟨rfl, rfl⟩ | ⟨rfl, rfl⟩ <;> exact lt_bool hQ
            · show RelV _ (if decide (b2i y < b2i x) = true then _ else _)
              cases x <;> cases y <;> rfl
          | _ => exact q.elim
        | _ => cases d3 <;> exact q.elim
end
/-! ### x.find(y) -/
def findD (a : PyData) (as : List PyData) : Option PyData := match a, as with
  | .str x, [.str y] => some (.int (Txt.find x y))
  | _, _ => none
theorem mt_findD {X : Cx} : MtR X "str.find" (rM X.K findD) := by
  intro pins s σ H x xs v us Q I rx rs h
  obtain ⟨a, as, F, ex, da, das, q⟩ := h
  cases da with
  | str z =>
    cases das with
    | nil => exact q.elim
    | cons d1 d2 =>
      cases d2 with
      | cons _ _ => cases d1 <;> exact q.elim
      | nil =>
        cases d1 with
        | str y => exact mt_find pins s σ H _ _ v us Q I rx rs ⟨z, y, rfl, rfl, q.val ex (.int _)⟩
        | _ => exact q.elim
  | _ => exact q.elim
/-! ### int(x), of a text too -/
def intXD : List PyData → Option PyData
  | [.int i] => some (.int i)
  | [.bool b] => some (.int (if b = true then 1 else 0))
  | [.str z] => if z.length ≤ 640 then (PySem.intText? z).map .int else none
  | _ => none
theorem call_intX {X : Cx} : CallR X (.type "int") (rL X.K intXD) := by
  intro pins s σ H xs us Q I r h
  obtain ⟨as, F, ex, da, q⟩ := h
  cases da with
  | nil => exact q.elim
  | cons d1 d2 =>
    cases d2 with
    | cons _ _ => cases d1 <;> exact q.elim
    | nil =>
      cases d1 with
      | int i => exact call_int1 pins s σ H _ us Q I r (.inl ⟨i, rfl, q.val ex (.int _)⟩)
      | bl b => exact call_int1 pins s σ H _ us Q I r (.inr ⟨b, rfl, q.val ex (.int _)⟩)
      | str z =>
        have q' : Rop X.K (if z.length ≤ 640 then (PySem.intText? z).map .int else none) H F Q := q
        by_cases hz : z.length ≤ 640
        · rw [if_pos hz] at q'
          cases e : PySem.intText? z with
          | none => rw [e] at q'; exact q'.elim
          | some n => rw [e] at q'; exact call_int_str pins s σ H _ us Q I r ⟨z, n, rfl, e, hz, q'.val ex (.int n)⟩
        · rw [if_neg hz] at q'
          exact q'.elim
      | _ => exact q.elim
/-! ### a sign, so many times -/
def mulVD (a b : PyData) : Option PyData := match a, b with
  | .str x, .int n => if 0 ≤ n ∧ n ≤ 1000 ∧ x.length = 1 then some (.str (Txt.mul x n)) else none
  | a, b => mulD a b
theorem mulOk_one {x : Str} {n : Int} (h0 : 0 ≤ n) (h1 : n ≤ 1000) (hx : x.length = 1) : MulOk x n := by
  refine ⟨?_, fun hn _ => ?_, fun hn _ => ?_⟩
  · have a1 : ¬ n < -(2 ^ 63 : Int) := by omega
    have a2 : ¬ n ≥ (2 ^ 63 : Int) := by omega
    rw [decide_eq_false a1, decide_eq_false a2]; rfl
  · rw [hx]
    have : (1 : Int) ≤ (2 ^ 63 - 1) / n := Int.le_ediv_of_mul_le (by omega) (by omega)
    omega
  · rw [hx]
    have : n.toNat ≤ 1000 := by omega
    show decide (1 * n.toNat > sizeLine) = false
    rw [line24]
    exact decide_eq_false (by omega)
theorem op_mulV {X : Cx} : OpR X (binaryOp .Mult) (r2 X.K mulVD) := by
  intro pins s σ H x y v u Q I rx ry h
  obtain ⟨a, b, F, ex, da, db, q⟩ := h
  cases da with
  | str z =>
    cases db with
    | int n =>
      have q' : Rop X.K (if 0 ≤ n ∧ n ≤ 1000 ∧ z.length = 1 then some (.str (Txt.mul z n)) else none) H F Q := q
      by_cases hz : 0 ≤ n ∧ n ≤ 1000 ∧ z.length = 1
      · rw [if_pos hz] at q'
        obtain ⟨t, rfl⟩ := rx
        obtain ⟨t', rfl⟩ := ry
        exact SB.mul (mulOk_one hz.1 hz.2.1 hz.2.2) fun t'' k => ⟨.str _, H, I.tok k, ⟨t'', rfl⟩, q'.val ex (.str _)⟩
      · rw [if_neg hz] at q'; exact q'.elim
    | _ => exact q.elim
  | int i => exact op_mulD pins s σ H _ _ v u Q I rx ry ⟨_, b, F, ex, .int i, db, by cases db <;> exact q⟩
  | _ => cases db <;> exact q.elim
/-! ### an own list is looked at, and stays one's own -/
def dBrw (i : Nat) (f : Sls → Res PyData) (ρ : Sls) : Res PyData := flatR (f (frz i ρ))
def tBrw (i : Nat) (t : Sls → Res Bool) (ρ : Sls) : Res Bool := boolR (t (frz i ρ))
end DL

/-! DL10: zip of lists and tuples in any mix, enumerate of a list, range with a step. -/
namespace DL
open PySem PySem.Spec PyProof.Rows L2

/-- a list (true) or a tuple -/
def SqA (K : PySem.W.Frag) (H : Hp) : Bool → Addr → List V → Prop
  | true, a, xs => SqL K H a xs
  | false, a, xs => SqT K H a xs
def IsSeq (h : Heap) : Bool → Addr → Array Value → Prop
  | true, a, its => h.IsList a its
  | false, a, its => h.IsTuple a its
def IsIt (h : Heap) : Bool → Addr → Addr → Nat → Prop
  | true, it, a, i => h.IsListIter it a i
  | false, it, a, i => h.IsTupleIter it a i
def itObj : Bool → Addr → Obj
  | true, a => { cls := .type "list_iterator", data := .fields #[.ref a, .int 0 0] }
  | false, a => { cls := .type "tuple_iterator", data := .fields #[.ref a, .int 0 0] }
section
variable {X : Cx} {pins : List (Addr × Obj)} {σ : L2.St} {H : Hp} {s : Shared} {k : Bool} {a it : Addr} {i : Nat} {xs ys : List V} {h h' : Heap}
theorem seq_of (I : Inv X pins σ H s) (q : SqA X.K H k a xs) : ∃ its : List Value, Vals xs its ∧ IsSeq s.heap k a its.toArray := by
  cases k with
  | true =>
    obtain ⟨its, r, p, _⟩ := I.list q
    exact ⟨its, r, p.isList⟩
  | false =>
    obtain ⟨its, r, p, _⟩ := I.tuple q
    exact ⟨its, r, p⟩
theorem seq_inj (I : Inv X pins σ H s) (q : SqA X.K H k a xs) (q' : SqA X.K H k a ys) : xs = ys := by
  cases k with
  | true => exact I.list_inj q q'
  | false => exact I.tuple_inj q q'
theorem IsIt.obj (q : IsIt h k it a i) : ∃ o, h.get? it = some o ∧ ∀ v, o.data ≠ .cell v := by
  cases k with
  | true => obtain ⟨o, e, _, d⟩ := q; exact ⟨o, e, fun v z => by rw [d] at z; cases z⟩
  | false => obtain ⟨o, e, _, d⟩ := q; exact ⟨o, e, fun v z => by rw [d] at z; cases z⟩
theorem IsIt.at (q : IsIt h k it a i) (e : ∀ o, h.get? it = some o → h'.get? it = some o) : IsIt h' k it a i := by
  cases k with
  | true => exact Heap.IsListIter.at q e
  | false => exact Heap.IsTupleIter.at q e
theorem IsSeq.lt {its : Array Value} (q : IsSeq h k a its) : a < h.objs.size := by
  cases k with
  | true => obtain ⟨o, e, _⟩ := q; exact Heap.lt_size e
  | false => obtain ⟨o, e, _⟩ := q; exact Heap.lt_size e
theorem drawsA {P : Program} {w : World} {A : Around} (hh : A.handled = none) (k : Bool) (it a : Addr) (hne : a ≠ it) (its : Array Value) :
    Draws P w A it [it, a] its.size (fun i v => its[i]? = some v) (fun i h => IsIt h k it a i ∧ IsSeq h k a its) := by
  cases k with
  | true => exact Draws.list hh it a hne its
  | false => exact Draws.tuple hh it a hne its
theorem beginsA (k : Bool) (a : Addr) (its : Array Value) : Begins (.ref a) (itObj k a) fun h => IsSeq h k a its := by
  cases k with
  | true => exact begins_list a its
  | false => exact begins_tuple a its
theorem isit_new (k : Bool) (a it : Addr) (e : h.get? it = some (itObj k a)) : IsIt h k it a 0 := by
  cases k with
  | true => exact ⟨_, e, rfl, rfl⟩
  | false => exact ⟨_, e, rfl, rfl⟩
end
/-- the items of both in new pairs -/
def ItzM (K : PySem.W.Frag) (k1 k2 : Bool) (a b : Addr) : It :=
  ⟨fun i H => ∃ (xs ys : List V) (x y : V), SqA K H k1 a xs ∧ SqA K H k2 b ys ∧ xs[i]? = some x ∧ ys[i]? = some y,
    fun i H v H' => ∃ T x y, v = .ref T ∧ H T = none ∧ H' = upd H T (.tup [x, y]) ∧ (∀ xs, SqA K H k1 a xs → xs[i]? = some x) ∧ ∀ ys, SqA K H k2 b ys → ys[i]? = some y,
    fun i H => ∃ xs ys : List V, SqA K H k1 a xs ∧ SqA K H k2 b ys ∧ i ≤ xs.length ∧ i ≤ ys.length ∧ (xs.length = i ∨ ys.length = i)⟩
theorem turn_zipM {P : Program} {w : World} {K : PySem.W.Frag} {elts : List Expr} {kk : Nat} {tpos : Pos} {a b z TI TO i1 i2 : Addr} {k1 k2 : Bool} (D : ZipSep2 z TI TO i1 i2 [i1, a] [i2, b]) :
    Turn P w K (.Tuple elts kk tpos) (ItzM K k1 k2 a b) [z, TI, TO, i1, i2] z (fun i h => IsZip h z TI TO .none ∧ IsTupOf2 h TI (.ref i1) (.ref i2) ∧ (∃ x y, IsTupOf2 h TO x y) ∧ IsIt h k1 i1 a i ∧ IsIt h k2 i2 b i) where
  mem := by simp
  obj := fun i h st c hc => by
    obtain ⟨hz, hTI, ⟨x, y, hTO⟩, h1, h2⟩ := st
    have e' : c = z ∨ c = TI ∨ c = TO ∨ c = i1 ∨ c = i2 := by simpa using hc
    rcases e' with q | q | q | q | q
    · rw [q]; exact ⟨_, hz, fun v q => nomatch q⟩
    · rw [q]; exact ⟨_, hTI, fun v q => nomatch q⟩
    · rw [q]; exact ⟨_, hTO, fun v q => nomatch q⟩
    · rw [q]; exact h1.obj
    · rw [q]; exact h2.obj
  keep := fun i h h' st k => by
    obtain ⟨hz, hTI, ⟨x, y, hTO⟩, h1, h2⟩ := st
    exact ⟨k z (by simp) _ hz, k TI (by simp) _ hTI, ⟨x, y, k TO (by simp) _ hTO⟩, h1.at fun o q => k i1 (by simp) o q, h2.at fun o q => k i2 (by simp) o q⟩
  item := by
    intro X hP hw hK hc i pins s σ H E I hf st hg
    subst hP hw hK
    obtain ⟨hz, hTI, ⟨x0, y0, hTO⟩, h1, h2⟩ := st
    obtain ⟨xs, ys, x, y, hqx, hqy, hx, hy⟩ := hg
    obtain ⟨its, rv, p⟩ := seq_of I hqx
    obtain ⟨its2, rv2, p2⟩ := seq_of I hqy
    obtain ⟨u, hu, ru⟩ := rv.get hx
    obtain ⟨u2, hu2, ru2⟩ := rv2.get hy
    have hzl : z < s.heap.objs.size := Heap.lt_size hz
    have hh : X.A.in1.handled = none := I.ok.hd hc
    have ne1 : a ≠ i1 := fun q => by
      obtain ⟨o, e, _⟩ := h1.obj
      have := D.sep2_1
      cases k1 with
      | true => obtain ⟨o1, e1, c1, _⟩ := h1; obtain ⟨o2, e2, c2, _⟩ := p; subst q; rw [e1] at e2; cases e2; rw [c1] at c2; exact absurd (Value.type.inj c2) (by decide)
      | false => obtain ⟨o1, e1, c1, _⟩ := h1; obtain ⟨o2, e2, c2, _⟩ := p; subst q; rw [e1] at e2; cases e2; rw [c1] at c2; exact absurd (Value.type.inj c2) (by decide)
    have ne2 : b ≠ i2 := fun q => by
      cases k2 with
      | true => obtain ⟨o1, e1, c1, _⟩ := h2; obtain ⟨o2, e2, c2, _⟩ := p2; subst q; rw [e1] at e2; cases e2; rw [c1] at c2; exact absurd (Value.type.inj c2) (by decide)
      | false => obtain ⟨o1, e1, c1, _⟩ := h2; obtain ⟨o2, e2, c2, _⟩ := p2; subst q; rw [e1] at e2; cases e2; rw [c1] at c2; exact absurd (Value.type.inj c2) (by decide)
    have l1 : i < its.toArray.size := by
      have := (List.getElem?_eq_some_iff.mp hu).1
      simpa using this
    have l2 : i < its2.toArray.size := by
      have := (List.getElem?_eq_some_iff.mp hu2).1
      simpa using this
    refine wpAny_pyNext_zipD2_item D (drawsA hh k1 i1 a ne1 its.toArray) (drawsA hh k2 i2 b ne2 its2.toArray) hz hTI hTO ⟨h1, p⟩ ⟨h2, p2⟩ l1 l2 fun x1 x2 h' tk y1 y2 z' TO' s1' s2' hT hsz hk => ?_
    have hx1 : x1 = u := by
      have e1 : its[i]? = some x1 := by simpa using y1
      rw [hu] at e1; cases e1; rfl
    have hx2 : x2 = u2 := by
      have e1 : its2[i]? = some x2 := by simpa using y2
      rw [hu2] at e1; cases e1; rfl
    subst hx1 hx2
    refine ⟨_, rfl, wpAny_letOwnedTupleGo_zip (s := { s with heap := h', toks := tk }) z' fun h'' z'' sb => ?_⟩
    have hT2 : h''.get? s.heap.objs.size = some { cls := .type "tuple", data := .seq #[x1, x2] } := (sb.2 _ (Nat.ne_of_gt hzl)).trans hT
    have new : ObjOk X.prog X.w (upd H s.heap.objs.size (.tup [x, y])) h'' s.heap.objs.size (.tup [x, y]) :=
      ⟨by show 2 ≤ sizeLine; decide, [x1, x2], .cons ru (.cons ru2 .nil), ⟨_, hT2, rfl, _, rfl⟩⟩
    have I1 : Inv X pins σ (upd H s.heap.objs.size (.tup [x, y])) { s with heap := h'', toks := tk } :=
      I.turnedNew (t' := tk) (ch := [z, TI, TO, i1, i2]) (fun c o hb q => (sb.2 c (fun q' => hb (by simp [q']))).trans (hk c o (fun q' => hb (by simp [q'])) (fun q' => hb (by simp [q'])) (fun q' => hb (by simp [q'])) (fun q' => hb (by simp [q'])) q)) hf (Nat.le_refl _) new
    refine ⟨.ref s.heap.objs.size, _, I1, rfl, ⟨_, x, y, rfl, I.hok.fresh (Nat.le_refl _), rfl, fun l hl => by rw [seq_inj I hl hqx]; exact hx, fun l hl => by rw [seq_inj I hl hqy]; exact hy⟩, ⟨z'', ?_, ⟨x1, x2, ?_⟩, ?_, ?_⟩, fun c hcm => ?_⟩
    · exact (sb.2 _ D.TIz).trans (hk _ _ D.TIz D.TITO D.TIi1 D.TIi2 hTI)
    · exact (sb.2 _ D.TOz).trans TO'
    · exact s1'.1.at fun o q => (sb.2 _ (Ne.symm D.zi1)).trans q
    · exact s2'.1.at fun o q => (sb.2 _ (Ne.symm D.zi2)).trans q
    · have hlt : c < s.heap.objs.size := by
        have e' : c = z ∨ c = TI ∨ c = TO ∨ c = i1 ∨ c = i2 := by simpa using hcm
        rcases e' with q | q | q | q | q
        · rw [q]; exact hzl
        · rw [q]; exact Heap.lt_size hTI
        · rw [q]; exact Heap.lt_size hTO
        · rw [q]; obtain ⟨_, e1, _⟩ := h1.obj; exact Heap.lt_size e1
        · rw [q]; obtain ⟨_, e2, _⟩ := h2.obj; exact Heap.lt_size e2
      rw [upd_ne (Nat.ne_of_lt hlt)]
      exact (hf c hcm).1
  done := by
    intro X hP hw hK hc i pins s σ H E I hf st hg
    subst hP hw hK
    obtain ⟨hz, hTI, ⟨x0, y0, hTO⟩, h1, h2⟩ := st
    obtain ⟨xs, ys, hqx, hqy, b1, b2, hend⟩ := hg
    obtain ⟨its, rv, p⟩ := seq_of I hqx
    obtain ⟨its2, rv2, p2⟩ := seq_of I hqy
    have hh : X.A.in1.handled = none := I.ok.hd hc
    have l1 := rv.length
    have l2 := rv2.length
    have ne1 : a ≠ i1 := fun q => by
      cases k1 with
      | true => obtain ⟨o1, e1, c1, _⟩ := h1; obtain ⟨o2, e2, c2, _⟩ := p; subst q; rw [e1] at e2; cases e2; rw [c1] at c2; exact absurd (Value.type.inj c2) (by decide)
      | false => obtain ⟨o1, e1, c1, _⟩ := h1; obtain ⟨o2, e2, c2, _⟩ := p; subst q; rw [e1] at e2; cases e2; rw [c1] at c2; exact absurd (Value.type.inj c2) (by decide)
    have ne2 : b ≠ i2 := fun q => by
      cases k2 with
      | true => obtain ⟨o1, e1, c1, _⟩ := h2; obtain ⟨o2, e2, c2, _⟩ := p2; subst q; rw [e1] at e2; cases e2; rw [c1] at c2; exact absurd (Value.type.inj c2) (by decide)
      | false => obtain ⟨o1, e1, c1, _⟩ := h2; obtain ⟨o2, e2, c2, _⟩ := p2; subst q; rw [e1] at e2; cases e2; rw [c1] at c2; exact absurd (Value.type.inj c2) (by decide)
    refine wpAny_pyNext_zipD2_end D (drawsA hh k1 i1 a ne1 its.toArray) (drawsA hh k2 i2 b ne2 its2.toArray) hz hTI hTO ⟨h1, p⟩ ⟨h2, p2⟩ (by simp; omega) (by simp; omega) (by simp; omega) fun h' tk hk => ⟨rfl, I.turnedL (t' := tk) (ch := [z, TI, TO, i1, i2]) (fun c o hb q =>
      hk c o (fun q' => hb (by simp [q'])) (fun q' => hb (by simp [q'])) (fun q' => hb (by simp [q'])) (fun q' => hb (by simp [q'])) q) hf⟩
  self := fun A i s Q E st h => wpAny_pyIter_zip st.1 h
def iZipM (K : PySem.W.Frag) (ta : TA) : TI := fun σ H R => ta σ H fun vs H1 => ∃ a b k1 k2 xs ys, vs = [.ref a, .ref b] ∧ SqA K H1 k1 a xs ∧ SqA K H1 k2 b ys ∧ R (ItzM K k1 k2 a b) H1
theorem pi_zipM {X : Cx} {e e2 : Expr} {ta : TA} {p pos tpos : Pos} {elts : List Expr} {kk : Nat} (hg : Gl X "zip") (hm : X.mg "zip" = none) (ha : PA X [e, e2] ta)
    (hs : starEach [e, e2] X.env = (false, eval e X.env) :: starEach [e2] X.env := by rfl) (hpl : (backTo pos (starEach [e2] X.env)).any (·.1) = false := by rfl) :
    PI X (.Tuple elts kk tpos) (.Call (.Name "zip" p) [e, e2] [] pos) (iZipM X.K ta) := by
  refine ⟨fun pins s σ H R I h => ?_⟩
  refine Call_ (ld_blt I hg hm PyProof.Rows.boot_zip (PyProof.Rows.callWith_type1 (thn (ha.run pos pins s σ H _ I h) fun us s1 ⟨vs, H1, I1, r1, q1⟩ => ?_) hs hpl))
  obtain ⟨a, b, k1, k2, xs, ys, ex, hqx, hqy, q⟩ := q1
  subst ex
  cases r1 with
  | cons r rr =>
    cases rr with
    | cons r' rr =>
      cases rr
      cases r
      cases r'
      have fresh5 : ∀ c, c ∈ [s1.heap.objs.size + 4, s1.heap.objs.size + 2, s1.heap.objs.size + 3, s1.heap.objs.size, s1.heap.objs.size + 1] → FpOk X pins H1 c := fun c hcm => by
        have e' : c = s1.heap.objs.size + 4 ∨ c = s1.heap.objs.size + 2 ∨ c = s1.heap.objs.size + 3 ∨ c = s1.heap.objs.size ∨ c = s1.heap.objs.size + 1 := by simpa using hcm
        have hle : s1.heap.objs.size ≤ c := by
          rcases e' with z | z | z | z | z
          · rw [z]; exact Nat.le_add_right _ _
          · rw [z]; exact Nat.le_add_right _ _
          · rw [z]; exact Nat.le_add_right _ _
          · rw [z]; exact Nat.le_refl _
          · rw [z]; exact Nat.le_add_right _ _
        exact I1.fpOk hle (I1.hok.fresh hle)
      obtain ⟨its, rv, p1⟩ := seq_of I1 hqx
      obtain ⟨its2, rv2, p2⟩ := seq_of I1 hqy
      refine zip_begins2 (beginsA k1 a its.toArray) (beginsA k2 b its2.toArray) p1 p2 fun h' hz hTI hTO h1 h2 hsz hk => wpAny_pyIter_zip hz ?_
      have I2 : Inv X pins σ H1 { s1 with heap := h' } := I1.kept (t' := s1.toks) hk
      refine ⟨s1.heap.objs.size + 4, [s1.heap.objs.size + 4, s1.heap.objs.size + 2, s1.heap.objs.size + 3, s1.heap.objs.size, s1.heap.objs.size + 1], _, _, H1, rfl, I2, turn_zipM (zip_sep2 (fp1 := [a]) (fp2 := [b]) (fun c hc => ?_) (fun c hc => ?_)), ⟨hz, hTI, ⟨_, _, hTO⟩, isit_new k1 a _ h1, isit_new k2 b _ h2⟩, fresh5, q⟩
      · rw [List.mem_singleton.mp hc]; exact p1.lt
      · rw [List.mem_singleton.mp hc]; exact p2.lt

/-! ### as data -/
def pairD (p : PyData × PyData) : PyData := .tuple [p.1, p.2]
def zipD (xs ys : List PyData) : List PyData := (xs.zip ys).map pairD
theorem SqA.ex {K : PySem.W.Frag} {H H' : Hp} {k : Bool} {a : Addr} {xs : List V} (e : Ex H H') (q : SqA K H k a xs) : SqA K H' k a xs := by
  cases k with
  | true => exact e.sl q
  | false => exact e.st q
theorem zip_get : ∀ {α β : Type} {xs : List α} {ys : List β} {i : Nat} {p : α × β}, (xs.zip ys)[i]? = some p → xs[i]? = some p.1 ∧ ys[i]? = some p.2
  | _, _, [], _, _, _, e => by simp at e
  | _, _, _ :: _, [], _, _, e => by simp at e
  | _, _, x :: xs, y :: ys, 0, p, e => by simp at e; subst e; exact ⟨rfl, rfl⟩
  | _, _, x :: xs, y :: ys, i + 1, p, e => by
    rw [List.zip_cons_cons, List.getElem?_cons_succ] at e
    simpa using zip_get e
theorem itok_z {K : PySem.W.Frag} {F1 : Hp} {k1 k2 : Bool} {a b : Addr} {xs ys : List V} {ds es : List PyData} (h1 : SqA K F1 k1 a xs) (h2 : SqA K F1 k2 b ys) (q1 : Dens K F1 xs ds) (q2 : Dens K F1 ys es) : ItOk K (ItzM K k1 k2 a b) (zipD ds es) F1 := by
  have hl : (zipD ds es).length = min ds.length es.length := by unfold zipD; simp
  have l1 := q1.length
  have l2 := q2.length
  refine ⟨fun i H e hi => ?_, fun i H e hi => ?_, fun i H x H' F d e1 e2 hd y => ?_⟩
  · rw [hl] at hi
    obtain ⟨v, hv, _⟩ := q1.get (List.getElem?_eq_getElem (show i < ds.length by omega))
    obtain ⟨u, hu, _⟩ := q2.get (List.getElem?_eq_getElem (show i < es.length by omega))
    exact ⟨xs, ys, v, u, h1.ex e, h2.ex e, hv, hu⟩
  · rw [hl] at hi
    exact ⟨xs, ys, h1.ex e, h2.ex e, by omega, by omega, by omega⟩
  · obtain ⟨T, v, u, rfl, hT, rfl, y1, y2⟩ := y
    unfold zipD at hd
    rw [List.getElem?_map] at hd
    cases e3 : (ds.zip es)[i]? with
    | none => rw [e3] at hd; cases hd
    | some p =>
      rw [e3] at hd
      cases hd
      obtain ⟨g1, g2⟩ := zip_get e3
      obtain ⟨v', hv, dv⟩ := q1.get g1
      obtain ⟨u', hu, du⟩ := q2.get g2
      have a1 := y1 xs (h1.ex (e1.trans e2))
      have a2 := y2 ys (h2.ex (e1.trans e2))
      rw [hv] at a1
      rw [hu] at a2
      cases a1
      cases a2
      have g := Gr.new (o := .tup [v, u]) e2 hT
      exact ⟨_, g, .tup (.inl (.inl upd_same)) (.cons ((dv.mono e1).mono g.ff) (.cons ((du.mono e1).mono g.ff) .nil))⟩
def seqZ : PyData → Option (List PyData)
  | .list ds => some ds
  | .tuple ds => some ds
  | _ => none
def zip2D : List PyData → Option (List PyData)
  | [x, y] => (seqZ x).bind fun ds => (seqZ y).bind fun es => some (zipD ds es)
  | _ => none
theorem den_seq {K : PySem.W.Frag} {F : Hp} {v : V} {d : PyData} {ds : List PyData} (h : Den K F v d) (q : seqZ d = some ds) : ∃ (k : Bool) (a : Addr) (xs : List V), v = .ref a ∧ SqA K F k a xs ∧ Dens K F xs ds := by
  cases h with
  | @lst a xs ds' h1 h2 => cases q; exact ⟨true, a, xs, rfl, h1, h2⟩
  | @tup a xs ds' h1 h2 => cases q; exact ⟨false, a, xs, rfl, h1, h2⟩
  | _ => cases q
section
variable {X : Cx} {F0 H0 : Hp} {W : WX} {pos : Pos} {tg l a b c e : Expr} {f : Sls → Res PyData} {fs : Sls → Res (List PyData)}
theorem di_zip {p tpos : Pos} {elts : List Expr} {kk : Nat} (hg : Gl X "zip") (hm : X.mg "zip" = none) (ha : DA X F0 H0 W [a, b] fs) (hs : starEach [a, b] X.env = (false, eval a X.env) :: starEach [b] X.env := by rfl) (hpl : (backTo pos (starEach [b] X.env)).any (·.1) = false := by rfl) :
    DI X F0 H0 W (.Tuple elts kk tpos) (.Call (.Name "zip" p) [a, b] [] pos) (dRng zip2D fs) := by
  refine PI.imp (pi_zipM hg hm ha hs hpl) fun σ H R ⟨ρ, F, sr, q⟩ => ⟨ρ, F, sr, ?_⟩
  unfold dRng at q
  cases e : fs ρ with
  | ok ds =>
    simp only [e, bind_ok] at q
    intro v H1 F1 g1 r1
    cases r1 with
    | nil => exact q.elim
    | cons h1 r2 =>
      cases r2 with
      | nil => exact q.elim
      | cons h2 r3 =>
        cases r3 with
        | cons _ _ => exact q.elim
        | @nil =>
          rename_i v1 d1 v2 d2
          cases e1 : seqZ d1 with
          | none => simp only [zip2D, e1] at q; exact q.elim
          | some ds1 =>
            cases e2 : seqZ d2 with
            | none => simp only [zip2D, e1, e2] at q; exact q.elim
            | some ds2 =>
              simp only [zip2D, e1, e2] at q
              obtain ⟨k1, a1, xs, rfl, s1, n1⟩ := den_seq h1 e1
              obtain ⟨k2, a2, ys, rfl, s2, n2⟩ := den_seq h2 e2
              exact ⟨a1, a2, k1, k2, xs, ys, rfl, s1.ex g1.fh, s2.ex g1.fh, q _ H1 F1 g1 (itok_z s1 s2 n1 n2)⟩
  | exc x => simp only [e, bind_exc] at q; exact q
  | bad => simp only [e, bind_bad] at q
/-- enumerate of a list -/
def enumD (ds : List PyData) : List PyData := (List.range ds.length).map fun i => .tuple [.int (i : Nat), ds.getD i .none]
theorem itok_e {K : PySem.W.Frag} {F1 : Hp} {a : Addr} {xs : List V} {ds : List PyData} (h1 : SqL K F1 a xs) (q1 : Dens K F1 xs ds) : ItOk K (Ite K a) (enumD ds) F1 := by
  have hl : (enumD ds).length = ds.length := by unfold enumD; simp
  have l1 := q1.length
  refine ⟨fun i H e hi => ?_, fun i H e hi => ⟨xs, e.sl h1, by omega⟩, fun i H x H' F d e1 e2 hd y => ?_⟩
  · rw [hl] at hi
    obtain ⟨v, hv, _⟩ := q1.get (List.getElem?_eq_getElem hi)
    exact ⟨xs, v, e.sl h1, hv⟩
  · obtain ⟨T, v, rfl, hT, rfl, y1⟩ := y
    have hi : i < ds.length := by rw [← hl]; exact (List.getElem?_eq_some_iff.mp hd).1
    unfold enumD at hd
    rw [List.getElem?_map, List.getElem?_range hi] at hd
    cases hd
    obtain ⟨v', hv, dv⟩ := q1.get (List.getElem?_eq_getElem hi)
    have a1 := y1 xs ((e1.trans e2).sl h1)
    rw [hv] at a1
    cases a1
    have g := Gr.new (o := .tup [.int (i : Nat), v]) e2 hT
    have e3 : ds.getD i .none = ds[i] := by rw [List.getD_eq_getElem?_getD, List.getElem?_eq_getElem hi]; rfl
    show ∃ F', Gr F H F' _ ∧ Den K F' _ (.tuple [.int (i : Nat), ds.getD i .none])
    rw [e3]
    exact ⟨_, g, .tup (.inl (.inl upd_same)) (.cons (.int _) (.cons ((dv.mono e1).mono g.ff) .nil))⟩
def enum1 : List PyData → Option (List PyData)
  | [.list ds] => some (enumD ds)
  | _ => none
theorem di_enum {p tpos : Pos} {elts : List Expr} {kk : Nat} (hg : Gl X "enumerate") (hm : X.mg "enumerate" = none) (ha : DA X F0 H0 W [a] fs) (hs : starEach [a] X.env = [(false, eval a X.env)] := by rfl) :
    DI X F0 H0 W (.Tuple elts kk tpos) (.Call (.Name "enumerate" p) [a] [] pos) (dRng enum1 fs) := by
  refine PI.imp (pi_enum hg hm ha hs) fun σ H R ⟨ρ, F, sr, q⟩ => ⟨ρ, F, sr, ?_⟩
  unfold dRng at q
  cases e : fs ρ with
  | ok ds =>
    simp only [e, bind_ok] at q
    intro v H1 F1 g1 r1
    cases r1 with
    | nil => exact q.elim
    | cons h1 r2 =>
      cases r2 with
      | cons _ _ => cases h1 <;> exact q.elim
      | nil =>
        cases h1 with
        | @lst a xs ds h1 h2 => exact ⟨a, xs, rfl, g1.fh.sl h1, q _ H1 F1 g1 (itok_e h1 h2)⟩
        | _ => exact q.elim
  | exc x => simp only [e, bind_exc] at q; exact q
  | bad => simp only [e, bind_bad] at q
/-- range with a step of its own -/
def stepD (lo c : Int) (n : Nat) : List PyData := (List.range n).map fun i => .int (lo + (i : Nat) * c)
theorem itok_c {K : PySem.W.Frag} {F1 : Hp} {lo c : Int} {n : Nat} : ItOk K (Itc lo c n) (stepD lo c n) F1 := by
  have hl : (stepD lo c n).length = n := by simp [stepD]
  refine ⟨fun i H e hi => by rw [hl] at hi; exact hi, fun i H e hi => by rw [hl] at hi; exact Nat.le_of_eq hi, fun i H v H' F d e1 e2 hd y => ?_⟩
  obtain ⟨rfl, rfl⟩ := y
  have hi : i < n := by rw [← hl]; exact (List.getElem?_eq_some_iff.mp hd).1
  have : d = .int (lo + (i : Nat) * c) := by
    unfold stepD at hd
    rw [List.getElem?_map, List.getElem?_range hi] at hd
    cases hd
    rfl
  subst this
  exact ⟨F, .refl e2, .int _⟩
instance (i j c : Int) (n : Nat) : Decidable (RgC i j c n) := by unfold RgC; infer_instance
def rng3 : List PyData → Option (List PyData)
  | [.int i, .int j, .int c] => if RgC i j c (Builtin.Range.rangeSize i j c).toNat then some (stepD i c (Builtin.Range.rangeSize i j c).toNat) else none
  | _ => none
theorem di_range3 {p : Pos} (hg : Gl X "range") (hm : X.mg "range" = none) (ha : DA X F0 H0 W [a, b, c] fs) (hs : starEach [a, b, c] X.env = (false, eval a X.env) :: starEach [b, c] X.env := by rfl) (hpl : (backTo pos (starEach [b, c] X.env)).any (·.1) = false := by rfl) :
    DI X F0 H0 W tg (.Call (.Name "range" p) [a, b, c] [] pos) (dRng rng3 fs) := by
  refine PI.imp (pi_range3 hg hm ha hs hpl) fun σ H R ⟨ρ, F, sr, q⟩ => ⟨ρ, F, sr, ?_⟩
  unfold dRng at q
  cases e : fs ρ with
  | ok ds =>
    simp only [e, bind_ok] at q
    intro v H1 F1 g1 r1
    cases r1 with
    | nil => exact q.elim
    | cons h1 r2 =>
      cases r2 with
      | nil => cases h1 <;> exact q.elim
      | cons h2 r3 =>
        cases r3 with
        | nil => cases h1 <;> cases h2 <;> exact q.elim
        | cons h3 r4 =>
          cases r4 with
          | cons _ _ => cases h1 <;> cases h2 <;> cases h3 <;> exact q.elim
          | nil =>
            cases h1 with
            | int i =>
              cases h2 with
              | int j =>
                cases h3 with
                | int c =>
                  have q' := q
                  simp only [rng3] at q'
                  by_cases hz : RgC i j c (Builtin.Range.rangeSize i j c).toNat
                  · rw [if_pos hz] at q'
                    exact ⟨i, j, c, _, rfl, hz, q' _ H1 F1 g1 itok_c⟩
                  · rw [if_neg hz] at q'
                    exact q'.elim
                | _ => exact q.elim
              | _ => cases h3 <;> exact q.elim
            | _ => cases h2 <;> cases h3 <;> exact q.elim
  | exc x => simp only [e, bind_exc] at q; exact q
  | bad => simp only [e, bind_bad] at q
/-! ### methods of lists that change nothing -/
def dML (g : PyData → List PyData → Option PyData) (f : Sls → Res PyData) (fs : Sls → Res (List PyData)) (ρ : Sls) : Res PyData := f ρ >>= fun x => match x with
  | .list z => fs ρ >>= fun xs => ofO (g (.list z) xs)
  | _ => .bad
theorem de_lm {o : Expr} {es : List Expr} {name : Str} {apos cpos : Pos} {id : String} {g : PyData → List PyData → Option PyData} (slot : Slot "list" name id) (hty : typeOf (.builtin id) = pure (.type "method_descriptor")) (hm : MtR X id (rM X.K g)) (ho : DE X F0 H0 W o f) (ha : DA X F0 H0 W (e :: es) fs)
    (hbase : attributeBase o name X.env (eval o X.env) = eval o X.env := by rfl)
    (hfew : ((backTo cpos (starEach (e :: es) X.env)).all (fun x => !x.1) && (backToKw cpos (keywordEach [] X.env)).all (fun x => x.1.isSome)
      && decide ((e :: es).length + ([] : List Keyword).length + (if ([] : List Keyword).isEmpty then 0 else 1) < 30)) = true := by rfl)
    (hline : (apos.endLine == cpos.line) = true := by rfl) (hs : starEach (e :: es) X.env = (false, eval e X.env) :: starEach es X.env := by rfl) (hplain : (backTo cpos (starEach es X.env)).any (·.1) = false := by rfl) :
    DE X F0 H0 W (.Call (.Attribute o name apos) (e :: es) [] cpos) (dML g f fs) := by
  refine PE.imp (pe_bm PySem.F.plainAttrs_list slot hty hm ho ha hbase hfew hline hs hplain) fun σ H Q ⟨ρ, F, sr, q⟩ => ?_
  obtain ⟨ρ1, F1, sr1, q1⟩ := rd_step (R := Den X.K) sr q
  refine ⟨ρ1, F1, sr1, q1.imp fun v H1 F2 a g1 r1 k => ?_⟩
  obtain ⟨a', F3, g3, r3, sr3, q3⟩ := k v H1 F2 (.refl g1.fh) r1
  cases r3 with
  | @lst p xs ds hl hd =>
    refine ⟨.inl ⟨rfl, xs, sr3.ex.sl hl⟩, ?_⟩
    obtain ⟨ρ4, F4, sr4, q4⟩ := rd_step (R := Dens X.K) sr3 q3
    refine ⟨ρ4, F4, sr4, q4.imp fun u H5 F5 b g5 r5 k5 => ?_⟩
    obtain ⟨b', F6, g6, r6, sr6, q6⟩ := k5 u H5 F5 (.refl g5.fh) r5
    exact ⟨.list ds, b', F6, sr6.ex, (Den.lst hl hd).mono g6.ff, r6, q6.rop⟩
  | _ => exact q3.elim
def indexD (a : PyData) (as : List PyData) : Option PyData := match a, as with
  | .list ds, [d] => if (noDics ds && noDic d && SeqAt.shaped (.list ds) && SeqAt.shaped d) = true then (ds.findIdx? fun z => PyData.eqv z d).map fun j => .int (j : Nat) else none
  | _, _ => none
theorem mt_indexL (hu : X.A.units + 65 < cLine) : MtR X "list.index" (rM X.K indexD) := by
  intro pins s σ H x xs v us Q I rx rs h
  obtain ⟨a, as, F, ex, da, das, q⟩ := h
  cases da with
  | @lst p ys ds hl hd =>
    cases das with
    | nil => exact q.elim
    | cons d1 d2 =>
      cases d2 with
      | cons _ _ => exact q.elim
      | @nil =>
        rename_i y d
        have q' : Rop X.K (if (noDics ds && noDic d && SeqAt.shaped (.list ds) && SeqAt.shaped d) = true then (ds.findIdx? fun z => PyData.eqv z d).map fun j => .int (j : Nat) else none) H F Q := q
        by_cases hz : (noDics ds && noDic d && SeqAt.shaped (.list ds) && SeqAt.shaped d) = true
        · rw [if_pos hz] at q'
          simp only [Bool.and_eq_true] at hz
          cases e : ds.findIdx? fun z => PyData.eqv z d with
          | none => rw [e] at q'; exact q'.elim
          | some j =>
            rw [e] at q'
            obtain ⟨hj, h1, h2⟩ := List.findIdx?_eq_some_iff_getElem.mp e
            refine mt_indexD hu pins s σ H _ _ v us Q I rx rs ⟨p, y, d, ds, j, ds[j], rfl, rfl, ((Den.lst hl hd).mono ex).dp (by simpa [noDic] using hz.1.1.1), (d1.mono ex).dp hz.1.1.2, hz.1.2, hz.2, List.getElem?_eq_getElem hj, h1, fun m z' hm hz' => ?_, q'.val ex (.int _)⟩
            have hm2 : m < ds.length := by omega
            rw [List.getElem?_eq_getElem hm2] at hz'
            cases hz'
            simpa using h2 m hm
        · rw [if_neg hz] at q'
          exact q'.elim
  | _ => exact q.elim
theorem units65 {k : Nat} {A : Around} (r : Room k A) : A.units + 65 < cLine := by have := r.un; omega
end
end DL

/-! DL11: sorted(list, key=a def of the program) over flat items. -/
namespace DL
open PySem PySem.Spec PyProof.Rows L2
open PySem.W (keyH_end KeepsBut copyHeap copyHeap_at copyHeap_old sortingHeap sortingHeap_old sorted_of_sort KeyedOut keyedOut_each EachIs AllAlike Sortable SortsAt dataLe dataKind alike hideAll hideAll_get hideAll_none of_hideAll)

mutual
inductive KR (h : Heap) (fs : List Addr) : Value → PyData → Prop where
  | non : KR h fs .none .none
  | bl (b : Bool) : KR h fs (.bool b) (.bool b)
  | int (i : Int) (t : Tok) : KR h fs (.int i t) (.int i)
  | str (x : Str) (t : Tok) : KR h fs (.str x t) (.str x)
  | tup {a : Addr} {o : Obj} {vs : Array Value} {n : Nat} {xs : List PyData} : h.get? a = some o → o.cls = .type "tuple" → o.data = .seq vs n → a ∉ fs → KRs h fs vs.toList xs → KR h fs (.ref a) (.tuple xs)
inductive KRs (h : Heap) (fs : List Addr) : List Value → List PyData → Prop where
  | nil : KRs h fs [] []
  | cons {v : Value} {vs : List Value} {d : PyData} {ds : List PyData} : KR h fs v d → KRs h fs vs ds → KRs h fs (v :: vs) (d :: ds)
end
section
variable {h h' : Heap} {fs : List Addr}
mutual
theorem KR.mono (k : ∀ b o, b ∉ fs → h.get? b = some o → h'.get? b = some o) : ∀ {v : Value} {d : PyData}, KR h fs v d → KR h' fs v d
  | _, _, .non => .non
  | _, _, .bl b => .bl b
  | _, _, .int i t => .int i t
  | _, _, .str x t => .str x t
  | _, _, .tup e c d n q => .tup (k _ _ n e) c d n (KRs.mono k q)
theorem KRs.mono (k : ∀ b o, b ∉ fs → h.get? b = some o → h'.get? b = some o) : ∀ {v : List Value} {d : List PyData}, KRs h fs v d → KRs h' fs v d
  | _, _, .nil => .nil
  | _, _, .cons q r => .cons (KR.mono k q) (KRs.mono k r)
end
mutual
theorem KR.reads : ∀ {v : Value} {d : PyData}, KR h fs v d → Reads h v d []
  | _, _, .non => .none
  | _, _, .bl b => .bool b
  | _, _, .int i t => .int i t
  | _, _, .str x t => .str x t
  | _, _, .tup e c d n q => .tuple e c d (KRs.reads q)
theorem KRs.reads : ∀ {v : List Value} {d : List PyData}, KRs h fs v d → ReadsAll h v d []
  | _, _, .nil => .nil
  | _, _, .cons q r => ReadsAll.cons (as := []) (bs := []) (KR.reads q) (KRs.reads r)
end
end
mutual
def tupOnly : PyData → Bool
  | .none => true
  | .bool _ => true
  | .int _ => true
  | .str _ => true
  | .tuple xs => tupOnlys xs
  | .list _ => false
  | .dict _ => false
def tupOnlys : List PyData → Bool
  | [] => true
  | x :: xs => tupOnly x && tupOnlys xs
end
section
variable {P : Program} {w : World} {K : PySem.W.Frag} {H F : Hp} {h : Heap} {fs : List Addr}
mutual
theorem kr_of (hok : HOk P w H h) (kin : K.In h) (ex : Ex F H) (nf : ∀ b ∈ fs, H b = none) (nk : ∀ b ∈ fs, K.lookup b = none) : ∀ {v : V} {d : PyData} {u : Value}, Den K F v d → tupOnly d = true → RelV v u → KR h fs u d
  | _, _, u, .non, _, r => by cases r; exact .non
  | _, _, u, .bl b, _, r => by cases r; exact .bl b
  | _, _, u, .int i, _, r => by obtain ⟨t, rfl⟩ := r; exact .int i t
  | _, _, u, .str x, _, r => by obtain ⟨t, rfl⟩ := r; exact .str x t
  | _, _, u, .lst _ _, t, _ => by simp [tupOnly] at t
  | _, _, u, .dic _ _, t, _ => by simp [tupOnly] at t
  | _, _, u, @Den.tup _ _ a xs ds s q, t, r => by
    have e : u = .ref a := r
    subst e
    have t' : tupOnlys ds = true := by simpa [tupOnly] using t
    rcases s with (s | ⟨o, s⟩) | ⟨o, its, n, hk, hc, hs, hz, rr⟩
    · obtain ⟨_, its, rv, ob, e, c, n, dd⟩ := hok a _ (ex a _ s)
      exact .tup e c dd (fun z => by have := ex a _ s; rw [nf a z] at this; cases this) (krs_of hok kin ex nf nk q t' (by simpa using rv))
    · obtain ⟨e0, _, its, rv, ob, e, c, n, dd⟩ := hok a _ (ex a _ s)
      exact .tup e c dd (fun z => by have := ex a _ s; rw [nf a z] at this; cases this) (krs_of hok kin ex nf nk q t' (by simpa using rv))
    · exact .tup (kin a o hk) hc hs (fun z => by rw [nk a z] at hk; cases hk) (krs_of hok kin ex nf nk q t' rr)
theorem krs_of (hok : HOk P w H h) (kin : K.In h) (ex : Ex F H) (nf : ∀ b ∈ fs, H b = none) (nk : ∀ b ∈ fs, K.lookup b = none) : ∀ {v : List V} {d : List PyData} {u : List Value}, Dens K F v d → tupOnlys d = true → Vals v u → KRs h fs u d
  | _, _, u, .nil, _, r => by cases r; exact .nil
  | _, _, u, .cons a b, t, r => by
    cases r with
    | cons r1 r2 =>
      simp only [tupOnlys, Bool.and_eq_true] at t
      exact .cons (kr_of hok kin ex nf nk a t.1 r1) (krs_of hok kin ex nf nk b t.2 r2)
end
end
abbrev H00 : Hp := fun _ => none
section
variable {P : Program} {w : World} {K : PySem.W.Frag} {mg : Str → Option Value} {base : Heap} {j : Nat} {f : Addr} {fd : FuncData} {x : Str} {Fn : List PyData → Res PyData} {A : Around} {outer : List PySem.Env} {s : Shared}
/-- a further state: what stood stands, the callers' frames up to slots -/
structure Stay (outer : List PySem.Env) (ex : List Addr) (s s' : Shared) : Prop where
  os : s'.os = s.os
  bare : AllBare s'.gens
  keep : ∀ b o, b ∉ frs outer → b ∉ ex → s.heap.get? b = some o → s'.heap.get? b = some o
  slot : ∀ b o, b ∉ ex → s.heap.get? b = some o → ∃ sl, s'.heap.get? b = some { o with slots := sl }
theorem Stay.refl {ex : List Addr} (hb : AllBare s.gens) : Stay outer ex s s := ⟨rfl, hb, fun _ _ _ _ e => e, fun b o _ e => ⟨o.slots, e⟩⟩
theorem Stay.trans {ex : List Addr} {s1 s2 s3 : Shared} (a : Stay outer ex s1 s2) (b : Stay outer ex s2 s3) : Stay outer ex s1 s3 :=
  ⟨b.os.trans a.os, b.bare, fun c o h1 h2 e => b.keep c o h1 h2 (a.keep c o h1 h2 e), fun c o h e => by
    obtain ⟨sl, e1⟩ := a.slot c o h e
    obtain ⟨sl2, e2⟩ := b.slot c _ h e1
    exact ⟨sl2, e2⟩⟩
theorem Stay.more {ex ex' : List Addr} {s1 s2 : Shared} (a : Stay outer ex s1 s2) (h : ∀ b ∈ ex, b ∈ ex') : Stay outer ex' s1 s2 :=
  ⟨a.os, a.bare, fun c o h1 h2 e => a.keep c o h1 (fun z => h2 (h c z)) e, fun c o h1 e => a.slot c o (fun z => h1 (h c z)) e⟩
theorem Env0.stay {ex : List Addr} {s' : Shared} (E0 : Env0 P w K mg base A outer s H00) (st : Stay outer ex s s') (hx : ∀ b ∈ ex, base.get? b = none ∧ b ∉ frs outer) (hz : ∃ z o, base.objs.size ≤ z ∧ z ∉ ex ∧ s.heap.get? z = some o) : Env0 P w K mg base A outer s' H00 := by
  have nb : ∀ b o, base.get? b = some o → b ∉ frs outer := fun b o e z => by
    have := (E0.funs.mem z).1
    rw [e] at this; cases this
  refine ⟨E0.frames, E0.mod, fun b o e => ⟨st.keep b o (nb b o e) (fun z => by rw [(hx b z).1] at e; cases e) (E0.bs b o e).1, rfl⟩, ?_, ?_, fun _ _ => rfl, fun _ _ e => (by cases e), st.bare⟩
  · obtain ⟨z, o, h1, h2, h3⟩ := hz
    obtain ⟨sl, e⟩ := st.slot z o h2 h3
    exact Nat.le_trans h1 (Nat.le_of_lt (Heap.lt_size e))
  · have go : ∀ l : List PySem.Env, (∀ b ∈ frs l, b ∈ frs outer) → s.heap.FunFrames base l → s'.heap.FunFrames base l := by
      intro l
      induction l with
      | nil => intro _ _; trivial
      | cons env r ih =>
        intro hs hl
        obtain ⟨hk, ⟨L, o, hf, hn, ho, hd⟩, hr⟩ := hl
        have hL : L ∈ frs outer := hs L (by unfold frs; rw [List.filterMap_cons, hf]; exact List.mem_cons_self)
        obtain ⟨sl, e⟩ := st.slot L o (fun z => (hx L z).2 hL) ho
        exact ⟨hk, ⟨L, _, hf, hn, e, hd⟩, ih (fun b hb => hs b (by unfold frs; rw [List.filterMap_cons, hf]; exact List.mem_cons_of_mem _ hb)) hr⟩
    exact go outer (fun _ h => h) E0.funs
theorem key_call (G : FnD P w K mg base j f fd [x] Fn) (hr : Room j A) (E0 : Env0 P w K mg base A outer s H00) (kin : K.In base) (hb : Binds K fd [x] []) {d k : PyData} {v : V} {u : Value} (dv : Den K H00 v d) (hk : Fn [d] = .ok k) (tk : tupOnly k = true) (r : RelV v u) (fs : List Addr)
    (hfs : ∀ b ∈ fs, (∃ o, s.heap.get? b = some o) ∧ base.get? b = none) (hz : ∃ z o, base.objs.size ≤ z ∧ s.heap.get? z = some o) : wpAny (model P w) A (call (.ref f) [u]) (fun y s' => Stay outer [] s s' ∧ KR s'.heap fs y k) (fun _ _ => False) s := by
  have kin' : K.In s.heap := fun a o e => (E0.bs a o (kin a o e)).1
  have bt := hb s [u] kin' rfl
  rw [List.append_nil] at bt
  refine wpAny_call (codeAny_mono (G.run A outer s H00 ⟨[u], []⟩ [u] [v] (fun v' H' => ∃ F', Ex F' H' ∧ Den K F' v' k) (fun _ _ _ => False) hr E0 bt (.cons r .nil) ?_) fun r s' hq => ?_)
  · refine ⟨[d], H00, rfl, .refl _, .cons dv .nil, ?_⟩
    rw [hk]
    exact fun v' H' F' g q => ⟨F', g.fh, q⟩
  · cases r with
    | error e => exact cx_false hq
    | ok fl =>
      cases fl with
      | ret u' =>
        obtain ⟨v', H', os, bare, un, hok, r', F', ex, dn⟩ := hq
        have st : Stay outer [] s s' := ⟨os, bare, fun b o h1 _ e => un.keep b o e rfl h1 (by simp), fun b o _ e => by
          by_cases z : b ∈ frs outer
          · exact un.slot b o e rfl z (by simp)
          · exact ⟨o.slots, un.keep b o e rfl z (by simp)⟩⟩
        have E1 := Env0.stay E0 st (fun b z => by cases z) (by obtain ⟨z, o, h1, h2⟩ := hz; exact ⟨z, o, h1, by simp, h2⟩)
        refine ⟨st, kr_of hok (fun a o e => (E1.bs a o (kin a o e)).1) ex (fun b z => ?_) (fun b z => ?_) dn tk r'⟩
        · obtain ⟨⟨o, e⟩, _⟩ := hfs b z
          exact un.free b o e rfl (by simp)
        · cases q : K.lookup b with
          | none => rfl
          | some o => have := kin b o q; rw [(hfs b z).2] at this; cases this
      | next => exact False.elim hq
      | brk => exact False.elim hq
      | cont => exact False.elim hq
theorem each_push {α β : Type} {R : α → β → Prop} {a : α} {b : β} (h : R a b) : ∀ {as : List α} {bs : List β}, EachIs R as bs → EachIs R (as ++ [a]) (bs ++ [b])
  | _, _, .nil => .cons h .nil
  | _, _, .cons q r => .cons q (each_push h r)
/-- the keys, one by one, then the sort -/
theorem sort_keys (G : FnD P w K mg base j f fd [x] Fn) (hr : Room j A) (E0 : Env0 P w K mg base A outer s H00) (kin : K.In base) (hb : Binds K fd [x] []) {key : PyData → PyData} {xs : List V} {vs : List Value} {ds : List PyData} {a kS : Addr} {e1 : Nat}
    (dx : Dens K H00 xs ds) (rx : Vals xs vs) (hk : ∀ d ∈ ds, Fn [d] = .ok (key d)) (tk : ∀ d ∈ ds, tupOnly (key d) = true) (hal : AllAlike (ds.map key)) (hsk : Sortable (ds.map key)) (hu : ∀ d ∈ ds, A.units + (key d).depth < cLine) (hZ : vs.length ≤ sizeLine)
    (nk : s.heap.get? kS = some (seqObj "list" #[] 0)) (na : s.heap.get? a = some (seqObj "list" #[] e1)) (hka : kS ≠ a) (bk : base.objs.size ≤ kS) (ba : base.objs.size ≤ a) (fk : kS ∉ frs outer) (fa : a ∉ frs outer) {E : Value → Shared → Prop} {Q : PySem.Fin → Shared → Prop}
    (fin : ∀ (s1 : Shared) h' t out c, Stay outer [kS] s s1 → KeepsBut a (hideAll s1.heap [kS]) h' → h'.get? a = some (seqObj "list" (List.toArray out) c) → KeyedOut false (ds.map key) vs out → Q (.done (.ret .none)) { s1 with heap := h', toks := t }) :
    wpAny (model P w) A (PyProof.Rows.ksk_rest a (.ref f) false vs.toArray e1 (.ref kS)) Q E s := by
  have lx := rx.length
  have ld := dx.length
  have none_of : ∀ b, base.objs.size ≤ b → base.get? b = none := fun b h => Heap.get?_none_of_le h
  unfold PyProof.Rows.ksk_rest
  refine wpAny_bind (wpAny_rule ?_)
  simp only [List.forIn_toArray]
  refine wpAny_bind (PyProof.Rows.ksk_fold (fun i s' => Stay outer [kS] s s' ∧ ∃ kA e, s'.heap.get? kS = some (seqObj "list" kA e) ∧ EachIs (fun u k => KR s'.heap (kS :: a :: frs outer) u k) kA.toList ((ds.map key).take i)) vs 0 s ⟨.refl E0.bare, #[], 0, nk, by rw [List.take_zero]; exact .nil⟩ ?one ?last)
  case one =>
    rintro i u s' hu' ⟨st, kA, e, nk', eachK⟩
    rw [Nat.zero_add] at eachK ⊢
    have hi : i < vs.length := (List.getElem?_eq_some_iff.mp hu').1
    have hid : i < ds.length := by omega
    have hix : i < xs.length := by omega
    have hd : ds[i]? = some ds[i] := List.getElem?_eq_getElem hid
    obtain ⟨v, hv, dv⟩ := dx.get hd
    obtain ⟨u2, hu2, ru⟩ := rx.get hv
    rw [hu'] at hu2
    cases hu2
    have E1 := Env0.stay E0 st (fun b z => by rw [List.mem_singleton.mp z]; exact ⟨none_of _ bk, fk⟩) ⟨a, _, ba, by simp [Ne.symm hka], na⟩
    have na' := st.keep a _ fa (by simp [Ne.symm hka]) na
    refine wpAny_bind (wpAny_attempt (wpAny_mono (key_call G hr E1 kin hb dv (hk _ (List.getElem_mem hid)) (tk _ (List.getElem_mem hid)) ru (kS :: a :: frs outer) (fun b z => ?_) ⟨a, _, ba, na'⟩) (fun y s2 hy => ?_) fun _ _ z => z.elim))
    · rcases List.mem_cons.mp z with z | z
      · rw [z]; exact ⟨⟨_, nk'⟩, none_of _ bk⟩
      · rcases List.mem_cons.mp z with z | z
        · rw [z]; exact ⟨⟨_, na'⟩, none_of _ ba⟩
        · obtain ⟨h1, o, h2, _⟩ := E1.funs.mem z
          exact ⟨⟨o, h2⟩, h1⟩
    · obtain ⟨st2, ky⟩ := hy
      have nk2 := st2.keep kS _ fk (by simp) nk'
      have lk := eachK.length
      rw [Array.length_toList, List.length_take, List.length_map] at lk
      have sz : kA.size ≤ sizeLine := by omega
      have upd1 := Heap.SameBut.update s2.heap kS (Obj.mapSeq fun (zs : Array Value) => zs.push y)
      obtain ⟨c2, hc2⟩ : ∃ c2, (s2.heap.update kS (Obj.mapSeq fun (zs : Array Value) => zs.push y)).get? kS = some (seqObj "list" (kA.push y) c2) := ⟨_, PyProof.Rows.get?_update_seq nk2 fun (zs : Array Value) => zs.push y⟩
      refine wpAny_bind (PyProof.Rows.listUpdate_at nk2 rfl ?_ sz (by show (kA.push y).size ≤ _; rw [Array.size_push]; omega))
      refine wpAny_pure ⟨rfl, ?_, kA.push y, c2, hc2, ?_⟩
      · refine st.trans (Stay.trans (st2.more fun b z => by cases z) ⟨rfl, st2.bare, fun b o _ hb2 e => ?_, fun b o hb2 e => ⟨o.slots, ?_⟩⟩)
        · exact (upd1.2 b (by simpa using hb2)).trans e
        · exact (upd1.2 b (by simpa using hb2)).trans e
      · have ek : (ds.map key).take (i + 1) = (ds.map key).take i ++ [key ds[i]] := by
          rw [List.take_add_one, List.getElem?_map, hd]; rfl
        have ea : (kA.push y).toList = kA.toList ++ [y] := by simp
        rw [ek, ea]
        have mv : ∀ {u : Value} {k : PyData}, KR s2.heap (kS :: a :: frs outer) u k → KR (s2.heap.update kS (Obj.mapSeq fun (zs : Array Value) => zs.push y)) (kS :: a :: frs outer) u k := fun {u k} q => q.mono fun b o hb2 e => (upd1.2 b (fun z => hb2 (by rw [z]; exact List.mem_cons_self))).trans e
        refine each_push (mv ky) (eachK.mono fun u k q => mv (q.mono fun b o hb2 e => st2.keep b o (fun z => hb2 (List.mem_cons_of_mem _ (List.mem_cons_of_mem _ z))) (by simp) e))
  case last =>
    rintro s1 ⟨st, kA, e, nk1, eachK⟩
    rw [Nat.zero_add, List.take_of_length_le (by rw [List.length_map]; omega)] at eachK
    have lk := eachK.length
    rw [Array.length_toList, List.length_map] at lk
    have na1 := st.keep a _ fa (by simp [Ne.symm hka]) na
    refine wpAny_bind (PyProof.Rows.listItems_at nk1 rfl ?_)
    have eachR : EachIs (fun u k => ∃ as, Reads s1.heap u k as) kA.toList (ds.map key) := eachK.mono fun u k q => ⟨[], q.reads⟩
    refine keyH_end (κ := dataKind s1.heap (ds.map key)) (h₁ := hideAll s1.heap [kS]) (fun b o _ e => of_hideAll _ e) (hideAll_none _ (by simp)) nk1 na1 hka (SortsAt.data (s := s1) eachR hal hsk (fun d hd => ?_)) (by omega) hZ fun h3 t3 c k3 n3 => fin s1 h3 t3 _ c st k3 n3 ⟨s1.heap, kA.toList, hal, rfl, eachR⟩
    obtain ⟨d0, h0, rfl⟩ := List.mem_map.mp hd
    exact hu d0 h0
theorem Dens.toFlat {K : PySem.W.Frag} {F : Hp} : ∀ {vs : List V} {ds : List PyData}, Dens K F vs ds → (∀ d ∈ ds, flatD d = true) → ∀ F2 : Hp, Dens K F2 vs ds
  | _, _, .nil, _, _ => .nil
  | _, _, .cons a b, h, F2 => .cons (a.toFlat (h _ List.mem_cons_self) F2) (Dens.toFlat b (fun d hd => h d (List.mem_cons_of_mem _ hd)) F2)
theorem each_zip : ∀ {xs : List V} {vs : List Value} {ds : List PyData}, Vals xs vs → xs.length = ds.length → EachIs (fun (u : Value) (p : V × PyData) => RelV p.1 u) vs (xs.zip ds)
  | _, _, [], .nil, _ => .nil
  | _, _, [], .cons _ _, h => by simp at h
  | _, _, _ :: _, .nil, h => by simp at h
  | _, _, d :: ds, .cons r q, h => .cons r (each_zip q (by simpa using h))
theorem vals_each : ∀ {us : List Value} {ps : List (V × PyData)}, EachIs (fun (u : Value) (p : V × PyData) => RelV p.1 u) us ps → Vals (ps.map (·.1)) us
  | _, _, .nil => .nil
  | _, _, .cons r q => .cons r (vals_each q)
theorem dens_pairs {K : PySem.W.Frag} {F : Hp} : ∀ {ps : List (V × PyData)}, (∀ p ∈ ps, Den K F p.1 p.2) → Dens K F (ps.map (·.1)) (ps.map (·.2))
  | [], _ => .nil
  | p :: ps, h => .cons (h p List.mem_cons_self) (dens_pairs fun q hq => h q (List.mem_cons_of_mem _ hq))
theorem pairs_dens {K : PySem.W.Frag} {F : Hp} : ∀ {vs : List V} {ds : List PyData}, Dens K F vs ds → ∀ p ∈ vs.zip ds, Den K F p.1 p.2
  | _, _, .nil, p, h => by simp at h
  | _, _, .cons a b, p, h => by
    rw [List.zip_cons_cons] at h
    rcases List.mem_cons.mp h with rfl | h
    · exact a
    · exact pairs_dens b p h
/-- sorted by keys, as data -/
noncomputable def byKey (key : PyData → PyData) (ds : List PyData) : List PyData := ds.mergeSort (dataLe false key)
def keyR (Fn : FnT) (d : PyData) : PyData := match Fn [d] with
  | .ok k => k
  | _ => .none
def isOkR (Fn : FnT) (d : PyData) : Bool := match Fn [d] with
  | .ok _ => true
  | _ => false
def tup1 : PyData → Bool
  | .tuple (_ :: _) => true
  | _ => false
def keysOk (ks : List PyData) : Bool := ks.all (fun k => tupOnly k && (tup1 k && decide (k.depth ≤ 100))) && ks.all fun k => ks.all fun k' => alike k k'
noncomputable def sortK (Fn : FnT) (ds : List PyData) : Res (List PyData) := if (ds.all flatD && ds.all (isOkR Fn) && keysOk (ds.map (keyR Fn)) && decide (ds.length ≤ 16777216)) = true then .ok (byKey (keyR Fn) ds) else .bad
end
section
variable {X : Cx} {pins : List (Addr × Obj)} {σ : L2.St} {H F : Hp} {s : Shared}
theorem sorted_by {j : Nat} {f : Addr} {fd : FuncData} {x : Str} {Fn : FnT} (G : FnD X.prog X.w X.K X.mg X.base j f fd [x] Fn) (hr : Room (j + 1) X.A) (hb : Binds X.K fd [x] []) (I : Inv X pins σ H s) (ex : Ex F H) {l : Addr} {xs : List V} {ds es : List PyData}
    (hl : SqL X.K H l xs) (dn : Dens X.K F xs ds) (hs : sortK Fn ds = .ok es) {Q : VK} (hQ : ∀ p ys, H p = none → Dens X.K F ys es → Q (.ref p) (upd H p (.lst ys))) :
    wpAny (model X.prog X.w) X.A (call (.builtin "sorted") [.ref l] [(Str.ofString "key", .ref f)]) (EP X pins σ Q) X.xe s := by
  unfold sortK at hs
  by_cases hz : (ds.all flatD && ds.all (isOkR Fn) && keysOk (ds.map (keyR Fn)) && decide (ds.length ≤ 16777216)) = true
  · rw [if_pos hz] at hs
    simp only [Bool.and_eq_true, keysOk, List.all_eq_true, decide_eq_true_eq, List.mem_map, forall_exists_index, and_imp, forall_apply_eq_imp_iff₂] at hz
    obtain ⟨⟨⟨z1, z2⟩, z3, z4⟩, z5⟩ := hz
    cases hs
    obtain ⟨vs, rx, pl, hlen⟩ := I.list hl
    have lx := rx.length
    have ld := dn.length
    have hlv : vs.length ≤ sizeLine := by omega
    have dH : Dens X.K H00 xs ds := dn.toFlat z1 H00
    have hkk : ∀ d ∈ ds, Fn [d] = .ok (keyR Fn d) := fun d hd => by
      have := z2 d hd
      unfold isOkR at this
      unfold keyR
      cases e : Fn [d] with
      | ok k => rfl
      | exc x => rw [e] at this; cases this
      | bad => rw [e] at this; cases this
    refine sorted_of_sort pl.isList hlv (PyProof.Rows.ksk_s1 _ _) (fun _ => PyProof.Rows.ksk_l1 _ _) fun E' => ?_
    rw [PyProof.Rows.ksk_t1]
    have atD := copyHeap_at s.heap vs
    have ltD := Heap.lt_size atD
    obtain ⟨e1, emp⟩ : ∃ e1, ((copyHeap s.heap vs).update (s.heap.objs.size + 1) (Obj.mapSeq fun _ => (#[] : Array Value))).get? (s.heap.objs.size + 1) = some (seqObj "list" #[] e1) := ⟨_, PyProof.Rows.get?_update_seq atD fun _ => #[]⟩
    have szK : (((copyHeap s.heap vs).update (s.heap.objs.size + 1) (Obj.mapSeq fun _ => (#[] : Array Value))).push (seqObj "tuple" vs.toArray 0)).objs.size = (copyHeap s.heap vs).objs.size + 1 := by rw [PyProof.Rows.size_push', Heap.size_update]
    unfold PyProof.Rows.ksk_tree
    refine wpAny_bind (PyProof.Rows.listItems_at atD rfl (wpAny_bind (PyProof.Rows.listUpdate_at atD rfl (wpAny_bind (PyProof.Rows.seqEpoch_at emp rfl (wpAny_bind (wpAny_newTuple (wpAny_bind (wpAny_newList (wpAny_holding ?_) (Nat.zero_le _))) (by show vs.length ≤ _; exact hlv))))) (by rw [List.size_toArray]; exact hlv) (Nat.zero_le _))))
    have e00 : Env0 X.prog X.w X.K X.mg X.base X.A X.stack s H00 := ⟨I.env0.frames, I.env0.mod, fun b o h => ⟨(I.env0.bs b o h).1, rfl⟩, I.env0.bsz, I.env0.funs, fun _ _ => rfl, fun _ _ e => (by cases e), I.env0.bare⟩
    have old : ∀ b o, s.heap.get? b = some o → (sortingHeap (copyHeap s.heap vs) (s.heap.objs.size + 1) vs).get? b = some o := fun b o e => sortingHeap_old (Nat.ne_of_lt (Nat.lt_succ_of_lt (Heap.lt_size e))) (copyHeap_old e)
    have st0 : Stay X.stack [] s { s with heap := sortingHeap (copyHeap s.heap vs) (s.heap.objs.size + 1) vs } := ⟨rfl, I.bare, fun b o _ _ e => old b o e, fun b o _ e => ⟨o.slots, old b o e⟩⟩
    obtain ⟨m, ⟨ol, es, ep, hol, _⟩, _⟩ := id I.loc
    have hbase : X.base.objs.size ≤ s.heap.objs.size := Nat.le_trans I.ok.bsz I.sz
    have E1 := (Env0.stay e00 st0 (fun b z => by cases z) ⟨X.env.locals, ol, Nat.le_trans I.ok.bsz I.ok.above, by simp, hol⟩).in1.in1
    have frl : ∀ b, s.heap.objs.size ≤ b → b ∉ frs X.stack := fun b hb2 z => by
      obtain ⟨_, o, h2, _⟩ := I.stack.mem z
      exact absurd (Heap.lt_size h2) (Nat.not_lt.mpr hb2)
    have gK : (sortingHeap (copyHeap s.heap vs) (s.heap.objs.size + 1) vs).get? ((copyHeap s.heap vs).objs.size + 1) = some (seqObj "list" #[] 0) := by
      rw [← szK]; exact Heap.get?_push_size _ rfl
    have gD : (sortingHeap (copyHeap s.heap vs) (s.heap.objs.size + 1) vs).get? (s.heap.objs.size + 1) = some (seqObj "list" #[] e1) := Heap.get?_push_of_some _ (Heap.get?_push_of_some _ emp)
    have hNk : s.heap.objs.size + 1 < (copyHeap s.heap vs).objs.size + 1 := Nat.lt_succ_of_lt ltD
    show wpAny _ _ (PyProof.Rows.ksk_rest _ _ _ _ _ (.ref _)) _ _ { s with heap := sortingHeap (copyHeap s.heap vs) (s.heap.objs.size + 1) vs }
    rw [szK]
    refine sort_keys (A := X.A.in1.in1) (s := { s with heap := sortingHeap (copyHeap s.heap vs) (s.heap.objs.size + 1) vs }) G ⟨hr.hd, by have := hr.dp; show X.A.depth + 3 * j + 5 < _; omega, by have := hr.un; show X.A.units + 1 + 1 + 16 * j + 200 < _; omega⟩ E1 I.ok.mod.kin hb dH rx hkk (fun d hd => (z3 d hd).1) (fun k hk k' hk' => ?_) (.inl fun k hk => ?_) (fun d hd => ?_) hlv gK gD (Nat.ne_of_gt hNk) (Nat.le_trans hbase (Nat.le_of_lt (Nat.lt_of_succ_lt hNk))) (Nat.le_succ_of_le hbase) (frl _ (Nat.le_of_lt (Nat.lt_of_succ_lt hNk))) (frl _ (Nat.le_succ _)) fun s1 h' t out c st kb hD ko => ⟨rfl, ?_⟩
    · obtain ⟨d, hd, rfl⟩ := List.mem_map.mp hk
      obtain ⟨d', hd', rfl⟩ := List.mem_map.mp hk'
      exact z4 d hd d' hd'
    · obtain ⟨d, hd, rfl⟩ := List.mem_map.mp hk
      have := (z3 d hd).2.1
      cases e : keyR Fn d with
      | tuple zs =>
        rw [e] at this
        cases zs with
        | nil => cases this
        | cons y ys => exact ⟨y, ys, rfl⟩
      | _ => rw [e] at this; cases this
    · have := hr.un
      have := (z3 d hd).2.2
      show X.A.units + 1 + 1 + _ < _
      omega
    · have lift : ∀ b o, b ∉ frs X.stack → s.heap.get? b = some o → h'.get? b = some o := fun b o hf e => by
        have hb2 : b < s.heap.objs.size := Heap.lt_size e
        have nK : b ≠ (copyHeap s.heap vs).objs.size + 1 := Nat.ne_of_lt (Nat.lt_trans hb2 (Nat.lt_of_succ_lt hNk))
        have q1 := st.keep b o hf (by simpa using nK) (old b o e)
        exact kb b o (Nat.ne_of_lt (Nat.lt_succ_of_lt hb2)) (hideAll_get _ q1 (by simpa using nK))
      have lifts : ∀ b o, s.heap.get? b = some o → ∃ sl, h'.get? b = some { o with slots := sl } := fun b o e => by
        have hb2 : b < s.heap.objs.size := Heap.lt_size e
        have nK : b ≠ (copyHeap s.heap vs).objs.size + 1 := Nat.ne_of_lt (Nat.lt_trans hb2 (Nat.lt_of_succ_lt hNk))
        obtain ⟨sl, q1⟩ := st.slot b o (by simpa using nK) (old b o e)
        exact ⟨sl, kb b _ (Nat.ne_of_lt (Nat.lt_succ_of_lt hb2)) (hideAll_get _ q1 (by simpa using nK))⟩
      have kz : (xs.zip ds).map (fun p => keyR Fn p.2) = ds.map (keyR Fn) := by
        rw [show (fun p : V × PyData => keyR Fn p.2) = keyR Fn ∘ Prod.snd from rfl, ← List.map_map, List.map_snd_zip (by omega)]
      have eo := keyedOut_each (bs := xs.zip ds) (fun p => keyR Fn p.2) (by rw [kz]; exact ko) (each_zip rx (by omega))
      have hfresh : H (s.heap.objs.size + 1) = none := I.hok.fresh (Nat.le_succ _)
      have vy := vals_each eo
      have dy : Dens X.K F (((xs.zip ds).mergeSort (dataLe false fun p => keyR Fn p.2)).map (·.1)) (byKey (keyR Fn) ds) := by
        have e2 : byKey (keyR Fn) ds = ((xs.zip ds).mergeSort (dataLe false fun p => keyR Fn p.2)).map (·.2) := by
          have e3 := List.map_mergeSort (r := dataLe false fun p : V × PyData => keyR Fn p.2) (s := dataLe false (keyR Fn)) (f := Prod.snd) (l := xs.zip ds) (fun a _ b _ => rfl)
          rw [List.map_snd_zip (by omega)] at e3
          exact e3.symm
        rw [e2]
        exact dens_pairs fun p hp => pairs_dens dn p ((List.mergeSort_perm _ _).mem_iff.mp hp)
      have ly : (((xs.zip ds).mergeSort (dataLe false fun p => keyR Fn p.2)).map (·.1)).length ≤ sizeLine := by
        rw [List.length_map, List.length_mergeSort, List.length_zip]; omega
      have trk : ∀ b u, H b = some u → b < s.heap.objs.size := fun b u e => (I.hok b u e).lt
      have notD : ∀ b u, H b = some u → b ≠ s.heap.objs.size + 1 := fun b u e => Nat.ne_of_lt (Nat.lt_succ_of_lt (trk b u e))
      have notF : ∀ b u, H b = some u → b ∉ frs X.stack := fun b u e z => by rw [I.stkFree b z] at e; cases e
      refine ⟨.ref (s.heap.objs.size + 1), upd H (s.heap.objs.size + 1) (.lst (((xs.zip ds).mergeSort (dataLe false fun p => keyR Fn p.2)).map (·.1))), I.call' (ch := []) (s' := { s1 with heap := h', toks := t }) st.os ⟨fun b o e _ hf _ => lift b o hf e, fun b o e _ _ _ => lifts b o e, fun b o e n _ => ?_, fun b o e _ => ?_, fun b zs e => ?_, fun b o u e => ?_, fun b ps e => ⟨#[], ?_⟩⟩ (fun b u e => ?_) st.bare (fun b z => by cases z), rfl, hQ _ _ hfresh dy⟩
      · rw [upd_ne (Nat.ne_of_lt (Nat.lt_succ_of_lt (Heap.lt_size e)))]; exact n
      · obtain ⟨sl, q⟩ := lifts b o e; exact ⟨_, q⟩
      · rw [upd_ne (notD b _ e)]; exact e
      · rw [upd_ne (notD b _ e)]; exact e
      · rw [upd_ne (notD b _ e)]; simpa using e
      · by_cases hb2 : b = s.heap.objs.size + 1
        · subst hb2
          rw [upd_same] at e
          cases e
          exact ⟨ly, out, c, vy, hD⟩
        · rw [upd_ne hb2] at e
          refine (I.hok b u e).stay (fun c v hc q => lift c v ?_ q) (fun c hc => ?_) fun c zs hc => ?_
          · rcases hc with rfl | hc
            · exact notF _ _ e
            · exact notF _ _ hc
          · rw [upd_ne (notD c _ hc)]; exact hc
          · rw [upd_ne (notD c _ hc)]; exact hc
  · rw [if_neg hz] at hs
    cases hs
end
/-! ### as an expression -/
noncomputable def dSortK (Fn : FnT) (fs : Sls → Res (List PyData)) (ρ : Sls) : Res (List PyData) := fs ρ >>= fun ds => match ds with
  | [.list xs] => sortK Fn xs
  | _ => .bad
section
variable {X : Cx} {F0 H0 : Hp} {W : WX} {pos p p2 kp : Pos} {e : Expr} {fs : Sls → Res (List PyData)} {j k : Nat} {f : Addr} {fd : FuncData} {x y : Str} {Fn : FnT}
def rBy (X : Cx) (f : Addr) (Fn : FnT) : List V → List V → Hp → VK → Prop := fun vs zs H Q => ∃ (l : Addr) (xs : List V) (ds es : List PyData) (F : Hp), vs = [.ref l] ∧ zs = [.ref f] ∧ Ex F H ∧ SqL X.K H l xs ∧ Dens X.K F xs ds ∧ sortK Fn ds = .ok es ∧
  ∀ p ys, H p = none → Dens X.K F ys es → Q (.ref p) (upd H p (.lst ys))
theorem cr_by (G : FnD X.prog X.w X.K X.mg X.base j f fd [x] Fn) (hr : Room (j + 1) X.A) (hb : Binds X.K fd [x] []) : CallRK X (.builtin "sorted") [Str.ofString "key"] (rBy X f Fn) := by
  intro pins s σ H vs zs us ws Q I r rz h
  obtain ⟨l, xs, ds, es, F, rfl, rfl, ex, hl, dn, hs, q⟩ := h
  cases r with
  | cons r1 r2 =>
    cases r2
    cases rz with
    | cons z1 z2 =>
      cases z2
      cases r1
      cases z1
      exact sorted_by G hr hb I ex hl dn hs q
theorem dn_sortK (G : FnD X.prog X.w X.K X.mg X.base j f fd [x] Fn) (c : Cz X W k) (hj : j + 1 ≤ k) (hgf : Gl X y) (hmf : X.mg y = some (.ref f)) (hb : Binds X.K fd [x] []) (hg : Gl X "sorted") (hm : X.mg "sorted" = none) (ha : DA X F0 H0 W [e] fs) (hdb : (y == ("__debug__" : Str)) = false := by decide)
    (he : backTo pos (starEach [e] X.env) = (false, eval e X.env) :: backTo pos (starEach [] X.env) := by rfl) (hpl : (backTo pos (starEach [e] X.env)).any (·.1) = false := by rfl)
    (hall : (backToKw pos (keywordEach [⟨some "key", .Name y p2, kp⟩] X.env)).all (·.1.isSome) = true := by rfl) (hnone : (backToKw pos (keywordEach [⟨some "key", .Name y p2, kp⟩] X.env)).any (·.1.isNone) = false := by rfl)
    (hks : (backToKw pos (keywordEach [⟨some "key", .Name y p2, kp⟩] X.env)).filterMap (·.1) = [Str.ofString "key"] := by rfl) :
    DN X F0 H0 W (.Call (.Name "sorted" p) [e] [⟨some "key", .Name y p2, kp⟩] pos) (dSortK Fn fs) := by
  refine PE.imp (pe_callBK (cr_by G (c.room.mono hj) hb) hg hm PyProof.Rows.boot_sorted ha (pk_cons (pe_glob hgf hmf (v := .ref f) rfl hdb) pk_nil) (by decide) (by decide) he hpl hall hnone hks) fun σ H Q ⟨ρ, F, sr, q⟩ => ?_
  refine ⟨ρ, F, sr, ?_⟩
  unfold dSortK at q
  cases e : fs ρ with
  | exc x => simp only [e, bind_exc] at q; exact q
  | bad => simp only [e, bind_bad] at q
  | ok ds =>
    simp only [e, bind_ok] at q
    intro vs H1 F1 g1 r1
    cases r1 with
    | nil => exact q.elim
    | cons d1 d2 =>
      cases d2 with
      | cons _ _ => cases d1 <;> exact q.elim
      | nil =>
        cases d1 with
        | @lst l xs zs hs hd =>
          cases e2 : sortK Fn zs with
          | exc x => exact absurd e2 (by unfold sortK; split <;> simp)
          | bad => simp only [e2] at q
          | ok es =>
            simp only [e2] at q
            exact ⟨l, xs, zs, es, F1, rfl, rfl, g1.fh, g1.fh.sl hs, hd, e2, fun p ys hp hd2 => q p ys _ F1 (g1.trans (Gr.newO g1.fh hp)) (not_of_none g1.hh hp) upd_same (not_of_none g1.fh hp) hd2⟩
        | _ => exact q.elim
end
/-! ### min and max of a list of alike flat items -/
def flatAlike (xs : List PyData) : Bool := xs.all (fun x => flatD x && !(match x with | .none => true | _ => false)) && xs.all fun x => xs.all fun y => PySem.W.alike x y
def minWL : List PyData → Option PyData
  | [.list (x :: xs)] => if flatAlike (x :: xs) = true then some (PySem.W.minD x xs) else none
  | _ => none
def maxWL : List PyData → Option PyData
  | [.list (x :: xs)] => if flatAlike (x :: xs) = true then some (PySem.W.maxD x xs) else none
  | _ => none
theorem flatAlike_all {xs : List PyData} (h : flatAlike xs = true) : PySem.W.AlikeAll xs ∧ (∀ d ∈ xs, flatD d = true) ∧ PyData.depthAll xs ≤ 1 := by
  simp only [flatAlike, Bool.and_eq_true, List.all_eq_true] at h
  obtain ⟨h1, h2⟩ := h
  refine ⟨⟨h2, fun x hx z => ?_⟩, fun d hd => (h1 d hd).1, ?_⟩
  · subst z; have := (h1 _ hx).2; simp at this
  · have f : ∀ d ∈ xs, flatD d = true := fun d hd => (h1 d hd).1
    clear h1 h2
    induction xs with
    | nil => exact Nat.zero_le _
    | cons x xs ih =>
      have hx := f x List.mem_cons_self
      have ih := ih fun d hd => f d (List.mem_cons_of_mem _ hd)
      have e : x.depth ≤ 1 := by cases x <;> first | (simp [PyData.depth]; done) | cases hx
      simp only [PyData.depthAll]
      omega
theorem reads_flat {K : PySem.W.Frag} {F : Hp} {v : V} {u : Value} {h : Heap} {d e : PyData} {as : List Addr} (dv : Den K F v e) (fl : flatD e = true) (r : RelV v u) (q : Reads h u d as) : Den K F v d := by
  cases dv with
  | non => cases r; cases q; exact .non
  | bl b => cases r; cases q; exact .bl b
  | int i => obtain ⟨t, rfl⟩ := r; cases q; exact .int i
  | str x => obtain ⟨t, rfl⟩ := r; cases q; exact .str x
  | _ => cases fl
theorem noDics_flat : ∀ {xs : List PyData}, (∀ d ∈ xs, flatD d = true) → noDics xs = true
  | [], _ => rfl
  | x :: xs, h => by
    have := h x List.mem_cons_self
    rw [noDics, noDics_flat fun d hd => h d (List.mem_cons_of_mem _ hd)]
    cases x <;> first | rfl | cases this
section
variable {X : Cx}
theorem call_minW (hc : X.calm = true) (hu : X.A.units + 64 < cLine) : CallR X (.builtin "min") (rL X.K minWL) := by
  intro pins s σ H xs us Q I r h
  obtain ⟨as, F, ex, da, q⟩ := h
  cases da with
  | nil => exact q.elim
  | cons d1 d2 =>
    cases d2 with
    | cons _ _ =>
      cases d1 with
      | @lst l ys ds hl hd => cases ds <;> exact q.elim
      | _ => exact q.elim
    | nil =>
      cases d1 with
      | @lst l ys ds hl hd =>
        cases ds with
        | nil => exact q.elim
        | cons x zs =>
          have q' : Rop X.K (if flatAlike (x :: zs) = true then some (PySem.W.minD x zs) else none) H F Q := q
          by_cases hz : flatAlike (x :: zs) = true
          · rw [if_pos hz] at q'
            obtain ⟨h1, h2, h3⟩ := flatAlike_all hz
            obtain ⟨its, rv, p, _⟩ := I.list (ex.sl hl)
            obtain ⟨bs, rr⟩ := Dp.readsAll I _ _ _ ((hd.mono ex).dp (noDics_flat h2)) rv
            rw [Vals.ref1 r]
            refine PySem.W.min_list_data (I.ok.hd hc) p.isList rr h1 (by omega) fun i v h' tk cs hv hr hk => ?_
            obtain ⟨w, hw, rw'⟩ : ∃ w, ys[i]? = some w ∧ RelV w v := by
              have hv' : its[i]? = some v := by simpa using hv
              have hi : i < ys.length := by rw [rv.length]; exact (List.getElem?_eq_some_iff.mp hv').1
              obtain ⟨u, hu2, ru⟩ := rv.get (List.getElem?_eq_getElem hi)
              rw [hv'] at hu2
              cases hu2
              exact ⟨_, List.getElem?_eq_getElem hi, ru⟩
            obtain ⟨e, he, de⟩ := hd.getV hw
            exact ⟨w, H, I.kept hk, rw', q'.val ex (reads_flat de (h2 e (List.mem_of_getElem? he)) rw' hr)⟩
          · rw [if_neg hz] at q'
            exact q'.elim
      | _ => exact q.elim
theorem call_maxW (hc : X.calm = true) (hu : X.A.units + 64 < cLine) : CallR X (.builtin "max") (rL X.K maxWL) := by
  intro pins s σ H xs us Q I r h
  obtain ⟨as, F, ex, da, q⟩ := h
  cases da with
  | nil => exact q.elim
  | cons d1 d2 =>
    cases d2 with
    | cons _ _ =>
      cases d1 with
      | @lst l ys ds hl hd => cases ds <;> exact q.elim
      | _ => exact q.elim
    | nil =>
      cases d1 with
      | @lst l ys ds hl hd =>
        cases ds with
        | nil => exact q.elim
        | cons x zs =>
          have q' : Rop X.K (if flatAlike (x :: zs) = true then some (PySem.W.maxD x zs) else none) H F Q := q
          by_cases hz : flatAlike (x :: zs) = true
          · rw [if_pos hz] at q'
            obtain ⟨h1, h2, h3⟩ := flatAlike_all hz
            obtain ⟨its, rv, p, _⟩ := I.list (ex.sl hl)
            obtain ⟨bs, rr⟩ := Dp.readsAll I _ _ _ ((hd.mono ex).dp (noDics_flat h2)) rv
            rw [Vals.ref1 r]
            refine PySem.W.max_list_data (I.ok.hd hc) p.isList rr h1 (by omega) fun i v h' tk cs hv hr hk => ?_
            obtain ⟨w, hw, rw'⟩ : ∃ w, ys[i]? = some w ∧ RelV w v := by
              have hv' : its[i]? = some v := by simpa using hv
              have hi : i < ys.length := by rw [rv.length]; exact (List.getElem?_eq_some_iff.mp hv').1
              obtain ⟨u, hu2, ru⟩ := rv.get (List.getElem?_eq_getElem hi)
              rw [hv'] at hu2
              cases hu2
              exact ⟨_, List.getElem?_eq_getElem hi, ru⟩
            obtain ⟨e, he, de⟩ := hd.getV hw
            exact ⟨w, H, I.kept hk, rw', q'.val ex (reads_flat de (h2 e (List.mem_of_getElem? he)) rw' hr)⟩
          · rw [if_neg hz] at q'
            exact q'.elim
      | _ => exact q.elim
end
end DL

/-! DL12: sorted(list, key=a def), items tuples, keys that need not be alike; a def that returns a new list; repr. -/
namespace DL
open PySem PySem.Spec PyProof.Rows L2
open PySem.W (keyH_end KeepsBut copyHeap copyHeap_at copyHeap_old sortingHeap sortingHeap_old sorted_of_sort EachIs SortsAt dataLe hideAll hideAll_get hideAll_none of_hideAll)

/-! ### what a value reads as is one thing -/
section
variable {h : Heap} {fs : List Addr}
mutual
theorem KR.one : ∀ {v : Value} {d d' : PyData}, KR h fs v d → KR h fs v d' → d = d'
  | _, _, _, .non, q => by cases q; rfl
  | _, _, _, .bl b, q => by cases q; rfl
  | _, _, _, .int i t, q => by cases q; rfl
  | _, _, _, .str x t, q => by cases q; rfl
  | _, _, _, .tup e c d n r, q => by
    cases q with
    | tup e' c' d' n' r' =>
      rw [e] at e'
      cases e'
      rw [d] at d'
      cases d'
      rw [KRs.one r r']
theorem KRs.one : ∀ {v : List Value} {d d' : List PyData}, KRs h fs v d → KRs h fs v d' → d = d'
  | _, _, _, .nil, q => by cases q; rfl
  | _, _, _, .cons a b, q => by
    cases q with
    | cons a' b' => rw [KR.one a a', KRs.one b b']
end
open Classical in
noncomputable def krKind (h : Heap) (fs : List Addr) (ds : List PyData) : PyProof.Rows.KeyKind where
  toKeyOrd := PyProof.Rows.listOrd PyProof.Rows.itemOrd
  keyOf v := if q : ∃ d, d ∈ ds ∧ KR h fs v d then some (PySem.W.keyToks q.choose) else none
  dflt := ([] : List (Int ⊕ List Nat))
open Classical in
theorem krKind_some {ds : List PyData} {v : Value} {d : PyData} (hd : d ∈ ds) (r : KR h fs v d) : (krKind h fs ds).keyOf v = some (PySem.W.keyToks d) := by
  have q : ∃ d, d ∈ ds ∧ KR h fs v d := ⟨d, hd, r⟩
  show (if q : ∃ d, d ∈ ds ∧ KR h fs v d then some (PySem.W.keyToks q.choose) else none) = _
  rw [dif_pos q, KR.one q.choose_spec.2 r]
open Classical in
theorem krKind_inv {ds : List PyData} {v : Value} {k : List (Int ⊕ List Nat)} (e : (krKind h fs ds).keyOf v = some k) : ∃ d, d ∈ ds ∧ KR h fs v d ∧ k = PySem.W.keyToks d := by
  have e1 : (if q : ∃ d, d ∈ ds ∧ KR h fs v d then some (PySem.W.keyToks q.choose) else none) = some k := e
  by_cases q : ∃ d, d ∈ ds ∧ KR h fs v d
  · rw [dif_pos q] at e1
    exact ⟨_, q.choose_spec.1, q.choose_spec.2, (Option.some.inj e1).symm⟩
  · rw [dif_neg q] at e1
    cases e1
end
theorem lex_run {P : Program} {w : World} {A : Around} {s : Shared} {fin k : Bool} {Q : Bool → Shared → Prop} : ∀ {ps : List (Value × Value)} {i : Nat}, LtRun A s fin ps k → Q k s → PySem.W.KatLex P w A false fin Q ps i s
  | _, i, .nil, q => PySem.W.kat_nil q
  | _, i, .same e r, q => PySem.W.kat_cons (e _ _ _ _ (PySem.W.kat_yes (lex_run r q)))
  | _, i, .diff e r, q => PySem.W.kat_cons (e _ _ _ _ (PySem.W.kat_no (by
      rw [show (false && i == 0) = false from rfl, PyProof.Rows.oneLt'_eq]
      simp only [Bool.false_eq_true, if_false]
      exact wpAny_bind (r _ _ _ _ (wpAny_truthy_bool q)))))
def tup2 : PyData → Bool
  | .tuple (.tuple _ :: _) => true
  | _ => false
def keysOk2 (ks : List PyData) : Bool := ks.all (fun k => tupOnly k && (tup2 k && decide (k.depth ≤ 100))) && ks.all fun k => ks.all fun k' => lessD k k' == some (PySem.W.dataLt k k')
theorem sorts_kr {P : Program} {w : World} {A : Around} {s : Shared} {fs : List Addr} {vs : List Value} {ds : List PyData} (e : EachIs (fun v d => KR s.heap fs v d) vs ds) (h1 : ∀ d ∈ ds, tup2 d = true) (h2 : ∀ d ∈ ds, ∀ d' ∈ ds, lessD d d' = some (PySem.W.dataLt d d'))
    (hu : ∀ d ∈ ds, A.units + d.depth < cLine) : SortsAt P w A s (krKind s.heap fs ds) vs := by
  have shape : ∀ d ∈ ds, ∃ x r, d = .tuple (.tuple x :: r) := fun d hd => by
    have := h1 d hd
    cases d with
    | tuple xs =>
      cases xs with
      | nil => cases this
      | cons x r => cases x <;> first | exact ⟨_, _, rfl⟩ | cases this
    | _ => cases this
  have er : EachIs (fun v d => ∃ as, Reads s.heap v d as) vs ds := e.mono fun v d q => ⟨[], q.reads⟩
  refine ⟨fun v hv => ?_, PyProof.Rows.tuples' false, ?_, fun hlen E Q hq => ?_⟩
  · obtain ⟨d, hd, r⟩ := e.left v hv
    exact ⟨_, krKind_some hd r⟩
  · intro E x y a b Q ha hb hq
    obtain ⟨d, hd, ra, rfl⟩ := krKind_inv ha
    obtain ⟨d', hd', rb, rfl⟩ := krKind_inv hb
    have hl := h2 d hd d' hd'
    have hroom := hu d hd
    obtain ⟨x1, r1, rfl⟩ := shape d hd
    obtain ⟨x2, r2, rfl⟩ := shape d' hd'
    have hq' : Q (PySem.W.dataLt (.tuple (.tuple x1 :: r1)) (.tuple (.tuple x2 :: r2))) s := hq
    cases ra with
    | @tup a1 o1 v1 n1 _ g1 c1 d1 _ q1 =>
      cases rb with
      | @tup a2 o2 v2 n2 _ g2 c2 d2 _ q2 =>
        have l1 : v1.size = (PyData.tuple x1 :: r1).length := by simpa using SeqAt.ReadsAll.length _ _ _ q1.reads
        have l2 : v2.size = (PyData.tuple x2 :: r2).length := by simpa using SeqAt.ReadsAll.length _ _ _ q2.reads
        simp only [lessD] at hl
        refine PySem.W.kat_lt g1 d1 g2 d2 (lex_run ?_ hq')
        rw [l1, l2]
        exact less_run _ _ _ _ _ _ _ _ _ _ q1.reads q2.reads hl (by rw [PyData.depth] at hroom; omega)
  · obtain ⟨gs, t1, t2, t3⟩ := PySem.W.each_katTups er fun d hd => by
      obtain ⟨x, r, e⟩ := shape d hd
      exact ⟨_, r, e⟩
    refine PySem.W.kat_kind (T := .type "tuple") t1 (by omega) (fun g hg => ?_) rfl hq
    obtain ⟨x, r, as, m1, m2⟩ := t3 g hg
    obtain ⟨x', r', e'⟩ := shape _ m1
    cases e'
    exact PySem.W.looks_reads m2
/-! ### items that are tuples, kept as they are -/
structure Icy (P : Program) (w : World) (Hz : Hp) (outer : List PySem.Env) (base h : Heap) : Prop where
  shape : ∀ a u, Hz a = some u → ∃ o xs, u = .frz o (.tup xs)
  out : ∀ a u, Hz a = some u → a ∉ frs outer
  nb : ∀ b o, base.get? b = some o → Hz b = none
  hok : HOk P w Hz h
section
variable {P : Program} {w : World} {K : PySem.W.Frag} {mg : Str → Option Value} {base : Heap} {j : Nat} {f : Addr} {fd : FuncData} {x : Str} {Fn : List PyData → Res PyData} {A : Around} {outer : List PySem.Env} {s s' : Shared} {Hz : Hp} {ex : List Addr}
theorem Icy.stay (y : Icy P w Hz outer base s.heap) (st : Stay outer ex s s') (hx : ∀ b ∈ ex, Hz b = none) : Icy P w Hz outer base s'.heap :=
  ⟨y.shape, y.out, y.nb, fun a u e => (y.hok a u e).stay (fun b v hb q => by
    rcases hb with rfl | hb
    · exact st.keep b v (y.out b u e) (fun z => by rw [hx b z] at e; cases e) q
    · obtain ⟨o, xs, z⟩ := y.shape b _ hb
      cases z) (fun _ q => q) fun _ _ q => q⟩
/-- what an outer state tells of a later one -/
theorem env_icy (E0 : Env0 P w K mg base A outer s Hz) (y : Icy P w Hz outer base s.heap) (st : Stay outer ex s s') (hx : ∀ b ∈ ex, base.get? b = none ∧ b ∉ frs outer ∧ Hz b = none) (hz : ∃ z o, base.objs.size ≤ z ∧ z ∉ ex ∧ s.heap.get? z = some o) : Env0 P w K mg base A outer s' Hz := by
  have e0 : Env0 P w K mg base A outer s H00 := ⟨E0.frames, E0.mod, fun b o h => ⟨(E0.bs b o h).1, rfl⟩, E0.bsz, E0.funs, fun _ _ => rfl, fun _ _ e => (by cases e), E0.bare⟩
  have e1 := Env0.stay e0 st (fun b z => ⟨(hx b z).1, (hx b z).2.1⟩) hz
  exact ⟨e1.frames, e1.mod, fun b o h => ⟨(e1.bs b o h).1, y.nb b o h⟩, e1.bsz, e1.funs, fun b hb => by
    cases q : Hz b with
    | none => rfl
    | some u => exact absurd hb (y.out b u q), (y.stay st fun b z => (hx b z).2.2).hok, e1.bare⟩
theorem key_icy (G : FnD P w K mg base j f fd [x] Fn) (hr : Room j A) (E0 : Env0 P w K mg base A outer s Hz) (y : Icy P w Hz outer base s.heap) (kin : K.In base) (hb : Binds K fd [x] []) {d k : PyData} {v : V} {u : Value} (dv : Den K Hz v d) (hk : Fn [d] = .ok k) (tk : tupOnly k = true) (r : RelV v u) (fs : List Addr)
    (hfs : ∀ b ∈ fs, (∃ o, s.heap.get? b = some o) ∧ base.get? b = none ∧ Hz b = none) (hz : ∃ z o, base.objs.size ≤ z ∧ s.heap.get? z = some o) : wpAny (model P w) A (call (.ref f) [u]) (fun y s' => Stay outer [] s s' ∧ KR s'.heap fs y k) (fun _ _ => False) s := by
  have kin' : K.In s.heap := fun a o e => (E0.bs a o (kin a o e)).1
  have bt := hb s [u] kin' rfl
  rw [List.append_nil] at bt
  refine wpAny_call (codeAny_mono (G.run A outer s Hz ⟨[u], []⟩ [u] [v] (fun v' H' => ∃ F', Ex F' H' ∧ Den K F' v' k) (fun _ _ _ => False) hr E0 bt (.cons r .nil) ?_) fun r s' hq => ?_)
  · refine ⟨[d], Hz, rfl, .refl _, .cons dv .nil, ?_⟩
    rw [hk]
    exact fun v' H' F' g q => ⟨F', g.fh, q⟩
  · cases r with
    | error e => exact cx_false hq
    | ok fl =>
      cases fl with
      | ret u' =>
        obtain ⟨v', H', os, bare, un, hok, r', F', ex, dn⟩ := hq
        have kp : ∀ b o, b ∉ frs outer → s.heap.get? b = some o → s'.heap.get? b = some o := fun b o h1 e => by
          cases q : Hz b with
          | none => exact un.keep b o e q h1 (by simp)
          | some u =>
            obtain ⟨o', xs, rfl⟩ := y.shape b u q
            have a1 := (y.hok b _ q).1
            have a2 := (hok b _ (un.frzs b _ _ q)).1
            rw [e] at a1
            cases a1
            exact a2
        have st : Stay outer [] s s' := ⟨os, bare, fun b o h1 _ e => kp b o h1 e, fun b o _ e => by
          by_cases z : b ∈ frs outer
          · exact un.slot b o e (E0.frf b z) z (by simp)
          · exact ⟨o.slots, kp b o z e⟩⟩
        have E1 := env_icy E0 y st (fun b z => by cases z) (by obtain ⟨z, o, h1, h2⟩ := hz; exact ⟨z, o, h1, by simp, h2⟩)
        refine ⟨st, kr_of hok (fun a o e => (E1.bs a o (kin a o e)).1) ex (fun b z => ?_) (fun b z => ?_) dn tk r'⟩
        · obtain ⟨⟨o, e⟩, _, n⟩ := hfs b z
          exact un.free b o e n (by simp)
        · cases q : K.lookup b with
          | none => rfl
          | some o => have := kin b o q; rw [(hfs b z).2.1] at this; cases this
      | next => exact False.elim hq
      | brk => exact False.elim hq
      | cont => exact False.elim hq
/-- the keys, one by one, then the sort -/
theorem sort_icy (G : FnD P w K mg base j f fd [x] Fn) (hr : Room j A) (E0 : Env0 P w K mg base A outer s Hz) (y : Icy P w Hz outer base s.heap) (kin : K.In base) (hb : Binds K fd [x] []) {key : PyData → PyData} {xs : List V} {vs : List Value} {ds : List PyData} {a kS : Addr} {e1 : Nat}
    (dx : Dens K Hz xs ds) (rx : Vals xs vs) (hk : ∀ d ∈ ds, Fn [d] = .ok (key d)) (tk : ∀ d ∈ ds, tupOnly (key d) = true) (k1 : ∀ d ∈ ds.map key, tup2 d = true) (k2 : ∀ d ∈ ds.map key, ∀ d' ∈ ds.map key, lessD d d' = some (PySem.W.dataLt d d')) (hu : ∀ d ∈ ds, A.units + (key d).depth < cLine) (hZ : vs.length ≤ sizeLine)
    (nk : s.heap.get? kS = some (seqObj "list" #[] 0)) (na : s.heap.get? a = some (seqObj "list" #[] e1)) (hka : kS ≠ a) (bk : base.objs.size ≤ kS) (ba : base.objs.size ≤ a) (fk : kS ∉ frs outer) (fa : a ∉ frs outer) (zk : Hz kS = none) (za : Hz a = none) {E : Value → Shared → Prop} {Q : PySem.Fin → Shared → Prop}
    (fin : ∀ (s1 : Shared) h' t c (kz : List Value), Stay outer [kS] s s1 → KeepsBut a (hideAll s1.heap [kS]) h' → EachIs (fun u k => KR s1.heap (kS :: a :: frs outer) u k) kz (ds.map key) →
      h'.get? a = some (seqObj "list" (PySem.W.sortVals (krKind s1.heap (kS :: a :: frs outer) (ds.map key)) false kz vs).toArray c) → Q (.done (.ret .none)) { s1 with heap := h', toks := t }) :
    wpAny (model P w) A (PyProof.Rows.ksk_rest a (.ref f) false vs.toArray e1 (.ref kS)) Q E s := by
  have lx := rx.length
  have ld := dx.length
  have none_of : ∀ b, base.objs.size ≤ b → base.get? b = none := fun b h => Heap.get?_none_of_le h
  have hxs : ∀ b ∈ [kS], base.get? b = none ∧ b ∉ frs outer ∧ Hz b = none := fun b z => by rw [List.mem_singleton.mp z]; exact ⟨none_of _ bk, fk, zk⟩
  unfold PyProof.Rows.ksk_rest
  refine wpAny_bind (wpAny_rule ?_)
  simp only [List.forIn_toArray]
  refine wpAny_bind (PyProof.Rows.ksk_fold (fun i s' => Stay outer [kS] s s' ∧ ∃ kA e, s'.heap.get? kS = some (seqObj "list" kA e) ∧ EachIs (fun u k => KR s'.heap (kS :: a :: frs outer) u k) kA.toList ((ds.map key).take i)) vs 0 s ⟨.refl E0.bare, #[], 0, nk, by rw [List.take_zero]; exact .nil⟩ ?one ?last)
  case one =>
    rintro i u s' hu' ⟨st, kA, e, nk', eachK⟩
    rw [Nat.zero_add] at eachK ⊢
    have hi : i < vs.length := (List.getElem?_eq_some_iff.mp hu').1
    have hid : i < ds.length := by omega
    have hd : ds[i]? = some ds[i] := List.getElem?_eq_getElem hid
    obtain ⟨v, hv, dv⟩ := dx.get hd
    obtain ⟨u2, hu2, ru⟩ := rx.get hv
    rw [hu'] at hu2
    cases hu2
    have E1 := env_icy E0 y st hxs ⟨a, _, ba, by simp [Ne.symm hka], na⟩
    have y1 := y.stay st fun b z => (hxs b z).2.2
    have na' := st.keep a _ fa (by simp [Ne.symm hka]) na
    refine wpAny_bind (wpAny_attempt (wpAny_mono (key_icy G hr E1 y1 kin hb dv (hk _ (List.getElem_mem hid)) (tk _ (List.getElem_mem hid)) ru (kS :: a :: frs outer) (fun b z => ?_) ⟨a, _, ba, na'⟩) (fun y s2 hy => ?_) fun _ _ z => z.elim))
    · rcases List.mem_cons.mp z with z | z
      · rw [z]; exact ⟨⟨_, nk'⟩, none_of _ bk, zk⟩
      · rcases List.mem_cons.mp z with z | z
        · rw [z]; exact ⟨⟨_, na'⟩, none_of _ ba, za⟩
        · obtain ⟨h1, o, h2, _⟩ := E1.funs.mem z
          exact ⟨⟨o, h2⟩, h1, E1.frf b z⟩
    · obtain ⟨st2, ky⟩ := hy
      have nk2 := st2.keep kS _ fk (by simp) nk'
      have lk := eachK.length
      rw [Array.length_toList, List.length_take, List.length_map] at lk
      have sz : kA.size ≤ sizeLine := by omega
      have upd1 := Heap.SameBut.update s2.heap kS (Obj.mapSeq fun (zs : Array Value) => zs.push y)
      obtain ⟨c2, hc2⟩ : ∃ c2, (s2.heap.update kS (Obj.mapSeq fun (zs : Array Value) => zs.push y)).get? kS = some (seqObj "list" (kA.push y) c2) := ⟨_, PyProof.Rows.get?_update_seq nk2 fun (zs : Array Value) => zs.push y⟩
      refine wpAny_bind (PyProof.Rows.listUpdate_at nk2 rfl ?_ sz (by show (kA.push y).size ≤ _; rw [Array.size_push]; omega))
      refine wpAny_pure ⟨rfl, ?_, kA.push y, c2, hc2, ?_⟩
      · refine st.trans (Stay.trans (st2.more fun b z => by cases z) ⟨rfl, st2.bare, fun b o _ hb2 e => ?_, fun b o hb2 e => ⟨o.slots, ?_⟩⟩)
        · exact (upd1.2 b (by simpa using hb2)).trans e
        · exact (upd1.2 b (by simpa using hb2)).trans e
      · have ek : (ds.map key).take (i + 1) = (ds.map key).take i ++ [key ds[i]] := by
          rw [List.take_add_one, List.getElem?_map, hd]; rfl
        have ea : (kA.push y).toList = kA.toList ++ [y] := by simp
        rw [ek, ea]
        have mv : ∀ {u : Value} {k : PyData}, KR s2.heap (kS :: a :: frs outer) u k → KR (s2.heap.update kS (Obj.mapSeq fun (zs : Array Value) => zs.push y)) (kS :: a :: frs outer) u k := fun {u k} q => q.mono fun b o hb2 e => (upd1.2 b (fun z => hb2 (by rw [z]; exact List.mem_cons_self))).trans e
        refine each_push (mv ky) (eachK.mono fun u k q => mv (q.mono fun b o hb2 e => st2.keep b o (fun z => hb2 (List.mem_cons_of_mem _ (List.mem_cons_of_mem _ z))) (by simp) e))
  case last =>
    rintro s1 ⟨st, kA, e, nk1, eachK⟩
    rw [Nat.zero_add, List.take_of_length_le (by rw [List.length_map]; omega)] at eachK
    have lk := eachK.length
    rw [Array.length_toList, List.length_map] at lk
    have na1 := st.keep a _ fa (by simp [Ne.symm hka]) na
    refine wpAny_bind (PyProof.Rows.listItems_at nk1 rfl ?_)
    refine keyH_end (κ := krKind s1.heap (kS :: a :: frs outer) (ds.map key)) (h₁ := hideAll s1.heap [kS]) (fun b o _ e => of_hideAll _ e) (hideAll_none _ (by simp)) nk1 na1 hka (sorts_kr (s := s1) eachK k1 k2 (fun d hd => ?_)) (by omega) hZ fun h3 t3 c k3 n3 => fin s1 h3 t3 c _ st k3 eachK n3
    obtain ⟨d0, h0, rfl⟩ := List.mem_map.mp hd
    exact hu d0 h0
end
noncomputable def sortK2 (Fn : FnT) (ds : List PyData) : Res (List PyData) := if (ds.all tupOnly && ds.all (isOkR Fn) && keysOk2 (ds.map (keyR Fn)) && decide (ds.length ≤ 16777216)) = true then .ok (byKey (keyR Fn) ds) else .bad
noncomputable def icyH (F : Hp) (h : Heap) : Hp := fun a => match F a with
  | some (.tup xs) => (h.get? a).map fun o => .frz o (.tup xs)
  | some (.frz o (.tup xs)) => some (.frz o (.tup xs))
  | _ => none
theorem icy_inv {F : Hp} {h : Heap} {a : Addr} {u : HO} (e : icyH F h a = some u) : ∃ o xs, u = .frz o (.tup xs) ∧ ((F a = some (.tup xs) ∧ h.get? a = some o) ∨ F a = some (.frz o (.tup xs))) := by
  unfold icyH at e
  cases q : F a with
  | none => rw [q] at e; cases e
  | some w =>
    rw [q] at e
    cases w with
    | tup xs =>
      cases r : h.get? a with
      | none => simp only [r, Option.map_none] at e; cases e
      | some o =>
        simp only [r, Option.map_some, Option.some.injEq] at e
        exact ⟨o, xs, e.symm, .inl ⟨rfl, rfl⟩⟩
    | frz o u' =>
      cases u' with
      | tup xs =>
        simp only [Option.some.injEq] at e
        exact ⟨o, xs, e.symm, .inr rfl⟩
      | _ => cases e
    | _ => cases e
section
variable {X : Cx} {pins : List (Addr × Obj)} {σ : L2.St} {H F : Hp} {s : Shared}
theorem icy_of (I : Inv X pins σ H s) (ex : Ex F H) : Icy X.prog X.w (icyH F s.heap) X.stack X.base s.heap := by
  have nn : ∀ a u, icyH F s.heap a = some u → ∃ w, H a = some w := fun a u e => by
    obtain ⟨o, xs, _, (⟨h1, _⟩ | h1)⟩ := icy_inv e
    · exact ⟨_, ex _ _ h1⟩
    · exact ⟨_, ex _ _ h1⟩
  refine ⟨fun a u e => ?_, fun a u e z => ?_, fun b o e => ?_, fun a u e => ?_⟩
  · obtain ⟨o, xs, h, _⟩ := icy_inv e; exact ⟨o, xs, h⟩
  · obtain ⟨w, hw⟩ := nn a u e
    rw [I.stkFree a z] at hw; cases hw
  · cases q : icyH F s.heap b with
    | none => rfl
    | some u =>
      obtain ⟨w, hw⟩ := nn b u q
      rw [(I.env0.bs b o e).2] at hw; cases hw
  · obtain ⟨o, xs, rfl, (⟨h1, h2⟩ | h1)⟩ := icy_inv e
    · exact ⟨h2, I.hok a _ (ex _ _ h1)⟩
    · exact I.hok a _ (ex _ _ h1)
theorem icy_rd (I : Inv X pins σ H s) (ex : Ex F H) {a : Addr} {xs : List V} (h : Rd F a (.tup xs)) : Rd (icyH F s.heap) a (.tup xs) := by
  rcases h with h | ⟨o, h⟩
  · obtain ⟨_, its, _, o, e, _⟩ := I.hok a _ (ex _ _ h)
    exact .inr ⟨o, by unfold icyH; rw [h, e]; rfl⟩
  · exact .inr ⟨o, by unfold icyH; rw [h]⟩
theorem tupOnlys_all : ∀ {ds : List PyData}, (∀ d ∈ ds, tupOnly d = true) → tupOnlys ds = true
  | [], _ => rfl
  | d :: ds, h => by rw [tupOnlys, h d List.mem_cons_self, tupOnlys_all fun x hx => h x (List.mem_cons_of_mem _ hx)]; rfl
mutual
theorem den_icy (I : Inv X pins σ H s) (ex : Ex F H) : ∀ {v : V} {d : PyData}, Den X.K F v d → tupOnly d = true → Den X.K (icyH F s.heap) v d
  | _, _, .non, _ => .non
  | _, _, .bl b, _ => .bl b
  | _, _, .int i, _ => .int i
  | _, _, .str x, _ => .str x
  | _, _, .lst _ _, t => by simp [tupOnly] at t
  | _, _, .dic _ _, t => by simp [tupOnly] at t
  | _, _, .tup h q, t => by
    have t' := t
    simp only [tupOnly] at t'
    rcases h with h | h
    · exact .tup (.inl (icy_rd I ex h)) (dens_icy I ex q t')
    · exact .tup (.inr h) (dens_icy I ex q t')
theorem dens_icy (I : Inv X pins σ H s) (ex : Ex F H) : ∀ {v : List V} {d : List PyData}, Dens X.K F v d → tupOnlys d = true → Dens X.K (icyH F s.heap) v d
  | _, _, .nil, _ => .nil
  | _, _, .cons a b, t => by
    simp only [tupOnlys, Bool.and_eq_true] at t
    exact .cons (den_icy I ex a t.1) (dens_icy I ex b t.2)
end
theorem sorted_icy {j : Nat} {f : Addr} {fd : FuncData} {x : Str} {Fn : FnT} (G : FnD X.prog X.w X.K X.mg X.base j f fd [x] Fn) (hr : Room (j + 1) X.A) (hb : Binds X.K fd [x] []) (I : Inv X pins σ H s) (ex : Ex F H) {l : Addr} {xs : List V} {ds es : List PyData}
    (hl : SqL X.K H l xs) (dn : Dens X.K F xs ds) (hs : sortK2 Fn ds = .ok es) {Q : VK} (hQ : ∀ p ys, H p = none → Dens X.K F ys es → Q (.ref p) (upd H p (.lst ys))) :
    wpAny (model X.prog X.w) X.A (call (.builtin "sorted") [.ref l] [(Str.ofString "key", .ref f)]) (EP X pins σ Q) X.xe s := by
  unfold sortK2 at hs
  by_cases hz : (ds.all tupOnly && ds.all (isOkR Fn) && keysOk2 (ds.map (keyR Fn)) && decide (ds.length ≤ 16777216)) = true
  · rw [if_pos hz] at hs
    simp only [Bool.and_eq_true, keysOk2, List.all_eq_true, decide_eq_true_eq, List.mem_map, forall_exists_index, and_imp, forall_apply_eq_imp_iff₂] at hz
    obtain ⟨⟨⟨z1, z2⟩, z3, z4⟩, z5⟩ := hz
    cases hs
    obtain ⟨vs, rx, pl, hlen⟩ := I.list hl
    have lx := rx.length
    have ld := dn.length
    have hlv : vs.length ≤ sizeLine := by omega
    have icy := icy_of I ex
    have dH : Dens X.K (icyH F s.heap) xs ds := dens_icy I ex dn (tupOnlys_all z1)
    have hkk : ∀ d ∈ ds, Fn [d] = .ok (keyR Fn d) := fun d hd => by
      have := z2 d hd
      unfold isOkR at this
      unfold keyR
      cases e : Fn [d] with
      | ok k => rfl
      | exc x => rw [e] at this; cases this
      | bad => rw [e] at this; cases this
    refine sorted_of_sort pl.isList hlv (PyProof.Rows.ksk_s1 _ _) (fun _ => PyProof.Rows.ksk_l1 _ _) fun E' => ?_
    rw [PyProof.Rows.ksk_t1]
    have atD := copyHeap_at s.heap vs
    have ltD := Heap.lt_size atD
    obtain ⟨e1, emp⟩ : ∃ e1, ((copyHeap s.heap vs).update (s.heap.objs.size + 1) (Obj.mapSeq fun _ => (#[] : Array Value))).get? (s.heap.objs.size + 1) = some (seqObj "list" #[] e1) := ⟨_, PyProof.Rows.get?_update_seq atD fun _ => #[]⟩
    have szK : (((copyHeap s.heap vs).update (s.heap.objs.size + 1) (Obj.mapSeq fun _ => (#[] : Array Value))).push (seqObj "tuple" vs.toArray 0)).objs.size = (copyHeap s.heap vs).objs.size + 1 := by rw [PyProof.Rows.size_push', Heap.size_update]
    unfold PyProof.Rows.ksk_tree
    refine wpAny_bind (PyProof.Rows.listItems_at atD rfl (wpAny_bind (PyProof.Rows.listUpdate_at atD rfl (wpAny_bind (PyProof.Rows.seqEpoch_at emp rfl (wpAny_bind (wpAny_newTuple (wpAny_bind (wpAny_newList (wpAny_holding ?_) (Nat.zero_le _))) (by show vs.length ≤ _; exact hlv))))) (by rw [List.size_toArray]; exact hlv) (Nat.zero_le _))))
    have e00 : Env0 X.prog X.w X.K X.mg X.base X.A X.stack s (icyH F s.heap) := ⟨I.env0.frames, I.env0.mod, fun b o h => ⟨(I.env0.bs b o h).1, icy.nb b o h⟩, I.env0.bsz, I.env0.funs, fun b hb => (by cases q : icyH F s.heap b with | none => rfl | some u => exact absurd hb (icy.out b u q)), icy.hok, I.env0.bare⟩
    have old : ∀ b o, s.heap.get? b = some o → (sortingHeap (copyHeap s.heap vs) (s.heap.objs.size + 1) vs).get? b = some o := fun b o e => sortingHeap_old (Nat.ne_of_lt (Nat.lt_succ_of_lt (Heap.lt_size e))) (copyHeap_old e)
    have st0 : Stay X.stack [] s { s with heap := sortingHeap (copyHeap s.heap vs) (s.heap.objs.size + 1) vs } := ⟨rfl, I.bare, fun b o _ _ e => old b o e, fun b o _ e => ⟨o.slots, old b o e⟩⟩
    obtain ⟨m, ⟨ol, es, ep, hol, _⟩, _⟩ := id I.loc
    have hbase : X.base.objs.size ≤ s.heap.objs.size := Nat.le_trans I.ok.bsz I.sz
    have E1 := (env_icy e00 icy st0 (fun b z => by cases z) ⟨X.env.locals, ol, Nat.le_trans I.ok.bsz I.ok.above, by simp, hol⟩).in1.in1
    have y1 : Icy X.prog X.w (icyH F s.heap) X.stack X.base (sortingHeap (copyHeap s.heap vs) (s.heap.objs.size + 1) vs) := icy.stay st0 (fun b z => by cases z)
    have zn : ∀ b, s.heap.objs.size ≤ b → icyH F s.heap b = none := fun b hb2 => by
      cases q : icyH F s.heap b with
      | none => rfl
      | some u => exact absurd (icy.hok b u q).lt (Nat.not_lt.mpr hb2)
    have frl : ∀ b, s.heap.objs.size ≤ b → b ∉ frs X.stack := fun b hb2 z => by
      obtain ⟨_, o, h2, _⟩ := I.stack.mem z
      exact absurd (Heap.lt_size h2) (Nat.not_lt.mpr hb2)
    have gK : (sortingHeap (copyHeap s.heap vs) (s.heap.objs.size + 1) vs).get? ((copyHeap s.heap vs).objs.size + 1) = some (seqObj "list" #[] 0) := by
      rw [← szK]; exact Heap.get?_push_size _ rfl
    have gD : (sortingHeap (copyHeap s.heap vs) (s.heap.objs.size + 1) vs).get? (s.heap.objs.size + 1) = some (seqObj "list" #[] e1) := Heap.get?_push_of_some _ (Heap.get?_push_of_some _ emp)
    have hNk : s.heap.objs.size + 1 < (copyHeap s.heap vs).objs.size + 1 := Nat.lt_succ_of_lt ltD
    show wpAny _ _ (PyProof.Rows.ksk_rest _ _ _ _ _ (.ref _)) _ _ { s with heap := sortingHeap (copyHeap s.heap vs) (s.heap.objs.size + 1) vs }
    rw [szK]
    refine sort_icy (A := X.A.in1.in1) (s := { s with heap := sortingHeap (copyHeap s.heap vs) (s.heap.objs.size + 1) vs }) G ⟨hr.hd, by have := hr.dp; show X.A.depth + 3 * j + 5 < _; omega, by have := hr.un; show X.A.units + 1 + 1 + 16 * j + 200 < _; omega⟩ E1 y1 I.ok.mod.kin hb dH rx hkk (fun d hd => (z3 d hd).1) (fun k hk => ?_) (fun k hk k' hk' => ?_) (fun d hd => ?_) hlv gK gD (Nat.ne_of_gt hNk) (Nat.le_trans hbase (Nat.le_of_lt (Nat.lt_of_succ_lt hNk))) (Nat.le_succ_of_le hbase) (frl _ (Nat.le_of_lt (Nat.lt_of_succ_lt hNk))) (frl _ (Nat.le_succ _)) (zn _ (Nat.le_of_lt (Nat.lt_of_succ_lt hNk))) (zn _ (Nat.le_succ _)) fun s1 h' t c kz st kb ek hD => ⟨rfl, ?_⟩
    · obtain ⟨d, hd, rfl⟩ := List.mem_map.mp hk
      exact (z3 d hd).2.1
    · obtain ⟨d, hd, rfl⟩ := List.mem_map.mp hk
      obtain ⟨d', hd', rfl⟩ := List.mem_map.mp hk'
      simpa using z4 d hd d' hd'
    · have := hr.un
      have := (z3 d hd).2.2
      show X.A.units + 1 + 1 + _ < _
      omega
    · have lift : ∀ b o, b ∉ frs X.stack → s.heap.get? b = some o → h'.get? b = some o := fun b o hf e => by
        have hb2 : b < s.heap.objs.size := Heap.lt_size e
        have nK : b ≠ (copyHeap s.heap vs).objs.size + 1 := Nat.ne_of_lt (Nat.lt_trans hb2 (Nat.lt_of_succ_lt hNk))
        have q1 := st.keep b o hf (by simpa using nK) (old b o e)
        exact kb b o (Nat.ne_of_lt (Nat.lt_succ_of_lt hb2)) (hideAll_get _ q1 (by simpa using nK))
      have lifts : ∀ b o, s.heap.get? b = some o → ∃ sl, h'.get? b = some { o with slots := sl } := fun b o e => by
        have hb2 : b < s.heap.objs.size := Heap.lt_size e
        have nK : b ≠ (copyHeap s.heap vs).objs.size + 1 := Nat.ne_of_lt (Nat.lt_trans hb2 (Nat.lt_of_succ_lt hNk))
        obtain ⟨sl, q1⟩ := st.slot b o (by simpa using nK) (old b o e)
        exact ⟨sl, kb b _ (Nat.ne_of_lt (Nat.lt_succ_of_lt hb2)) (hideAll_get _ q1 (by simpa using nK))⟩
      have kz' : (xs.zip ds).map (fun p => keyR Fn p.2) = ds.map (keyR Fn) := by
        rw [show (fun p : V × PyData => keyR Fn p.2) = keyR Fn ∘ Prod.snd from rfl, ← List.map_map, List.map_snd_zip (by omega)]
      have ek2 : EachIs (fun u k => (krKind s1.heap _ (ds.map (keyR Fn))).keyOf u = some (PySem.W.keyToks k)) kz (ds.map (keyR Fn)) := (PySem.W.each_mem ek).mono fun u k q => krKind_some q.2 q.1
      have ek3 := PySem.W.each_of_map (fun p : V × PyData => keyR Fn p.2) (by rw [kz']; exact ek2)
      have eo := PySem.W.sortVals_each (κ := krKind s1.heap _ (ds.map (keyR Fn))) (rev := false) (bs := xs.zip ds) (fun p => PySem.W.keyToks (keyR Fn p.2)) (each_zip rx (by omega)) ek3
      generalize hout : PySem.W.sortVals (krKind s1.heap _ (ds.map (keyR Fn))) false kz vs = out at eo hD
      have eo : EachIs (fun (u : Value) (p : V × PyData) => RelV p.1 u) out ((xs.zip ds).mergeSort (dataLe false fun p => keyR Fn p.2)) := eo
      have hfresh : H (s.heap.objs.size + 1) = none := I.hok.fresh (Nat.le_succ _)
      have vy := vals_each eo
      have dy : Dens X.K F (((xs.zip ds).mergeSort (dataLe false fun p => keyR Fn p.2)).map (·.1)) (byKey (keyR Fn) ds) := by
        have e2 : byKey (keyR Fn) ds = ((xs.zip ds).mergeSort (dataLe false fun p => keyR Fn p.2)).map (·.2) := by
          have e3 := List.map_mergeSort (r := dataLe false fun p : V × PyData => keyR Fn p.2) (s := dataLe false (keyR Fn)) (f := Prod.snd) (l := xs.zip ds) (fun a _ b _ => rfl)
          rw [List.map_snd_zip (by omega)] at e3
          exact e3.symm
        rw [e2]
        exact dens_pairs fun p hp => pairs_dens dn p ((List.mergeSort_perm _ _).mem_iff.mp hp)
      have ly : (((xs.zip ds).mergeSort (dataLe false fun p => keyR Fn p.2)).map (·.1)).length ≤ sizeLine := by
        rw [List.length_map, List.length_mergeSort, List.length_zip]; omega
      have trk : ∀ b u, H b = some u → b < s.heap.objs.size := fun b u e => (I.hok b u e).lt
      have notD : ∀ b u, H b = some u → b ≠ s.heap.objs.size + 1 := fun b u e => Nat.ne_of_lt (Nat.lt_succ_of_lt (trk b u e))
      have notF : ∀ b u, H b = some u → b ∉ frs X.stack := fun b u e z => by rw [I.stkFree b z] at e; cases e
      refine ⟨.ref (s.heap.objs.size + 1), upd H (s.heap.objs.size + 1) (.lst (((xs.zip ds).mergeSort (dataLe false fun p => keyR Fn p.2)).map (·.1))), I.call' (ch := []) (s' := { s1 with heap := h', toks := t }) st.os ⟨fun b o e _ hf _ => lift b o hf e, fun b o e _ _ _ => lifts b o e, fun b o e n _ => ?_, fun b o e _ => ?_, fun b zs e => ?_, fun b o u e => ?_, fun b ps e => ⟨#[], ?_⟩⟩ (fun b u e => ?_) st.bare (fun b z => by cases z), rfl, hQ _ _ hfresh dy⟩
      · rw [upd_ne (Nat.ne_of_lt (Nat.lt_succ_of_lt (Heap.lt_size e)))]; exact n
      · obtain ⟨sl, q⟩ := lifts b o e; exact ⟨_, q⟩
      · rw [upd_ne (notD b _ e)]; exact e
      · rw [upd_ne (notD b _ e)]; exact e
      · rw [upd_ne (notD b _ e)]; simpa using e
      · by_cases hb2 : b = s.heap.objs.size + 1
        · subst hb2
          rw [upd_same] at e
          cases e
          exact ⟨ly, out, c, vy, hD⟩
        · rw [upd_ne hb2] at e
          refine (I.hok b u e).stay (fun c v hc q => lift c v ?_ q) (fun c hc => ?_) fun c zs hc => ?_
          · rcases hc with rfl | hc
            · exact notF _ _ e
            · exact notF _ _ hc
          · rw [upd_ne (notD c _ hc)]; exact hc
          · rw [upd_ne (notD c _ hc)]; exact hc
  · rw [if_neg hz] at hs
    cases hs
end
end DL

/-! DL13: the list that a def returns, as one's own; split, startswith from a place, replace. -/
namespace DL
open PySem PySem.Spec PyProof.Rows L2

/-! ### a returned list is one's own -/
/-- the written part has no lists -/
def noL (K : PySem.W.Frag) : Bool := K.all fun p => !(p.2.cls == .type "list")
theorem lookup_mem : ∀ {K : PySem.W.Frag} {a : Addr} {o : Obj}, K.lookup a = some o → ∃ b, (b, o) ∈ K
  | [], _, _, e => by cases e
  | (b, u) :: K, a, o, e => by
    rw [List.lookup_cons] at e
    split at e
    · cases e; exact ⟨b, List.mem_cons_self⟩
    · obtain ⟨c, h⟩ := lookup_mem e
      exact ⟨c, List.mem_cons_of_mem _ h⟩
theorem noL_no {K : PySem.W.Frag} (h : noL K = true) {a : Addr} {o : Obj} (e : K.lookup a = some o) : o.cls ≠ .type "list" := fun z => by
  obtain ⟨b, m⟩ := lookup_mem e
  have q := List.all_eq_true.mp h _ m
  simp only at q
  rw [z] at q
  simp at q
mutual
def noList : PyData → Bool
  | .none => true
  | .bool _ => true
  | .int _ => true
  | .str _ => true
  | .list _ => false
  | .tuple xs => noLists xs
  | .dict _ => false
def noLists : List PyData → Bool
  | [] => true
  | x :: xs => noList x && noLists xs
end
section
variable {K : PySem.W.Frag} {F F2 : Hp} {a : Addr} {ys : List V}
mutual
theorem Den.away (ha : F a = some (.lst ys)) (k : ∀ b u, b ≠ a → F b = some u → F2 b = some u) : ∀ {v : V} {d : PyData}, Den K F v d → noList d = true → Den K F2 v d
  | _, _, .non, _ => .non
  | _, _, .bl b, _ => .bl b
  | _, _, .int i, _ => .int i
  | _, _, .str x, _ => .str x
  | _, _, .lst _ _, f => by simp [noList] at f
  | _, _, .tup h q, f => by
    refine .tup ?_ (Dens.away ha k q (by simpa [noList] using f))
    have ne : ∀ {b : Addr} {u : HO}, F b = some u → (∀ zs, u ≠ .lst zs) → b ≠ a := fun e n z => by
      subst z
      rw [ha] at e
      exact n _ (Option.some.inj e).symm
    rcases h with (h | ⟨o, h⟩) | h
    · exact .inl (.inl (k _ _ (ne h fun _ z => by cases z) h))
    · exact .inl (.inr ⟨o, k _ _ (ne h fun _ z => by cases z) h⟩)
    · exact .inr h
  | _, _, .dic _ _, f => by simp [noList] at f
theorem Dens.away (ha : F a = some (.lst ys)) (k : ∀ b u, b ≠ a → F b = some u → F2 b = some u) : ∀ {v : List V} {d : List PyData}, Dens K F v d → noLists d = true → Dens K F2 v d
  | _, _, .nil, _ => .nil
  | _, _, .cons h q, f => by
    rw [noLists, Bool.and_eq_true] at f
    exact .cons (Den.away ha k h f.1) (Dens.away ha k q f.2)
end
end
def thawR (r : Res PyData) : Res (List PyData) := match r with
  | .ok (.list ds) => if noLists ds = true then .ok ds else .bad
  | _ => .bad
def dThaw (Fn : List PyData → Res PyData) (fs : Sls → Res (List PyData)) (ρ : Sls) : Res (List PyData) := fs ρ >>= fun as => if as.all flatD = true then thawR (Fn as) else .bad
section
variable {X : Cx} {F0 H0 : Hp} {W : WX} {pos p : Pos} {e : Expr} {es : List Expr} {fs : Sls → Res (List PyData)} {j k : Nat} {f : Addr} {fd : FuncData} {x : Str} {ps : List Str} {Fn : List PyData → Res PyData}
theorem thaw_run {σ : L2.St} {H : Hp} {Q : VK} {n : Nat} (hK : noL X.K = true) (hn : ∀ ρ ds, fs ρ = .ok ds → ds.length = n) (h : nOf F0 H0 W X.mg X.K (dThaw Fn fs) σ H Q) :
    tCallS (spD X.mg X.K n Fn) (WE W) (rd X.mg X.K F0 H0 W (Dens X.K) fs) σ H Q := by
  obtain ⟨ρ, F, sr, q⟩ := h
  refine ⟨ρ, F, sr, ?_⟩
  unfold dThaw at q
  cases e : fs ρ with
  | exc x => simp only [e, bind_exc] at q; exact q
  | bad => simp only [e, bind_bad] at q
  | ok ds =>
    simp only [e, bind_ok] at q
    intro vs H1 F1 g1 r1
    by_cases hf : ds.all flatD = true
    · rw [if_pos hf] at q
      refine ⟨ds, fun _ => none, by rw [r1.length]; exact hn ρ ds e, (fun _ _ z => by cases z), r1.toFlat (fun d hd => List.all_eq_true.mp hf d hd) _, ?_⟩
      cases e2 : Fn ds with
      | exc x => simp only [e2, thawR] at q
      | bad => simp only [e2, thawR] at q
      | ok d =>
        simp only [e2, thawR] at q
        intro v H' F' g r
        cases r with
        | @lst a xs zs h1 h2 =>
          simp only at q
          by_cases hz : noLists zs = true
          · rw [if_pos hz] at q
            have hF : F' a = some (.lst xs) ∨ ∃ o, F' a = some (.frz o (.lst xs)) := by
              rcases h1 with h1 | ⟨o, its, m, hk, hc, _⟩
              · exact h1
              · exact absurd hc (noL_no hK hk)
            have hnew : ∀ b, F' b ≠ none → H1 b = none := fun b hb => by
              by_cases hz2 : H1 b = none
              · exact hz2
              · exact absurd (g.nf b rfl hz2) hb
            have hF : F' a = some (.lst xs) := by
              rcases hF with h | ⟨o, h⟩
              · exact h
              · exact absurd h (g.nz a o _ (hnew a (by rw [h]; simp)))
            have ha : H1 a = none := hnew a (by rw [hF]; simp)
            have haF : F1 a = none := not_of_none g1.fh ha
            let F2 : Hp := fun b => if b = a then none else match F1 b with | some u => some u | none => F' b
            have f2a : F2 a = none := if_pos rfl
            have f2n : ∀ b, b ≠ a → F1 b = none → F2 b = F' b := fun b hb h => by
              show (if b = a then none else match F1 b with | some u => some u | none => F' b) = _
              rw [if_neg hb, h]
            have f2s : ∀ b u, b ≠ a → F1 b = some u → F2 b = some u := fun b u hb h => by
              show (if b = a then none else match F1 b with | some u => some u | none => F' b) = _
              rw [if_neg hb, h]
            have g2 : Gr F1 H1 F2 H' := by
              refine ⟨fun b u h => f2s b u (fun z => by rw [z, haF] at h; cases h) h, g.hh, fun b u h => ?_, fun b h1 h2 => ?_, fun b o u h1 h2 => ?_⟩
              · by_cases hb : b = a
                · rw [hb, f2a] at h; cases h
                · cases e1 : F1 b with
                  | none => rw [f2n b hb e1] at h; exact g.fh b u h
                  | some w => rw [f2s b w hb e1] at h; cases h; exact g.hh b _ (g1.fh b _ e1)
              · by_cases hb : b = a
                · rw [hb]; exact f2a
                · rw [f2n b hb h1]; exact g.nf b rfl h2
              · by_cases hb : b = a
                · rw [hb, f2a] at h2; cases h2
                · rw [f2n b hb (not_of_none g1.fh h1)] at h2; exact g.nz b o u h1 h2
            refine q a xs H' F2 (g1.trans g2) (not_of_none g1.hh ha) (g.fh a _ hF) f2a (h2.away hF (fun b u hb h => ?_) hz)
            have e1 : F1 b = none := not_of_none g1.fh (hnew b (by rw [h]; simp))
            rw [f2n b hb e1]; exact h
          · rw [if_neg hz] at q; exact q.elim
        | _ => exact q.elim
    · rw [if_neg hf] at q; exact q.elim
theorem dn_thaw (G : FnD X.prog X.w X.K X.mg X.base j f fd ps Fn) (hK : noL X.K = true) (c : Cz X W k) (hj : j ≤ k) (hg : Gl X x) (hm : X.mg x = some (.ref f)) (hk : PySem.W.keepIn X.K (.ref f) = true) (hb : Binds X.K fd ps []) (ha : DA X F0 H0 W (e :: es) fs)
    (hn : ∀ ρ ds, fs ρ = .ok ds → ds.length = ps.length) (hdb : (x == ("__debug__" : Str)) = false := by decide) (he : starEach (e :: es) X.env = (false, eval e X.env) :: starEach es X.env := by rfl) (hpl : (backTo pos (starEach es X.env)).any (·.1) = false := by rfl) :
    DN X F0 H0 W (.Call (.Name x p) (e :: es) [] pos) (dThaw Fn fs) :=
  PE.imp (pe_callS G (c.room.mono hj) hg hm hk hb (fun σ => passAt c.tk σ) ha hdb he hpl) fun _ _ _ h => thaw_run hK hn h
end
/-! ### split, startswith from a place -/
def splitD (a : PyData) (as : List PyData) : Option PyData := match a, as with
  | .str x, [.str y] => if y.length ≠ 0 ∧ x.length + 2 ≤ 16777216 then some (.list ((Txt.split x y).map .str)) else none
  | _, _ => none
theorem mt_splitD {X : Cx} : MtR X "str.split" (rM X.K splitD) := by
  intro pins s σ H x xs v us Q I rx rs h
  obtain ⟨a, as, F, ex, da, das, q⟩ := h
  cases da with
  | str z =>
    cases das with
    | nil => exact q.elim
    | cons d1 d2 =>
      cases d2 with
      | cons _ _ => cases d1 <;> exact q.elim
      | nil =>
        cases d1 with
        | str y =>
          have q' : Rop X.K (if y.length ≠ 0 ∧ z.length + 2 ≤ 16777216 then some (.list ((Txt.split z y).map .str)) else none) H F Q := q
          by_cases hz : y.length ≠ 0 ∧ z.length + 2 ≤ 16777216
          · rw [if_pos hz] at q'
            exact mt_split pins s σ H _ _ v us Q I rx rs ⟨z, y, rfl, rfl, by simpa using hz.1, z24 hz.2, fun p hp => q'.newL ex (.of_strs _) hp⟩
          · rw [if_neg hz] at q'; exact q'.elim
        | _ => exact q.elim
  | _ => exact q.elim
def starts3D (a : PyData) (as : List PyData) : Option PyData := match a, as with
  | .str x, [.str y, .int i] => some (.bool (Txt.startswith3 x y i))
  | _, _ => none
theorem mt_starts3D {X : Cx} : MtR X "str.startswith" (rM X.K starts3D) := by
  intro pins s σ H x xs v us Q I rx rs h
  obtain ⟨a, as, F, ex, da, das, q⟩ := h
  cases da with
  | str z =>
    cases das with
    | nil => exact q.elim
    | cons d1 d2 =>
      cases d2 with
      | nil => cases d1 <;> exact q.elim
      | cons d3 d4 =>
        cases d4 with
        | cons _ _ => cases d1 <;> cases d3 <;> exact q.elim
        | nil =>
          cases d1 with
          | str y =>
            cases d3 with
            | int i => exact mt_startswith3 pins s σ H _ _ v us Q I rx rs ⟨z, y, i, rfl, rfl, q.val ex (.bl _)⟩
            | _ => exact q.elim
          | _ => cases d3 <;> exact q.elim
  | _ => exact q.elim
/-! ### replace: a token is out -/
section
variable {X : Cx} {F0 H0 : Hp} {W : WX} {pos p p' p2 apos c0 c1 : Pos} {a e o : Expr} {st : Stmt} {rest b1 b2 : List Stmt} {f : Sls → Res PyData} {g g1 g2 : Sls → Out} {j k : Nat} {x y z : Str}
def DET (X : Cx) (F0 H0 : Hp) (W : WX) (e : Expr) (f : Sls → Res PyData) : Prop := PET X e (rd X.mg X.K F0 H0 W (Den X.K) f)
def DST (X : Cx) (F0 H0 : Hp) (W : WX) (st : Stmt) (g : Sls → Out) : Prop := PST X st (sOf X.mg X.K F0 H0 W g)
def DSsT (X : Cx) (F0 H0 : Hp) (W : WX) (st : List Stmt) (g : Sls → Out) : Prop := PSsT X st (sOf X.mg X.K F0 H0 W g)
def replD (y z : Str) : PyData → Option PyData
  | .str x => if x.length + (x.length + 1) * z.length ≤ 16777216 then some (.str (Txt.replace x y z)) else none
  | _ => none
theorem PET.imp {e : Expr} {t t' : TE} (h : PET X e t) (k : ∀ σ H Q, t' σ H Q → t σ H Q) : PET X e t' := fun pins s σ H Q h0 I q => h pins s σ H Q h0 I (k σ H Q q)
theorem PST.imp {t t' : TS} (h : PST X st t) (k : ∀ D σ H, t' D σ H → t D σ H) : PST X st t' := fun pins s σ H D h0 I q => h pins s σ H D h0 I (k D σ H q)
theorem PSsT.imp {t t' : TS} (h : PSsT X rest t) (k : ∀ D σ H, t' D σ H → t D σ H) : PSsT X rest t' := fun pins s σ H D h0 I q => h pins s σ H D h0 I (k D σ H q)
theorem repl_run {σ : L2.St} {H : Hp} {Q : VK} (h : rd X.mg X.K F0 H0 W (Den X.K) (d1 (replD y z) f) σ H Q) : CwR.tReplC (rd X.mg X.K F0 H0 W (Den X.K) f) y z σ H Q := by
  obtain ⟨ρ, F, sr, q⟩ := h
  obtain ⟨ρ1, F1, sr1, q1⟩ := rd_step (R := Den X.K) sr q
  refine ⟨ρ1, F1, sr1, q1.imp fun v H1 F2 a g1 r1 k => ?_⟩
  obtain ⟨a', F3, g3, r3, sr3, q3⟩ := k v H1 F2 (.refl g1.fh) r1
  cases r3 with
  | str w =>
    have q' : Rest X.mg W (Den X.K) (ofO (if w.length + (w.length + 1) * z.length ≤ 16777216 then some (PyData.str (Txt.replace w y z)) else none)) σ H1 F3 Q := q3
    by_cases hz : w.length + (w.length + 1) * z.length ≤ 16777216
    · rw [if_pos hz] at q'
      exact ⟨w, rfl, hz, Rop.val sr3.ex (Rest.rop q') (.str _)⟩
    · rw [if_neg hz] at q'; exact q'.elim
  | _ => exact q3.elim
theorem det_repl (ho : DE X F0 H0 W o f) (hyz : (y == z) = false := by decide)
    (hst : starEach [.Constant (.str y) j c0, .Constant (.str z) k c1] X.env = [(false, eval (.Constant (.str y) j c0) X.env), (false, eval (.Constant (.str z) k c1) X.env)] := by rfl)
    (hbase : attributeBase o "replace" X.env (eval o X.env) = eval o X.env := by rfl) (hline : (apos.endLine == pos.line) = true := by rfl) :
    DET X F0 H0 W (.Call (.Attribute o "replace" apos) [.Constant (.str y) j c0, .Constant (.str z) k c1] [] pos) (d1 (replD y z) f) :=
  PET.imp (CwR.pet_replC ho hyz hst hbase hline) fun _ _ _ h => repl_run h
theorem det_replT (ho : DET X F0 H0 W o f) (hyz : (y == z) = false := by decide)
    (hst : starEach [.Constant (.str y) j c0, .Constant (.str z) k c1] X.env = [(false, eval (.Constant (.str y) j c0) X.env), (false, eval (.Constant (.str z) k c1) X.env)] := by rfl)
    (hbase : attributeBase o "replace" X.env (eval o X.env) = eval o X.env := by rfl) (hline : (apos.endLine == pos.line) = true := by rfl) :
    DET X F0 H0 W (.Call (.Attribute o "replace" apos) [.Constant (.str y) j c0, .Constant (.str z) k c1] [] pos) (d1 (replD y z) f) :=
  PET.imp (CwR.pet_replT ho hyz hst hbase hline) fun _ _ _ h => repl_run h
/-- a written text, then what asks a token -/
theorem de_binT {op : Operator} {g : PyData → PyData → Option PyData} (ho : OpR X (binaryOp op) (r2 X.K g)) (hb : DET X F0 H0 W e f) : DE X F0 H0 W (.BinOp (.Constant (.str x) j c0) op e pos) (d2 g (fun _ => .ok (.str x)) f) := by
  refine ⟨fun pins s σ H Q I h => ?_⟩
  have h2 := two (f1 := fun _ => .ok (.str x)) h
  obtain ⟨ρ, F, sr, q⟩ := h2
  have q2 := q (.str x) H F (.refl sr.ex) (.str x)
  refine wpAny_BinOp (Calls.Constant_str (thn (hb pins _ σ H _ (by show 1 ≤ s.toks + 1; omega) (I.tok _) q2) fun u s2 ⟨w, H2, I2, r2, q3⟩ => ?_))
  exact ho pins s2 σ H2 (.str x) w (.str x s.toks) u Q I2 ⟨s.toks, rfl⟩ r2 q3
theorem dsst_of (h : DSs X F0 H0 W rest g) : DSsT X F0 H0 W rest g := PSsT.of h
theorem dst_of (h : DS X F0 H0 W st g) : DST X F0 H0 W st g := PST.of h
theorem dsst_cons (h1 : DST X F0 H0 W st g1) (h2 : DSsT X F0 H0 W rest g2) : DSsT X F0 H0 W (st :: rest) (gSeq g1 g2) := by
  refine PSsT.imp (psst_cons h1 h2) fun D σ H ⟨ρ, F, sr, q⟩ => ⟨ρ, F, sr, ?_⟩
  unfold gSeq at q
  cases e : g1 ρ with
  | nx ρ' =>
    rw [e] at q
    exact fun σ' H' F' sr' x => ⟨ρ', F', sr', q.weak x⟩
  | rt d => rw [e] at q; exact q
  | bk ρ' => rw [e] at q; exact q
  | ct ρ' => rw [e] at q; exact q
  | exc x ρ' => rw [e] at q; exact q
  | bad => rw [e] at q; exact q
theorem dst_set {i : Nat} (hN : X.N.Nodup) (hi : X.N[i]? = some x) (hx : Loc X.env.scope x) (he : DET X F0 H0 W e f) (hs : swapsWith e (some (.Name x p')) pos.line X.env = pure false := by rfl) (hf : X.fn x = true ∨ X.env.scope.names.lookup x = some .local := by first | exact .inl rfl | exact .inr rfl | assumption) :
    DST X F0 H0 W (.Assign [.Name x p'] e pos) (gSet i f) := by
  intro pins s σ H D h0 I h
  obtain ⟨ρ, F, sr, q⟩ := h
  obtain ⟨ρ1, F1, sr1, q1⟩ := fin_rd (R := Den X.K) sr q
  refine wpAny_Assign_Name (thn (he pins s σ H _ h0 I ⟨ρ1, F1, sr1, q1⟩) fun v s1 ⟨y, H1, I1, r1, a', F3, g3, r3, sr3, q3⟩ => ?_) hs
  exact store_ok I1 hN hi hx r1 (fun s2 I2 => ⟨_, H1, I2, q3 _ H1 F3 (sr3.set r3 i) (.refl _)⟩) hf
/-- behind a test against a written number a token is out -/
theorem ds_ifT {op : CmpOp} {n : Int} {gg : PyData → PyData → Option PyData} (ho : OpR X (compareOp op) (r2 X.K gg)) (hm : behindInMarks op (.Constant (.int n) j c0) = false) (ha : DE X F0 H0 W a f) (hA : DSsT X F0 H0 W b1 g1) (hB : DSs X F0 H0 W b2 g2) :
    DS X F0 H0 W (.If (.Compare a [op] [.Constant (.int n) j c0] p2) b1 b2 pos) (gIf (dB (d2 gg f (fun _ => .ok (.int n)))) g1 g2) := by
  refine ⟨fun pins s σ H D I h => ?_⟩
  obtain ⟨ρ, F, sr, q⟩ := h
  obtain ⟨ρ1, F1, sr1, q1⟩ := fin_rd (R := REq) sr q
  have q2 := two (f1 := f) (f2 := fun _ => .ok (.int n)) (rdB (f := d2 gg f (fun _ => .ok (.int n))) ⟨ρ1, F1, sr1, q1⟩)
  refine wpAny_If (wpAny_isTrue_Compare1 (thn (ha.run pins s σ H _ I q2) fun v s1 ⟨x, H1, I1, r1, ρ2, F2, sr2, q3⟩ => wpAny_Constant_int ?_) hm)
  have q4 := q3 (.int n) H1 F2 (.refl sr2.ex) (.int n)
  refine wpAny_with_toks (n := 1) (by show 1 ≤ s1.toks + 1; omega) ?_
  refine wpAny_mono (ho pins _ σ H1 x (.int n) v (.int n s1.toks) _ (I1.tok (s1.toks + 1)) r1 ⟨s1.toks, rfl⟩ q4) (fun c s3 w hk => ?_) fun _ _ h _ => h
  obtain ⟨z, H3, I3, r3, kk, e, q5⟩ := w
  subst e
  cases r3
  obtain ⟨a', F3, g3, e6, sr3, q6⟩ := q5
  have e7 : kk = a' := e6
  subst e7
  refine wpAny_truthy_bool ?_
  cases kk with
  | true => exact hA pins s3 σ H3 D hk I3 ⟨ρ, F3, sr3, q6⟩
  | false => exact hB.run pins s3 σ H3 D I3 ⟨ρ, F3, sr3, q6⟩
/-- the rest of a block behind such a test -/
theorem dss_ifT {op : CmpOp} {n : Int} {gg : PyData → PyData → Option PyData} {g3 : Sls → Out} (ho : OpR X (compareOp op) (r2 X.K gg)) (hm : behindInMarks op (.Constant (.int n) j c0) = false) (ha : DE X F0 H0 W a f) (hA : DSs X F0 H0 W b1 g1) (hB : DSs X F0 H0 W b2 g2) (hR : DSsT X F0 H0 W rest g3) :
    DSs X F0 H0 W (.If (.Compare a [op] [.Constant (.int n) j c0] p2) b1 b2 pos :: rest) (gSeq (gIf (dB (d2 gg f (fun _ => .ok (.int n)))) g1 g2) g3) := by
  refine ⟨fun pins s σ H D I h => ?_⟩
  obtain ⟨ρ, F, sr, q⟩ := h
  let D2 : Ends := { D with nx := fun σ' H' => sOf X.mg X.K F0 H0 W g3 D σ' H' }
  have q : Fin X.mg X.K F0 H0 W (gIf (dB (d2 gg f (fun _ => .ok (.int n)))) g1 g2 ρ) D2 F := by
    unfold gSeq at q
    cases e : gIf (dB (d2 gg f (fun _ => .ok (.int n)))) g1 g2 ρ with
    | nx ρ' => rw [e] at q; exact fun σ' H' F' sr' x => ⟨ρ', F', sr', q.weak x⟩
    | rt d => rw [e] at q; exact q
    | bk ρ' => rw [e] at q; exact q
    | ct ρ' => rw [e] at q; exact q
    | exc x ρ' => rw [e] at q; exact q
    | bad => rw [e] at q; exact q
  obtain ⟨ρ1, F1, sr1, q1⟩ := fin_rd (R := REq) sr q
  have q2 := two (f1 := f) (f2 := fun _ => .ok (.int n)) (rdB (f := d2 gg f (fun _ => .ok (.int n))) ⟨ρ1, F1, sr1, q1⟩)
  have first : wpAny (model X.prog X.w) X.A (exec (.If (.Compare a [op] [.Constant (.int n) j c0] p2) b1 b2 pos) X.env) (fun fl s' => 1 ≤ s'.toks ∧ SP X pins D2 fl s') X.xe s := by
    refine wpAny_If (wpAny_isTrue_Compare1 (thn (ha.run pins s σ H _ I q2) fun v s1 ⟨x, H1, I1, r1, ρ2, F2, sr2, q3⟩ => wpAny_Constant_int ?_) hm)
    have q4 := q3 (.int n) H1 F2 (.refl sr2.ex) (.int n)
    refine wpAny_with_toks (n := 1) (by show 1 ≤ s1.toks + 1; omega) ?_
    refine wpAny_mono (ho pins _ σ H1 x (.int n) v (.int n s1.toks) _ (I1.tok (s1.toks + 1)) r1 ⟨s1.toks, rfl⟩ q4) (fun c s3 w hk => ?_) fun _ _ h _ => h
    obtain ⟨z, H3, I3, r3, kk, e, q5⟩ := w
    subst e
    cases r3
    obtain ⟨a', F3, g3', e6, sr3, q6⟩ := q5
    have e7 : kk = a' := e6
    subst e7
    refine wpAny_truthy_bool ?_
    cases kk with
    | true => exact wpAny_mono (wpAny_toks_of hk (hA.run pins s3 σ H3 D2 I3 ⟨ρ, F3, sr3, q6⟩)) (fun _ _ z => z) fun _ _ z => z.2
    | false => exact wpAny_mono (wpAny_toks_of hk (hB.run pins s3 σ H3 D2 I3 ⟨ρ, F3, sr3, q6⟩)) (fun _ _ z => z) fun _ _ z => z.2
  refine wpAny_execs_cons (wpAny_mono first (fun fl s1 w => ?_) fun _ _ z => z)
  obtain ⟨hk, w⟩ := w
  cases fl with
  | next =>
    obtain ⟨σ', H', I', q'⟩ := w
    exact hR pins s1 σ' H' D hk I' q'
  | ret v => exact w
  | brk => exact w
  | cont => exact w
end
end DL

/-! DL14: exceptions: raise of own classes, try with one clause that names the exception. -/
namespace DL
open PySem PySem.Spec PyProof.Rows L2

/-! ### classes -/
abbrev veMro : List Value := [.type "ValueError", .type "Exception", .type "BaseException", .type "object"]
/-- a class over ValueError without own __init__ -/
structure ExPl (K : PySem.W.Frag) (mg : Str → Option Value) (nm : Str) (C : Addr) : Prop where
  g : mg nm = some (.ref C)
  x : PySem.W.excIn K C veMro "ValueError.__new__" = true
  k : PySem.W.keepIn K (.ref C) = true
  b : PySem.W.subIn K (.ref C) (.type "BaseException") = some true
  t : PySem.W.typeIn K (.ref C) = some (.type "type")
/-- one with __init__(self, at): self.at = at -/
structure ExAt (K : PySem.W.Frag) (mg : Str → Option Value) (nm : Str) (C fI : Addr) : Prop where
  g : mg nm = some (.ref C)
  ox : OexC K C
  no : PySem.W.findIn K (.ref C) "at" = some none
  iC : PySem.W.findIn K (.ref C) "__init__" = some (some (.ref fI))
  tI : PySem.W.typeIn K (.ref fI) = some (.type "function")
section
variable {P : Program} {w : World} {K : PySem.W.Frag} {mg : Str → Option Value} {base : Heap}
def spI (K : PySem.W.Frag) (C : Addr) : Sp := fun vs H Q E => ∃ a v, vs = [.ref a, v] ∧ H a = some (exo a C none) ∧ ∀ dx, H dx = none → dx ≠ a → Q .non (upd (upd H dx (exd dx [("at", v)])) a (exo a C (some dx)))
theorem init_ok {qual : Str} {st : Stmt} {fI C : Addr} {fd : FuncData} {p1 p2 p3 p4 : Pos} (Fu : L2.Fun K "__init__" qual st fI fd) (S : FnScope ["self", "at"] ["self", "at"] (defScope st)) (hb : defBody st = [.Assign [.Attribute (.Name "self" p1) "at" p2] (.Name "at" p3) p4])
    (ox : OexC K C) (no : PySem.W.findIn K (.ref C) "at" = some none) : FnOk P w K mg base (L2.CX P w) 1 fI fd ["self", "at"] (spI K C) := by
  refine Fu.okX S (fun vs H Q E h => ?_) (fun cdv A outer s H vs Q E hr h => ?_)
  · obtain ⟨a, v, rfl, _⟩ := h; rfl
  · obtain ⟨a, v, rfl, ha, q⟩ := h
    have vis : ∀ x ∈ (["self", "at"] : List Str), Vis (defScope st) x := fun x hx => by
      rcases S.par x hx with h | h
      · exact .inl h
      · exact .inr (.inl h)
    rw [hb]
    refine ⟨_, pss_one (ps_ost (pe_var (i := 0) rfl (vis "self" (by simp))) (pe_var (i := 1) rfl (vis "at" (by simp)))), ?_⟩
    exact ⟨v, rfl, .ref a, rfl, a, C, rfl, ox, no, .inl ⟨ha, fun dx h1 h2 => q dx h1 h2⟩⟩
end
/-! ### raise -/
section
variable {X : Cx} {F0 H0 : Hp} {W : WX} {pos p : Pos} {e : Expr} {f : Sls → Res PyData} {nm : Str} {C fI : Addr} {fd : FuncData} {k : Nat}
def gRaise0 (nm : Str) (ρ : Sls) : Out := .exc ⟨nm, []⟩ ρ
def gRaise1 (nm : Str) (f : Sls → Res PyData) : Sls → Out := sE f fun d ρ => if flatD d = true then .exc ⟨nm, [("at", flatOf d)]⟩ ρ else .bad
theorem pmk_own0 {bmB : List Value} {B newId initId : String} (F : ExcBaseFacts B newId initId bmB) (q : PySem.W.excIn X.K C bmB newId = true) (gC : X.mg nm = some (.ref C))
    (kC : PySem.W.keepIn X.K (.ref C) = true) (r : Raises X (.ref C)) (hg : Gl X nm) (hdb : (nm == ("__debug__" : Str)) = false := by decide) :
    PMk X (.Call (.Name nm p) [] [] pos) (fun σ H Q => Q (.ref C) none H) := by
  intro pins s σ H Q I h
  obtain ⟨bm, N, n2, qn, bs, hdct, sn, sub, ab, col, dd, k0, k1, k2, k3, k5, mN, hC, hN, hni, T⟩ := exc_obj I.kIn q
  refine wpAny_Call_Name_kw (ld_glob I hg gC ?_ hdb)
  refine PySem.W.callWith_K0 I.kIn kC (wpAny_call_exc_subT F T hC hN hni (fun h' e hm => ?_) (Nat.zero_le _))
  exact mk_of I hm r h (I.hok.gone hm.new)
theorem ds_raise0 {pos2 : Pos} (T : ExPl X.K X.mg nm C) (c : Cz X W k) (hg : Gl X nm) (hdb : (nm == ("__debug__" : Str)) = false := by decide) : DS X F0 H0 W (.Raise (some (.Call (.Name nm p) [] [] pos)) none pos2) (gRaise0 nm) := by
  refine PS.imp (ps_raise c.calm c.tk (pmk_own0 PySem.F.excBase_ValueError T.x T.g T.k (raises_own T.b T.t) hg hdb)) fun D σ H ⟨ρ, F, sr, q⟩ => ?_
  exact q _ none σ H F sr (.refl _) ⟨T.g, .inl ⟨rfl, rfl⟩⟩
theorem ds_raise1 {pos2 : Pos} (T : ExAt X.K X.mg nm C fI) (F1 : FnOk X.prog X.w X.K X.mg X.base (L2.CX X.prog X.w) 1 fI fd ["self", "at"] (spI X.K C)) (hb : Binds X.K fd ["self", "at"] []) (c : Cz X W k) (hk : 2 ≤ k) (hg : Gl X nm) (he : DE X F0 H0 W e f) (hdb : (nm == ("__debug__" : Str)) = false := by decide)
    (hs : starEach (e :: []) X.env = (false, eval e X.env) :: starEach [] X.env := by rfl) (hpl : (backTo pos (starEach [] X.env)).any (·.1) = false := by rfl) :
    DS X F0 H0 W (.Raise (some (.Call (.Name nm p) [e] [] pos)) none pos2) (gRaise1 nm f) := by
  refine PS.imp (ps_raise c.calm c.tk (pmk_oex T.ox T.iC T.tI F1 (c.room.mono hk) hb .nil passL hg T.g (pa_cons he pa_nil hs) hdb hs hpl)) fun D σ H ⟨ρ, F, sr, q⟩ => ?_
  obtain ⟨ρ1, F1', sr1, q1⟩ := fin_rd (R := Den X.K) sr q
  refine ⟨ρ1, F1', sr1, q1.imp fun v H1 F2 a g1 r1 kk => ?_⟩
  obtain ⟨d, F3, g3, r3, sr3, q3⟩ := kk v H1 F2 (.refl g1.fh) r1
  by_cases hf : flatD d = true
  · rw [if_pos hf] at q3
    have hv := r3.flat hf
    subst hv
    refine ⟨by show 1 ≤ 1000; decide, fun a ha => ⟨a, flatOf d, rfl, upd_same, fun dx h1 h2 => ⟨rfl, dx, [("at", flatOf d)], upd_same, ?_, ?_, ?_⟩⟩⟩
    · rw [upd_ne h2, upd_same]
    · rw [upd_ne h2] at h1; exact h1
    · have hdx : H1 dx = none := by rw [upd_ne h2] at h1; exact h1
      have eq : upd (del (upd (upd (upd H1 a (exo a C none)) dx (exd dx [("at", flatOf d)])) a (exo a C (some dx))) a) dx (.xd [("at", flatOf d)]) = upd H1 dx (.xd [("at", flatOf d)]) := by
        funext b
        by_cases hb : b = dx
        · rw [hb, upd_same, upd_same]
        · rw [upd_ne hb, upd_ne hb]
          by_cases hba : b = a
          · rw [hba, del_same, ha]
          · rw [del_ne hba, upd_ne hba, upd_ne hb, upd_ne hba]
      rw [eq]
      have g : Gr F3 H1 F3 (upd H1 dx (.xd [("at", flatOf d)])) := Gr.newO sr3.ex hdx
      exact q3 _ (some dx) σ _ F3 (sr3.grow g) (.refl _) ⟨T.g, .inr ⟨by simp, dx, rfl, upd_same, not_of_none sr3.ex hdx⟩⟩
  · rw [if_neg hf] at q3; exact q3.elim
end
/-! ### slots -/
section
variable {K : PySem.W.Frag} {F0 H0 : Hp} {ρ : Sls} {σ : L2.St} {H F : Hp}
theorem SR.setA (r : SR K F0 H0 ρ σ H F) (a : Addr) (i : Nat) : SR K F0 H0 (ρ.set i (.adr a)) (σ.set i (some (.ref a))) H F := by
  have ow : ∀ j b, OwnAt (ρ.set i (.adr a)) (σ.set i (some (.ref a))) j b → j ≠ i ∧ OwnAt ρ σ j b := fun j b ⟨⟨ds, e1⟩, e2⟩ => by
    by_cases hj : j = i
    · subst hj
      by_cases hl : j < ρ.length
      · rw [List.getElem?_set_self hl] at e1; cases e1
      · rw [List.getElem?_eq_none (by simpa using hl)] at e1; cases e1
    · rw [List.getElem?_set_ne (Ne.symm hj)] at e1 e2
      exact ⟨hj, ⟨ds, e1⟩, e2⟩
  refine ⟨r.gr, by simp [r.len], fun j s e => ?_, fun j b o => r.own0 j b (ow j b o).2, fun j k b o1 o2 => r.sep j k b (ow j b o1).2 (ow k b o2).2⟩
  by_cases hj : j = i
  · subst hj
    by_cases hl : j < ρ.length
    · rw [List.getElem?_set_self hl] at e; cases e
      rw [List.getElem?_set_self (by rw [← r.len]; exact hl)]
      rfl
    · rw [List.getElem?_eq_none (by simpa using hl)] at e; cases e
  · rw [List.getElem?_set_ne (Ne.symm hj)] at e ⊢
    exact r.sl j s e
/-- the base knows of an exception's dict -/
theorem SR.know (r : SR K F0 H0 ρ σ H F) {d : Addr} {fs : List (Str × V)} (h1 : H d = some (.xd fs)) (h2 : F d = none) : SR K F0 (upd H0 d (.xd fs)) ρ σ H F := by
  refine ⟨⟨r.gr.ff, fun b u q => ?_, r.gr.fh, fun b q1 q2 => ?_, fun b o u q1 => ?_⟩, r.len, r.sl, fun i b o => ?_, r.sep⟩
  · by_cases hb : b = d
    · rw [hb, upd_same] at q; cases q; rw [hb]; exact h1
    · rw [upd_ne hb] at q; exact r.gr.hh b u q
  · by_cases hb : b = d
    · rw [hb]; exact h2
    · rw [upd_ne hb] at q2; exact r.gr.nf b q1 q2
  · by_cases hb : b = d
    · rw [hb, upd_same] at q1; cases q1
    · rw [upd_ne hb] at q1; exact r.gr.nz b o u q1
  · have hne : b ≠ d := fun z => by
      obtain ⟨⟨ds, e1⟩, e2⟩ := o
      obtain ⟨b2, xs, e3, k1, _⟩ := r.sl i _ e1
      rw [e2] at e3
      have e4 : V.ref b = V.ref b2 := Option.some.inj (Option.some.inj e3)
      cases e4
      rw [z, h1] at k1
      cases k1
    rw [upd_ne hne]
    exact r.own0 i b o
theorem Gr.forget {F' H' : Hp} {d : Addr} {fs : List (Str × V)} (g : Gr F0 (upd H0 d (.xd fs)) F' H') (h0 : F0 d = none) (h1 : H0 d = none ∨ H0 d = some (.xd fs)) : Gr F0 H0 F' H' := by
  refine ⟨g.ff, fun b u q => ?_, g.fh, fun b q1 q2 => ?_, fun b o u q1 q2 => ?_⟩
  · by_cases hb : b = d
    · rw [hb] at q
      rcases h1 with h1 | h1
      · rw [h1] at q; cases q
      · rw [h1] at q; cases q; rw [hb]; exact g.hh d _ upd_same
    · exact g.hh b u (by rw [upd_ne hb]; exact q)
  · refine g.nf b q1 ?_
    by_cases hb : b = d
    · rw [hb, upd_same]; simp
    · rw [upd_ne hb]; exact q2
  · by_cases hb : b = d
    · have := g.nf d h0 (by rw [upd_same]; simp)
      rw [hb, this] at q2; cases q2
    · exact g.nz b o u (by rw [upd_ne hb]; exact q1) q2
end
/-! ### try: body, except C as n: a suite that returns -/
/-- what a clause of the class at C does with the classes of the table -/
def CatchT (K : PySem.W.Frag) (mg : Str → Option Value) (C : Addr) (tab : List (Str × Bool)) : Prop := ∀ nm b, tab.lookup nm = some b → ∃ A, mg nm = some (.ref A) ∧ PySem.W.exmOne K (.ref A) (.ref C) = some b
theorem catch_nil {K : PySem.W.Frag} {mg : Str → Option Value} {C : Addr} : CatchT K mg C [] := fun _ _ h => by cases h
theorem catch_cons {K : PySem.W.Frag} {mg : Str → Option Value} {C A : Addr} {nm : Str} {b : Bool} {tab : List (Str × Bool)} (h1 : mg nm = some (.ref A)) (h2 : PySem.W.exmOne K (.ref A) (.ref C) = some b) (h : CatchT K mg C tab) : CatchT K mg C ((nm, b) :: tab) := fun n b' e => by
  rw [List.lookup_cons] at e
  split at e
  · rename_i q
    have : n = nm := by simpa using q
    subst this
    cases e
    exact ⟨A, h1, h2⟩
  · exact h n b' e
noncomputable def gTryR (tab : List (Str × Bool)) (i : Nat) (g1 : Sls → Out) (g2 : Addr → Xn → Sls → Out) (ρ : Sls) : Out := match g1 ρ with
  | .exc x ρ1 => match tab.lookup x.nm with
    | some true => open Classical in if h : ∃ d, ∀ a, g2 a x (ρ1.set i (.adr a)) = .rt d then .rt h.choose else .bad
    | some false => .exc x ρ1
    | none => .bad
  | .nx ρ1 => .nx ρ1
  | .rt d => .rt d
  | .bk ρ1 => .bk ρ1
  | .ct ρ1 => .ct ρ1
  | .bad => .bad
/-- where the suite finds the exception's own dict -/
def XdOk (x : Xn) (d : Option Addr) (H : Hp) : Prop := (x.fs = [] ∧ d = none) ∨ ∃ dd, d = some dd ∧ H dd = some (.xd x.fs)
section
variable {X : Cx} {F0 H0 : Hp} {W : WX} {pos pos' np : Pos} {body suite : List Stmt} {b₀ : Stmt} {n cn : Str} {C : Addr} {i k : Nat} {g1 : Sls → Out} {g2 : Addr → Xn → Sls → Out} {tab : List (Str × Bool)}
theorem ds_tryR (c : Cz X W k) (hN : X.N.Nodup) (hi : X.N[i]? = some n) (gC : Gl X cn) (mC : X.mg cn = some (.ref C)) (T : CatchT X.K X.mg C tab)
    (hb : ∀ (W' : WX) (pn : List (Addr × Obj)) (xe : Value → Shared → Prop), Cz (X.tr pn xe) W' k → DSs (X.tr pn xe) F0 H0 W' body g1)
    (hsu : ∀ (a : Addr) (oe : Obj) (cls : Value) (d : Option Addr) (pn : List (Addr × Obj)) (x : Xn) (H1 : Hp), Zc cls d oe → (∃ vs, oe.data = .fields vs) → X.mg x.nm = some cls → XdOk x d H1 → DSs (X.suite a ((a, oe) :: pn)) F0 H1 WF (b₀ :: suite) (g2 a x))
    (hs : X.stack = X.env :: X.outer := by rfl) (hf : X.env.frame = some X.env.locals := by rfl) (hln : X.env.kindOf n = some .local := by rfl) (hdb : (cn == ("__debug__" : Str)) = false := by decide) :
    DS X F0 H0 W (.Try body [.ExceptHandler (some (.Name cn np)) (some n) (b₀ :: suite) pos'] [] [] pos) (gTryR tab i g1 g2) := by
  refine PS.imp (ps_try_as (c := .ref C) (tb := fun W' => sOf X.mg X.K F0 H0 W' g1) (ts := fun a cls d => fun D σ H => ∃ (x : Xn) (H1 : Hp), X.mg x.nm = some cls ∧ XdOk x d H1 ∧ sOf X.mg X.K F0 H1 WF (g2 a x) D σ H) hs hf hN hi hln ⟨gC, hdb, .inl mC⟩ c.tk
    (fun W' pn xe tk po => hb W' pn xe ⟨c.calm, tk, po, c.room⟩) (fun a oe cls d pn hz hfl => ⟨fun pins s σ H D I ⟨x, H1, q1, q2, q3⟩ => (hsu a oe cls d pn x H1 hz hfl q1 q2).run pins s σ H D I q3⟩)) fun D σ H ⟨ρ, F, sr, q⟩ => ⟨ρ, F, sr, ?_⟩
  unfold gTryR at q
  cases e : g1 ρ with
  | nx ρ1 => rw [e] at q; exact q
  | rt d => rw [e] at q; exact q
  | bk ρ1 => rw [e] at q; exact q
  | ct ρ1 => rw [e] at q; exact q
  | bad => rw [e] at q; exact q
  | exc x ρ1 =>
    rw [e] at q
    simp only at q
    intro cls dd σ' H' F' sr' ex' r'
    cases e2 : tab.lookup x.nm with
    | none => rw [e2] at q; exact q.elim
    | some b =>
      rw [e2] at q
      obtain ⟨A, hA, hm⟩ := T x.nm b e2
      have hcls : cls = .ref A := by have := r'.1; rw [hA] at this; exact (Option.some.inj this).symm
      subst hcls
      refine ⟨b, hm, fun hbt a ha => ?_, fun hbf => ?_⟩
      · subst hbt
        simp only at q
        split at q
        · rename_i h
          have hrt := h.choose_spec a
          have sr2 := sr'.setA a i
          rcases r'.2 with ⟨h1, h2⟩ | ⟨h1, d, h2, h3, h4⟩
          · refine ⟨x, H0, r'.1, .inl ⟨h1, h2⟩, _, F', sr2, ?_⟩
            rw [hrt]
            exact fun v H2 F2 gr x2 dn => q v H2 F2 gr (ex'.trans x2) dn
          · have hF0 : F0 d = none := by
              cases z : F0 d with
              | none => rfl
              | some u => rw [sr'.gr.ff d u z] at h4; cases h4
            have hH0 : H0 d = none ∨ H0 d = some (.xd x.fs) := by
              cases z : H0 d with
              | none => exact .inl rfl
              | some u => rw [sr'.gr.hh d u z] at h3; exact .inr h3
            refine ⟨x, upd H0 d (.xd x.fs), r'.1, .inr ⟨d, h2, upd_same⟩, _, F', sr2.know h3 h4, ?_⟩
            rw [hrt]
            exact fun v H2 F2 gr x2 dn => q v H2 F2 (gr.forget hF0 hH0) (ex'.trans x2) dn
        · exact q.elim
      · subst hbf
        simp only at q
        exact q _ dd σ' H' F' sr' ex' r'
end
/-! ### what a suite asks of its exception -/
def onAdr (i : Nat) (a : Addr) (r : Res PyData) (ρ : Sls) : Res PyData := match ρ[i]? with
  | some (.adr a') => if a' = a then r else .bad
  | _ => .bad
/-- isinstance(e, cv) -/
def IsT (K : PySem.W.Frag) (mg : Str → Option Value) (cv : Value) (tab : List (Str × Bool)) : Prop := ∀ nm b, tab.lookup nm = some b → ∃ A, mg nm = some (.ref A) ∧ ExcC K A ∧ PySem.W.kitOne K (.ref A) cv = some b
theorem is_nil {K : PySem.W.Frag} {mg : Str → Option Value} {cv : Value} : IsT K mg cv [] := fun _ _ h => by cases h
theorem is_cons {K : PySem.W.Frag} {mg : Str → Option Value} {cv : Value} {A : Addr} {nm : Str} {b : Bool} {tab : List (Str × Bool)} (h1 : mg nm = some (.ref A)) (h2 : ExcC K A) (h3 : PySem.W.kitOne K (.ref A) cv = some b) (h : IsT K mg cv tab) : IsT K mg cv ((nm, b) :: tab) := fun n b' e => by
  rw [List.lookup_cons] at e
  split at e
  · rename_i q
    have : n = nm := by simpa using q
    subst this
    cases e
    exact ⟨A, h1, h2, h3⟩
  · exact h n b' e
def dIsE (i : Nat) (a : Addr) (tab : List (Str × Bool)) (x : Xn) (ρ : Sls) : Res PyData := onAdr i a (match tab.lookup x.nm with
  | some b => .ok (.bool b)
  | none => .bad) ρ
/-- e.at -/
def AtT (K : PySem.W.Frag) (mg : Str → Option Value) (tab : List Str) : Prop := ∀ nm ∈ tab, ∃ A, mg nm = some (.ref A) ∧ XfC K A ∧ PySem.W.findIn K (.ref A) "at" = some none
theorem at_cons {K : PySem.W.Frag} {mg : Str → Option Value} {A : Addr} {nm : Str} {tab : List Str} (h1 : mg nm = some (.ref A)) (h2 : XfC K A) (h3 : PySem.W.findIn K (.ref A) "at" = some none) (h : AtT K mg tab) : AtT K mg (nm :: tab) := fun n hn => by
  rcases List.mem_cons.mp hn with rfl | hn
  · exact ⟨A, h1, h2, h3⟩
  · exact h n hn
def dOfV : V → Res PyData
  | .non => .ok .none
  | .bl b => .ok (.bool b)
  | .int i => .ok (.int i)
  | .str x => .ok (.str x)
  | _ => .bad
def dAt (i : Nat) (a : Addr) (tab : List Str) (x : Xn) (ρ : Sls) : Res PyData := onAdr i a (if x.nm ∈ tab then (match x.fs.lookup ("at" : Str) with
  | some v => dOfV v
  | none => .bad) else .bad) ρ
section
variable {X : Cx} {F0 H1 : Hp} {pos p p1 p2 pa : Pos} {a : Addr} {oe : Obj} {cls : Value} {d : Option Addr} {pn : List (Addr × Obj)} {x : Xn} {n cn : Str} {i : Nat} {tab : List (Str × Bool)} {cv : Value}
theorem adr_run {σ : L2.St} {H : Hp} {Q : VK} {r : Res PyData} {mg : Str → Option Value} {K : PySem.W.Frag} (h : rd mg K F0 H1 WF (Den K) (onAdr i a r) σ H Q) : σ[i]? = some (some (.ref a)) ∧ ∃ ρ F, SR K F0 H1 ρ σ H F ∧ Rest mg WF (Den K) r σ H F Q := by
  obtain ⟨ρ, F, sr, q⟩ := h
  unfold onAdr at q
  cases e : ρ[i]? with
  | none => rw [e] at q; exact q.elim
  | some s =>
    rw [e] at q
    cases s with
    | adr a' =>
      simp only at q
      by_cases ha : a' = a
      · rw [if_pos ha] at q
        subst ha
        exact ⟨sr.sl i _ e, ρ, F, sr, q⟩
      · rw [if_neg ha] at q; exact q.elim
    | _ => exact q.elim
theorem inst_of {pins : List (Addr × Obj)} {s : Shared} {σ : L2.St} {H : Hp} {A : Addr} {F : Hp} {ρ : Sls} {σ0 : L2.St} (hz : Zc (.ref A) d oe) (hf : ∃ vs, oe.data = .fields vs) (xd : XdOk x d H1) (I : Inv (X.suite a ((a, oe) :: pn)) pins σ H s) (sr : SR X.K F0 H1 ρ σ0 H F) : ∃ od, PySem.W.InstAt s.heap a oe A od := by
  obtain ⟨hget, _⟩ := I.pin (a, oe) (List.mem_append.mpr (.inl List.mem_cons_self))
  obtain ⟨vs, hv⟩ := hf
  rcases xd with ⟨_, hd⟩ | ⟨dd, hd, hx⟩
  · exact ⟨none, hget, hz.1, by unfold PySem.W.notCls; rw [hv] <;> rfl, by rw [hz.2, hd]; exact trivial⟩
  · have ho : ObjOk X.prog X.w H s.heap dd (.xd x.fs) := I.hok dd _ (sr.gr.hh dd _ hx)
    obtain ⟨mA, hns, _⟩ := ho
    obtain ⟨od, ho, _⟩ := lookIn_ns hns
    exact ⟨some od, hget, hz.1, by unfold PySem.W.notCls; rw [hv] <;> rfl, by rw [hz.2, hd]; exact ho⟩
def rIsX (K : PySem.W.Frag) (F0 H1 : Hp) (A a : Addr) : List V → Hp → VK → Prop := fun xs H Q => ∃ (c : V) (cv : Value) (b : Bool) (ρ : Sls) (σ : L2.St) (F : Hp), xs = [.ref a, c] ∧ (∀ u, RelV c u → u = cv) ∧ PySem.W.kitOne K (.ref A) cv = some b ∧ SR K F0 H1 ρ σ H F ∧ Q (.bl b) H
theorem call_isX {A : Addr} (T : ExcC X.K A) (hz : Zc (.ref A) d oe) (hf : ∃ vs, oe.data = .fields vs) (xd : XdOk x d H1) : CallR (X.suite a ((a, oe) :: pn)) (.builtin "isinstance") (rIsX X.K F0 H1 A a) := by
  intro pins s σ H xs us Q I r h
  obtain ⟨c, cv, b, ρ, σ0, F, rfl, hcv, e, sr, q⟩ := h
  cases r with
  | cons rx rr =>
    cases rr with
    | cons rt rr =>
      cases rr
      cases rx
      have ec := hcv _ rt
      subst ec
      have hcl : (PySem.W.clsIn X.K A).isSome = true := by
        have := T.hd
        unfold PySem.W.hasDictIn at this
        cases z : PySem.W.clsIn X.K A with
        | none => rw [z] at this; cases this
        | some _ => rfl
      obtain ⟨od, J⟩ := inst_of hz hf xd I sr
      exact PySem.W.kia_one (PySem.W.kitx_exc hcl T.hg T.hk T.hs T.ha T.hn T.ht T.hm) I.kIn J e (fun z => nomatch z) fun tk => ⟨.bl b, H, I.kept (t' := tk) fun _ _ z => z, rfl, q⟩
theorem de_isE {cX : Expr} {vc : V} (T : IsT X.K X.mg cv tab) (hz : Zc cls d oe) (hf : ∃ vs, oe.data = .fields vs) (hx : X.mg x.nm = some cls) (xd : XdOk x d H1) (hv : PE (X.suite a ((a, oe) :: pn)) (.Name n p1) (tVar i)) (hc : PE (X.suite a ((a, oe) :: pn)) cX (tC vc)) (hcv : ∀ u, RelV vc u → u = cv)
    (hg : Gl (X.suite a ((a, oe) :: pn)) "isinstance") (hm : X.mg "isinstance" = none)
    (h1 : starEach [cX] X.env = (false, eval cX X.env) :: starEach [] X.env := by rfl)
    (he : starEach [.Name n p1, cX] X.env = (false, eval (.Name n p1) X.env) :: starEach [cX] X.env := by rfl) (hpl : (backTo pos (starEach [cX] X.env)).any (·.1) = false := by rfl) :
    DE (X.suite a ((a, oe) :: pn)) F0 H1 WF (.Call (.Name "isinstance" p) [.Name n p1, cX] [] pos) (dIsE i a tab x) := by
  cases e2 : tab.lookup x.nm with
  | none =>
    refine ⟨fun pins s σ H Q I h => ?_⟩
    obtain ⟨_, ρ, F, sr, q⟩ := adr_run (show rd X.mg X.K F0 H1 WF (Den X.K) (onAdr i a _) σ H Q from h)
    rw [e2] at q
    exact q.elim
  | some b =>
    obtain ⟨A, hA, hE, hk⟩ := T x.nm b e2
    have hcls : cls = .ref A := by rw [hA] at hx; exact (Option.some.inj hx).symm
    subst hcls
    refine PE.imp (pe_callB (call_isX (F0 := F0) hE hz hf xd) hg hm (by decide +kernel) (pa_cons hv (pa_cons hc pa_nil h1) he) (by decide) (by decide) he hpl) fun σ H Q h => ?_
    obtain ⟨hs, ρ, F, sr, q⟩ := adr_run (show rd X.mg X.K F0 H1 WF (Den X.K) (onAdr i a _) σ H Q from h)
    rw [e2] at q
    exact ⟨.ref a, hs, vc, cv, b, ρ, σ, F, rfl, hcv, hk, sr, q (.bl b) H F (.refl sr.ex) (.bl b)⟩
theorem de_at {ats : List Str} (T : AtT X.K X.mg ats) (hz : Zc cls d oe) (hf : ∃ vs, oe.data = .fields vs) (hx : X.mg x.nm = some cls) (xd : XdOk x d H1) (hv : PE (X.suite a ((a, oe) :: pn)) (.Name n p1) (tVar i)) (hb : attributeBase (.Name n p1) "at" X.env (eval (.Name n p1) X.env) = eval (.Name n p1) X.env := by rfl) :
    DE (X.suite a ((a, oe) :: pn)) F0 H1 WF (.Attribute (.Name n p1) "at" pos) (dAt i a ats x) := by
  by_cases hm : x.nm ∈ ats
  · obtain ⟨A, hA, hX, hno⟩ := T x.nm hm
    have hcls : cls = .ref A := by rw [hA] at hx; exact (Option.some.inj hx).symm
    subst hcls
    refine PE.imp (pe_xf hX hno hz hf hv hb) fun σ H Q h => ?_
    obtain ⟨hs, ρ, F, sr, q⟩ := adr_run (show rd X.mg X.K F0 H1 WF (Den X.K) (onAdr i a _) σ H Q from h)
    rw [if_pos hm] at q
    refine ⟨.ref a, hs, rfl, rfl, ?_⟩
    cases e : x.fs.lookup ("at" : Str) with
    | none => rw [e] at q; exact q.elim
    | some v =>
      rw [e] at q
      rcases xd with ⟨h1, _⟩ | ⟨dd, hd, hH⟩
      · rw [h1] at e; cases e
      · refine ⟨dd, x.fs, v, hd, sr.gr.hh dd _ hH, e, ?_⟩
        cases v with
        | non => exact q .non H F (.refl sr.ex) .non
        | bl b => exact q (.bl b) H F (.refl sr.ex) (.bl b)
        | int n => exact q (.int n) H F (.refl sr.ex) (.int n)
        | str z => exact q (.str z) H F (.refl sr.ex) (.str z)
        | _ => exact q.elim
  · refine ⟨fun pins s σ H Q I h => ?_⟩
    obtain ⟨_, ρ, F, sr, q⟩ := adr_run (show rd X.mg X.K F0 H1 WF (Den X.K) (onAdr i a _) σ H Q from h)
    rw [if_neg hm] at q
    exact q.elim
end
/-! ### the classes' facts, as they are asked -/
def exTop (K : PySem.W.Frag) (C : Addr) : Bool := decide (PySem.W.findIn K (.ref C) "__getattribute__" = some (some (.builtin "BaseException.__getattribute__"))) && decide (PySem.W.findIn K (.ref C) "__getattr__" = some none) && decide (PySem.W.subIn K (.ref C) (.type "BaseException") = some true) && PySem.W.hasDictIn K C &&
  decide (PySem.W.findIn K (.ref C) "__class__" = some (some (.builtin "object.__class__"))) && decide (PySem.W.specialIn K (.builtin "object.__class__") "__get__" = some (some (.builtin "getset_descriptor.__get__"))) && decide (PySem.W.takesIn K (.builtin "object.__class__") = some true) && decide (PySem.W.mroIn K C (.type "object") = some true)
theorem exTop_c {K : PySem.W.Frag} {C : Addr} (h : exTop K C = true) : ExcC K C ∧ XfC K C := by
  simp only [exTop, Bool.and_eq_true, decide_eq_true_eq] at h
  obtain ⟨⟨⟨⟨⟨⟨⟨h1, h2⟩, h3⟩, h4⟩, h5⟩, h6⟩, h7⟩, h8⟩ := h
  exact ⟨⟨h1, h2, h3, h4, h5, h6, h7, h8⟩, ⟨h1, h2, h3, h4⟩⟩
end DL

/-! DL15: extend; sorted of flat alike items; dicts that a comprehension makes, keys of one kind (numbers and texts, or truth values). -/
namespace DL
open PySem PySem.Spec PyProof.Rows L2

/-! ### a kind of keys, as the rules want it -/
structure KyK (P : Program) (w : World) (κ : Type) [DecidableEq κ] where
  knd : PySem.KeyKind P w κ
  kv : κ → V
  ob : Addr → List (κ × V) → HO
  is : ∀ {k : κ} {u : Value}, RelV (kv k) u → knd.is k u = true
  back : ∀ {k : κ} {u : Value}, knd.is k u = true → RelV (kv k) u
  mu : ∀ (a : Addr) (kvs : List (κ × V)), Mut (some (ob a kvs))
  un : ∀ {H : Hp} {h : Heap} {a : Addr} {kvs : List (κ × V)}, ObjOk P w H h a (ob a kvs) → kvs.length ≤ sizeLine ∧ (a == sysModules) = false ∧ ∃ vs, KV kvs vs ∧ h.DictOf knd a vs
  make : ∀ {H : Hp} {h : Heap} {a : Addr} {kvs : List (κ × V)} {vs : List (κ × Value)}, kvs.length ≤ sizeLine → (a == sysModules) = false → KV kvs vs → h.DictOf knd a vs → ObjOk P w H h a (ob a kvs)
theorem kV_back {P : Program} {w : World} {k : Key} {u : Value} (h : (mixKind P w).is k u = true) : RelV (kV k) u := by
  rcases keyIs_shape h with ⟨i, t, rfl, rfl⟩ | ⟨x, t, rfl, rfl⟩
  · exact ⟨t, rfl⟩
  · exact ⟨t, rfl⟩
def mixKy (P : Program) (w : World) : KyK P w Key where
  knd := mixKind P w
  kv := kV
  ob := fun _ kvs => .dK kvs
  is := fun r => kV_is r
  back := fun h => kV_back h
  mu := fun _ _ => True.intro
  un := fun h => h
  make := fun z hd rel dd => ⟨z, hd, _, rel, dd⟩
/-- the kind of truth values leans on no world -/
theorem boolPairs {P P' : Program} {w w' : World} {es : List DictEntry} {vs : List (Bool × Value)} (h : Pairs (PpSet.boolK P w) es vs) : Pairs (PpSet.boolK P' w') es vs := by
  induction h with
  | nil => exact .nil
  | cons a b _ ih => exact .cons a b ih
theorem boolDict {P P' : Program} {w w' : World} {h : Heap} {a : Addr} {vs : List (Bool × Value)} (x : h.DictOf (PpSet.boolK P w) a vs) : h.DictOf (PpSet.boolK P' w') a vs := by
  obtain ⟨o, es, ep, e1, e2, e3, e4, e5, e6⟩ := x
  exact ⟨o, es, ep, e1, e2, e3, e4, boolPairs e5, e6⟩
def boolKy (P : Program) (w : World) : KyK P w Bool where
  knd := PpSet.boolK P w
  kv := .bl
  ob := fun a kvs => .ext (BDict a kvs)
  is := fun {k u} r => by
    have e : u = .bool k := r
    rw [e]; exact PpSet.boolK_is P w k
  back := fun {k u} h => PpSet.isB_shape h
  mu := fun _ _ => True.intro
  un := fun ⟨⟨z, hd, vs, rel, dd⟩, _⟩ => ⟨z, hd, vs, rel, dd P w⟩
  make := fun {H h a kvs vs} z hd rel dd => by
    refine ⟨⟨z, hd, vs, rel, fun P' w' => boolDict dd⟩, let ⟨o, _, _, e, _⟩ := dd; ⟨o, e⟩, fun h1 h2 ⟨z, hd, vs, rel, dd⟩ k => ⟨z, hd, vs, rel, fun P w => ?_⟩⟩
    obtain ⟨o, es, ep, e, r⟩ := dd P w
    exact ⟨o, es, ep, k o e, r⟩

section
variable {X : Cx} {κ : Type} [DecidableEq κ]
theorem gd_put {pins : List (Addr × Obj)} {σ : L2.St} {H : Hp} {s : Shared} {E : Value → Shared → Prop} (T : KyK X.prog X.w κ) {D : Addr} {kvs : List (κ × V)} {k : κ} {v : V} {u r : Value} {Q : Unit → Shared → Prop}
    (I : Inv X pins σ H s) (hD : H D = some (T.ob D kvs)) (hz : kvs.length < sizeLine) (ry : RelV (T.kv k) u) (rv : RelV v r)
    (q : ∀ s', Inv X pins σ (upd H D (T.ob D (putK kvs k v))) s' → Q () s') : wpAny (model X.prog X.w) X.A (dictSet D u r) Q E s := by
  obtain ⟨z, hd, vs, rel, dd⟩ := T.un (I.hok D _ hD)
  have l1 : vs.length ≤ sizeLine := by rw [← rel.length]; exact z
  have l2 := length_putK kvs k v
  refine wpAny_dictSet_pairs (hsz := l1) (T.is ry) dd fun hp dp sb => q _ ?_
  have mu : Mut (H D) := by rw [hD]; exact T.mu D kvs
  exact d_write I mu sb (by obtain ⟨o, _, _, e, _⟩ := dp; exact ⟨o, e⟩) (T.make (by omega) hd (rel.put k rv) dp)
/-- the turns of {k: v for tg in iter}, the dict at D -/
def GT (ob : Addr → List (κ × V) → HO) (kv : κ → V) (g : TG) (tk tv : TE) (vs : List Nat) (σ : L2.St) (J : It) (D : Addr) (H1 : Hp) (Qd : Hp → Prop) : Prop :=
  ∃ W : Nat → Nat → Hp → Prop, (∃ m, W 0 m (upd H1 D (ob D []))) ∧ ∀ i m H, W i m H →
    (J.stop i H ∧ Qd H) ∨ (J.go i H ∧ ∃ Nx : Hp → Prop, (∀ H', Nx H' → ∃ m', m' < m ∧ W (i + 1) m' H') ∧ ∀ x H', J.yld i H x H' → g x (wipe σ vs) H' fun σ2 H2 => wipe σ2 vs = wipe σ vs ∧
      tk σ2 H2 fun y H4 => tv σ2 H4 fun z H5 => ∃ kvs k, y = kv k ∧ H5 D = some (ob D kvs) ∧ kvs.length < sizeLine ∧ Nx (upd H5 D (ob D (putK kvs k z))))
def tGc (ob : Addr → List (κ × V) → HO) (kv : κ → V) (wi : TI) (g : TG) (tk tv : TE) (vs : List Nat) : TE := fun σ H Q => wi σ H fun J H1 => ∀ D, H1 D = none → GT ob kv g tk tv vs σ J D H1 (Q (.ref D))
section
variable {pins : List (Addr × Obj)} {s : Shared} {σ : L2.St} {H : Hp} {kx vx tg iter : Expr} {scope : Scope} {own : List (Str × Nat)} {pos pos' : Pos} {wi : TI} {g : TG} {tk tv : TE}
/-- the loop, in the block's own context -/
theorem gc_loop {Y : Cx} (T : KyK Y.prog Y.w κ) {D it : Addr} {fp : List Addr} {tn : Nat → Heap → Prop} {J : It} {us : List Nat} {H1 : Hp} {Qd : Hp → Prop} {R : Result → Shared → Prop} (hc : Y.calm = true) (tr : Turn Y.prog Y.w Y.K tg J fp it tn)
    (pg : PG Y tg g) (pk : PE Y kx tk) (pv : PE Y vx tv) (hf : ∀ {σ' : L2.St} {H' : Hp} {s' : Shared}, Inv Y [] σ' H' s' → (∀ b ∈ fp, H' b = none) → ∀ b ∈ fp, FpOk Y [] H' b) (hxe : Y.xe = fun _ _ => False)
    (q : GT T.ob T.kv g tk tv us σ J D H1 Qd) (I : Inv Y [] (wipe σ us) (upd H1 D (T.ob D [])) s) (st : tn 0 s.heap) (nf : ∀ b ∈ fp, upd H1 D (T.ob D []) b = none)
    (fin : ∀ s' H', Inv Y [] (wipe σ us) H' s' → Qd H' → R (.ok .next) s') :
    codeAny (model Y.prog Y.w) Y.A (.compLoop (.DictComp kx vx [⟨tg, iter, [], 0⟩] scope pos) 0 (.ref it) (.ref D) Y.env) R s := by
  obtain ⟨W, ⟨m0, w0⟩, turn⟩ := q
  refine compLoop_anyD (fun n s' => ∃ i H', Inv Y [] (wipe σ us) H' s' ∧ tn i s'.heap ∧ (∀ b ∈ fp, H' b = none) ∧ W i n H') ?_ m0 ⟨0, _, I, st, nf, w0⟩
  rintro n s5 ⟨i, H5, I5, st5, n5, w5⟩
  rcases turn i n H5 w5 with ⟨stop, qq⟩ | ⟨go, Nx, hNx, step⟩
  · refine thnF (tr.done Y rfl rfl rfl hc i [] s5 _ H5 (fun _ _ => False) I5 (hf I5 n5) st5 stop) fun r s6 ⟨hr, I6⟩ => ?_
    rw [hr]
    exact fin s6 H5 I6 qq
  · refine thnF (tr.item Y rfl rfl rfl hc i [] s5 _ H5 (fun _ _ => False) I5 (hf I5 n5) st5 go) fun r s6 ⟨u, hr, h6⟩ => ?_
    rw [hr]
    refine thnF h6 fun _ s7 ⟨x, H7, I7, r7, y7, st7, n7⟩ => ?_
    have I8 := I7.pinned (hf I7 n7) (tr.obj _ _ st7)
    have gg := pg.run _ s7 _ H7 x u _ I8 r7 (step x H7 y7)
    rw [hxe] at gg
    refine thnF gg fun _ s8 ⟨σ8, H8, J8, hw8, q8⟩ => ?_
    show wpAny _ _ (pure true) _ _ s8
    refine wpAny_pure ?_
    rw [if_pos rfl]
    have kk := pk.run _ s8 σ8 H8 _ J8 q8
    rw [hxe] at kk
    refine thnF kk fun z s9 ⟨yk, H9, I9, r9, q9⟩ => ?_
    have vv := pv.run _ s9 σ8 H9 _ I9 q9
    rw [hxe] at vv
    refine thnF vv fun z2 s10 ⟨yv, H10, I10, r10, kvs, k, ek, hD10, hz10, nx⟩ => ?_
    rw [ek] at r9
    refine gd_put T I10 hD10 hz10 r9 r10 fun s11 I11 => ?_
    obtain ⟨m', hm, w'⟩ := hNx _ nx
    have pin' : ∀ b ∈ fp, ∀ o, s7.heap.get? b = some o → s11.heap.get? b = some o ∧ upd H10 D (T.ob D (putK kvs k yv)) b = none := fun b hb o e =>
      have z := I11.pin (b, o) (List.mem_append_right _ (List.mem_append_right _ (mem_pinsAt hb e)))
      ⟨z.1, z.2.1⟩
    have lenE : (wipe σ us).length = σ8.length := by rw [← hw8, wipe_length]
    refine ⟨m', hm, i + 1, _, (I11.unpinned (pins := [])).weak lenE (fun j v e => ?_), tr.keep _ _ _ st7 fun b hb o e => (pin' b hb o e).1, fun b hb => ?_, w'⟩
    · rw [← hw8] at e
      exact (wipe_some e).1
    · obtain ⟨o, e, _⟩ := tr.obj _ _ st7 b hb
      exact (pin' b hb o e).2
theorem gd_empty (T : KyK X.prog X.w κ) {H : Hp} (h : Heap) (hb : sysModules < h.objs.size) : ObjOk X.prog X.w H (h.push { cls := .type "dict", data := .dict #[] }) h.objs.size (T.ob h.objs.size []) :=
  T.make (Nat.zero_le _) (by simpa using Nat.ne_of_gt hb) .nil (Heap.DictOf.new h)
theorem gc_core (T : KyK X.prog X.w κ) {Q : VK} {use : Option (Value → Sem Unit)} {Qf : Value → Shared → Prop} (hc : X.calm = true) (hN : X.N.Nodup) (I : Inv X pins σ H s) (hi : PI X tg iter wi) (ok : BlkOk X.N X.env.scope scope own)
    (hg : ∀ (s : Shared) (H : Hp) (C : Addr) (cl : List (Str × Addr)) (fp : List Addr), PG (X.blk s H scope (compEnvC scope cl C X.env) fp) tg g)
    (hk : ∀ (s : Shared) (H : Hp) (C : Addr) (cl : List (Str × Addr)) (fp : List Addr), PE (X.blk s H scope (compEnvC scope cl C X.env) fp) kx tk)
    (hv : ∀ (s : Shared) (H : Hp) (C : Addr) (cl : List (Str × Addr)) (fp : List Addr), PE (X.blk s H scope (compEnvC scope cl C X.env) fp) vx tv) (hs : ∀ x, foldedSetIterable iter X.env x = pure x)
    (h : tGc T.ob T.kv wi g tk tv (own.map (·.2)) σ H Q)
    (hRR : ∀ D C s' m H', Inv X pins σ H' s' → Q (.ref D) H' → s'.heap.Ns C m → FpOk X pins H' C → compPost (model X.prog X.w) X.A X.xe use Qf (.ref D) C (.ok .next) s') :
    wpAny (model X.prog X.w) X.A (comprehension (.DictComp kx vx [⟨tg, iter, [], 0⟩] scope pos) scope X.env pos' newDict false (eval iter X.env) use) Qf X.xe s := by
  have closed : ∀ y ∈ scope.names, y.2 = .free → ∃ c, X.env.cells.lookup y.1 = some c := by
    intro y hy e
    cases ok.free y hy e with
    | inl k => exact I.ok.has _ (.inl k)
    | inr k => exact I.ok.has _ (.inr k)
  have one : ∀ y ∈ scope.names, scope.names.lookup y.1 = some y.2 := fun y hy => ok.uniq y hy
  refine wpAny_comprehension_free (use := use) rfl hs (closure_ok closed) ok.kind (fun y hy e => by rw [one y hy, e]) (thn (hi.run pins s σ H _ I h) fun xv s1 hx => thn hx fun itv s2 w2 => ?_)
  obtain ⟨it, fp, tn, J, H2, e2, I2, tr, st2, f2, q2⟩ := w2
  rw [e2]
  refine wpAny_newObj_type (newEnv_comp ?_)
  have hDn : H2 s2.heap.objs.size = none := I2.hok.fresh (Nat.le_refl _)
  have q3 := q2 s2.heap.objs.size hDn
  have I3 : Inv X pins σ (upd H2 s2.heap.objs.size (T.ob s2.heap.objs.size [])) { s2 with heap := s2.heap.push { cls := .type "dict", data := .dict #[] } } :=
    I2.laid (t' := s2.toks) (fun b o e => Heap.get?_push_of_some _ e) (Nat.le_refl _) (gd_empty T s2.heap I2.big)
  have small : ∀ b ∈ fp, b < s2.heap.objs.size := fun b hb => by
    obtain ⟨o, e, _⟩ := tr.obj _ _ st2 b hb
    exact Heap.lt_size e
  have st3 : tn 0 (s2.heap.push { cls := .type "dict", data := .dict #[] }) := tr.keep _ _ _ st2 fun b _ o e => Heap.get?_push_of_some _ e
  generalize hD : s2.heap.objs.size = D at *
  generalize hs3 : ({ s2 with heap := s2.heap.push { cls := .type "dict", data := .dict #[] } } : Shared) = s3 at *
  have e3 : s3.heap = s2.heap.push { cls := .type "dict", data := .dict #[] } := by rw [← hs3]
  rw [← e3] at st3
  generalize hH3 : upd H2 D (T.ob D []) = H3 at *
  have f3 : ∀ b ∈ fp, FpOk X pins H3 b ∧ b < s3.heap.objs.size := fun b hb => by
    have lt := small b hb
    refine ⟨⟨?_, (f2 b hb).2⟩, by rw [e3, Heap.size_push, hD]; exact Nat.lt_succ_of_lt lt⟩
    rw [← hH3, upd_ne (Nat.ne_of_lt lt)]
    exact (f2 b hb).1
  have I4 := block_start I3 ok hN f3
  have nfp : ∀ b ∈ fp, H3 b = none := fun b hb => (f3 b hb).1.1
  have pg := hg s3 H3 s3.heap.objs.size (cellsFrom (s3.heap.objs.size + 1) scope.names (cloFrom X.env.cells scope.names [])) fp
  have pk := hk s3 H3 s3.heap.objs.size (cellsFrom (s3.heap.objs.size + 1) scope.names (cloFrom X.env.cells scope.names [])) fp
  have pv := hv s3 H3 s3.heap.objs.size (cellsFrom (s3.heap.objs.size + 1) scope.names (cloFrom X.env.cells scope.names [])) fp
  show codeAny _ _ (.compStart (.DictComp kx vx [⟨tg, iter, [], 0⟩] scope pos) 0 (.ref it) (.ref D) (compEnvC scope (cellsFrom (s3.heap.objs.size + 1) scope.names (cloFrom X.env.cells scope.names [])) s3.heap.objs.size X.env))
    (compPost (model X.prog X.w) X.A X.xe use Qf (.ref D) s3.heap.objs.size) { s3 with heap := pushCells (s3.heap.push { cls := .type "dict", data := .dict #[] }) scope.names }
  have cL : (compEnvC scope (cellsFrom (s3.heap.objs.size + 1) scope.names (cloFrom X.env.cells scope.names [])) s3.heap.objs.size X.env).locals = s3.heap.objs.size := rfl
  generalize compEnvC scope (cellsFrom (s3.heap.objs.size + 1) scope.names (cloFrom X.env.cells scope.names [])) s3.heap.objs.size X.env = ce at I4 pg pk pv cL ⊢
  have st4 : tn 0 ({ s3 with heap := pushCells (s3.heap.push { cls := .type "dict", data := .dict #[] }) scope.names } : Shared).heap := tr.keep _ _ _ st3 fun b _ o e => pushCells_keeps _ _ _ _ (Heap.get?_push_of_some _ e)
  generalize ({ s3 with heap := pushCells (s3.heap.push { cls := .type "dict", data := .dict #[] }) scope.names } : Shared) = s4 at I4 st4 ⊢
  have stat : ∀ {σ' : L2.St} {H' : Hp} {s' : Shared}, Inv (X.blk s3 H3 scope ce fp) [] σ' H' s' → (∀ b ∈ fp, H' b = none) → ∀ b ∈ fp, FpOk (X.blk s3 H3 scope ce fp) [] H' b := fun {σ' H' s'} I' hn b hb =>
    ⟨hn b hb, (I'.ok.exf b hb).1, I'.ok.exfs b hb, .inl hb, fun x c e => (I'.ok.exf b hb).2 x c e, fun p hp => absurd (show p ∈ ([] : List (Addr × Obj)) ++ [] from hp) (by simp)⟩
  subst hH3
  have loop := gc_loop (Y := X.blk s3 _ scope ce fp) (kx := kx) (vx := vx) (tg := tg) (iter := iter) (scope := scope) (pos := pos) (R := compPost (model X.prog X.w) X.A X.xe use Qf (.ref D) s3.heap.objs.size) T hc tr pg pk pv stat rfl q3 I4 st4 nfp (fun s6 H5 I6 qq => ?_)
  · exact codeAny_compStart_dict loop (tr.self X.A 0 _ _ _ st4 loop)
  · have I7 : Inv X pins σ H5 s6 := I3.call' (ch := fp) I6.os I6.base I6.hok I6.bare fun b hb => ⟨(f3 b hb).1.2.2.2.1, (f3 b hb).1.2.1, (f3 b hb).1.2.2.2.2.1, (f3 b hb).1.2.2.2.2.2⟩
    have nC : H5 s3.heap.objs.size = none := by
      have z : H5 ce.locals = none := I6.free
      rw [cL] at z
      exact z
    obtain ⟨m, hn, _⟩ := I6.loc
    have hn : s6.heap.Ns ce.locals m := hn
    rw [cL] at hn
    exact hRR D s3.heap.objs.size s6 m H5 I7 qq hn (I3.fpOk (Nat.le_refl _) nC)
/-- as a value -/
theorem pe_gc (T : KyK X.prog X.w κ) (hc : X.calm = true) (hN : X.N.Nodup) (hi : PI X tg iter wi) (ok : BlkOk X.N X.env.scope scope own)
    (hg : ∀ (s : Shared) (H : Hp) (C : Addr) (cl : List (Str × Addr)) (fp : List Addr), PG (X.blk s H scope (compEnvC scope cl C X.env) fp) tg g)
    (hk : ∀ (s : Shared) (H : Hp) (C : Addr) (cl : List (Str × Addr)) (fp : List Addr), PE (X.blk s H scope (compEnvC scope cl C X.env) fp) kx tk)
    (hv : ∀ (s : Shared) (H : Hp) (C : Addr) (cl : List (Str × Addr)) (fp : List Addr), PE (X.blk s H scope (compEnvC scope cl C X.env) fp) vx tv) (hs : ∀ x, foldedSetIterable iter X.env x = pure x := by intro _; rfl) :
    PE X (.DictComp kx vx [⟨tg, iter, [], 0⟩] scope pos) (tGc T.ob T.kv wi g tk tv (own.map (·.2))) := by
  refine ⟨fun pins s σ H Q I h => ?_⟩
  rw [arm_eval_DictComp]
  refine gc_core T hc hN I hi ok hg hk hv hs h fun D C s' m H' I' q hn f => ⟨m, hn, fun h2 sb => ⟨.ref D, H', ?_, rfl, q⟩⟩
  obtain ⟨f0, f1, f2, f3, f4, f5⟩ := f
  exact I'.turned (t' := s'.toks) (fun b o hb e => (sb.2 b hb).trans e) f0 f1 f3 f4 f5
/-- as y = {..} -/
theorem ps_setGc {i : Nat} {y : Str} {py spos : Pos} (T : KyK X.prog X.w κ) (hc : X.calm = true) (hN : X.N.Nodup) (hy : X.N[i]? = some y) (hyl : X.env.scope.names.lookup y = some .local)
    (hsw : swapsWith (.DictComp kx vx [⟨tg, iter, [], 0⟩] scope pos) (some (.Name y py)) spos.line X.env = pure true) (hi : PI X tg iter wi) (ok : BlkOk X.N X.env.scope scope own)
    (hg : ∀ (s : Shared) (H : Hp) (C : Addr) (cl : List (Str × Addr)) (fp : List Addr), PG (X.blk s H scope (compEnvC scope cl C X.env) fp) tg g)
    (hk : ∀ (s : Shared) (H : Hp) (C : Addr) (cl : List (Str × Addr)) (fp : List Addr), PE (X.blk s H scope (compEnvC scope cl C X.env) fp) kx tk)
    (hv : ∀ (s : Shared) (H : Hp) (C : Addr) (cl : List (Str × Addr)) (fp : List Addr), PE (X.blk s H scope (compEnvC scope cl C X.env) fp) vx tv) (hs : ∀ x, foldedSetIterable iter X.env x = pure x := by intro _; rfl) :
    PS X (.Assign [.Name y py] (.DictComp kx vx [⟨tg, iter, [], 0⟩] scope pos) spos) (tAsg (tGc T.ob T.kv wi g tk tv (own.map (·.2))) (gName i)) := by
  refine ⟨fun pins s σ H D I h => ?_⟩
  rw [exec_Assign_Name_used _ _ _ _ hsw]
  refine wpAny_bind (wpAny_standAt (wpAny_bind ?_))
  show wpAny _ X.A (do let _ ← comprehension (.DictComp kx vx [⟨tg, iter, [], 0⟩] scope pos) scope X.env (firstIterPos [⟨tg, iter, [], 0⟩] pos) newDict false (eval iter X.env) (some (assign (.Name y py) X.env))) _ _ s
  have h2 : tGc T.ob T.kv wi g tk tv (own.map (·.2)) σ H (fun x H1 => gName i x σ H1 D.nx) := h
  refine wpAny_bind (thn (gc_core T (Qf := fun _ s' => SP X pins D .next s') hc hN I hi ok hg hk hv hs h2 fun L C s' m H' I' q hn f => ?_) fun _ s' hq => wpAny_pure (wpAny_pure hq))
  obtain ⟨f0, f1, f2, f3, f4, f5⟩ := f
  show wpAny _ _ (assign (.Name y py) X.env (.ref L)) _ _ _
  refine wpAny_assign_Name (store_ok2 (v := V.ref L) I' hN hy (.inl hyl) rfl (fun s2 I2 w => ?_) (.inr hyl))
  obtain ⟨a, sb, ha⟩ := w
  have apart : C ≠ a := by
    cases ha with
    | inl z => rw [z]; exact f1
    | inr z => exact fun e => f4 y a z e.symm
  exact ⟨m, hn.sameBut sb apart, fun h3 sb3 => ⟨_, H', I2.turned (t' := s2.toks) (fun b o hb e => (sb3.2 b hb).trans e) f0 f1 f3 f4 f5, q⟩⟩
end
end

/-! ### as data -/
section
variable {K : PySem.W.Frag} {F0 H0 : Hp} {ρ : Sls} {σ : L2.St} {H F : Hp}
/-- a slot takes what is no list of one's own -/
theorem SR.setQ (r : SR K F0 H0 ρ σ H F) {v : V} {s0 : Sl} (hn : ∀ ds, s0 ≠ .own ds) (h : SlOk K H F (some (some v)) s0) (i : Nat) : SR K F0 H0 (ρ.set i s0) (σ.set i (some v)) H F := by
  have ow : ∀ j a, OwnAt (ρ.set i s0) (σ.set i (some v)) j a → j ≠ i ∧ OwnAt ρ σ j a := fun j a ⟨⟨ds, e1⟩, e2⟩ => by
    by_cases hj : j = i
    · rw [hj] at e1
      by_cases hl : i < ρ.length
      · rw [List.getElem?_set_self hl] at e1; exact absurd (Option.some.inj e1) (hn ds)
      · rw [List.getElem?_eq_none (by simpa using hl)] at e1; cases e1
    · rw [List.getElem?_set_ne (Ne.symm hj)] at e1 e2
      exact ⟨hj, ⟨ds, e1⟩, e2⟩
  refine ⟨r.gr, by simp [r.len], fun j s e => ?_, fun j a o => r.own0 j a (ow j a o).2, fun j k a o1 o2 => r.sep j k a (ow j a o1).2 (ow k a o2).2⟩
  by_cases hj : j = i
  · rw [hj] at e ⊢
    by_cases hl : i < ρ.length
    · rw [List.getElem?_set_self hl] at e
      cases e
      rw [List.getElem?_set_self (by rw [← r.len]; exact hl)]
      exact h
    · rw [List.getElem?_eq_none (by simpa using hl)] at e; cases e
  · rw [List.getElem?_set_ne (Ne.symm hj)] at e ⊢
    exact r.sl j s e
end
/-- keys of one kind, told from data -/
structure KyD {P : Program} {w : World} {κ : Type} [DecidableEq κ] (T : KyK P w κ) (kd : PyData → Option κ) : Prop where
  fl : ∀ y k, kd y = some k → flatD y = true ∧ flatOf y = T.kv k
def kMix : PyData → Option Key
  | .int i => some (.inl i)
  | .str x => some (.inr x)
  | _ => none
def kBool : PyData → Option Bool
  | .bool b => some b
  | _ => none
theorem kyd_mix {P : Program} {w : World} : KyD (mixKy P w) kMix := ⟨fun y k e => by
  cases y <;> first | cases e; exact ⟨rfl, rfl⟩ | cases e⟩
theorem kyd_bool {P : Program} {w : World} : KyD (boolKy P w) kBool := ⟨fun y k e => by
  cases y <;> first | cases e; exact ⟨rfl, rfl⟩ | cases e⟩
/-- the pairs of a comprehension, one by one -/
def compP (bt : PyData → Sls → Option Sls) (fk fv : Sls → Res PyData) (ρ : Sls) : List PyData → Res (List (PyData × PyData))
  | [] => .ok []
  | d :: ds => match bt d ρ with
    | none => .bad
    | some ρ1 => match fk ρ1 with
      | .ok y => match fv ρ1 with
        | .ok z => compP bt fk fv ρ ds >>= fun ps => .ok ((y, z) :: ps)
        | _ => .bad
      | _ => .bad
def tyP {κ : Type} (kd : PyData → Option κ) : List (PyData × PyData) → Option (List (κ × V))
  | [] => some []
  | p :: ps => match kd p.1 with
    | none => none
    | some k => if flatD p.2 = true then (tyP kd ps).map ((k, flatOf p.2) :: ·) else none
def putAll {κ : Type} [DecidableEq κ] (acc : List (κ × V)) (qs : List (κ × V)) : List (κ × V) := qs.foldl (fun a q => putK a q.1 q.2) acc
theorem compP_noexc {bt : PyData → Sls → Option Sls} {fk fv : Sls → Res PyData} {ρ : Sls} {x : Xn} : ∀ ds, compP bt fk fv ρ ds ≠ .exc x
  | [] => by intro h; cases h
  | d :: ds => by
    intro h
    simp only [compP] at h
    have ih := compP_noexc (bt := bt) (fk := fk) (fv := fv) (ρ := ρ) (x := x) ds
    cases e1 : bt d ρ with
    | none => simp only [e1] at h; cases h
    | some ρ1 =>
      simp only [e1] at h
      cases e2 : fk ρ1 with
      | ok y =>
        simp only [e2] at h
        cases e3 : fv ρ1 with
        | ok z =>
          simp only [e3] at h
          cases e4 : compP bt fk fv ρ ds with
          | ok ys => simp only [e4, bind_ok] at h; cases h
          | exc z => simp only [e4, bind_exc] at h; cases h; exact ih e4
          | bad => simp only [e4, bind_bad] at h; cases h
        | exc z => simp only [e3] at h; cases h
        | bad => simp only [e3] at h; cases h
      | exc z => simp only [e2] at h; cases h
      | bad => simp only [e2] at h; cases h
/-- what the comprehension's dict is to be good for -/
def gcOf {κ : Type} [DecidableEq κ] (mg : Str → Option Value) (K : PySem.W.Frag) (F0 H0 : Hp) (W : WX) (ob : Addr → List (κ × V) → HO) (kd : PyData → Option κ) (fi : Sls → Res (List PyData)) (bt : PyData → Sls → Option Sls) (fk fv : Sls → Res PyData) (vs : List Nat) (σ : L2.St) (H : Hp) (Q : VK) : Prop :=
  ∃ ρ F, SR K F0 H0 ρ σ H F ∧ match fi ρ with
  | .exc x => ∀ cls dd H' F', Gr F H F' H' → ExR mg x cls dd H' F' → W cls dd σ H'
  | .bad => False
  | .ok ds => ds.length ≤ 16777216 ∧ match compP bt fk fv (wipeS ρ vs) ds with
    | .ok ps => ∃ qs, tyP kd ps = some qs ∧ ∀ D H' F', Gr F H F' H' → H D = none → H' D = some (ob D (putAll [] qs)) → F' D = none → Q (.ref D) H'
    | _ => False
section
variable {X : Cx} {F0 H0 : Hp} {W : WX} {κ : Type} [DecidableEq κ]
theorem gc_run (T : KyK X.prog X.w κ) {kd : PyData → Option κ} (hk : KyD T kd) {fi : Sls → Res (List PyData)} {bt : PyData → Sls → Option Sls} {fk fv : Sls → Res PyData} {vs : List Nat} {σ : L2.St} {H : Hp} {Q : VK} {ws : List Nat} (hw : ∀ i ∈ ws, i ∈ vs)
    (h : gcOf X.mg X.K F0 H0 W T.ob kd fi bt fk fv vs σ H Q) : tGc T.ob T.kv (iOf X.mg X.K F0 H0 W fi) (gOf X.K F0 H0 bt ws) (rd X.mg X.K F0 H0 WF (Den X.K) fk) (rd X.mg X.K F0 H0 WF (Den X.K) fv) vs σ H Q := by
  obtain ⟨ρ, F, sr, q⟩ := h
  refine ⟨ρ, F, sr, ?_⟩
  cases e : fi ρ with
  | exc x => simp only [e] at q; exact q
  | bad => simp only [e] at q
  | ok ds =>
    simp only [e] at q
    obtain ⟨hz, q⟩ := q
    intro J H1 F1 g1 ok D hD
    have hD0 : H D = none := not_of_none g1.hh hD
    have sr1 := sr.grow g1
    refine ⟨fun i m Hi => m = ds.length - i ∧ i ≤ ds.length ∧ ∃ H' F' acc, Gr F1 H1 F' H' ∧ H' D = none ∧ F' D = none ∧ Hi = upd H' D (T.ob D acc) ∧ acc.length ≤ i ∧
        (match compP bt fk fv (wipeS ρ vs) (ds.drop i) with
          | .ok ps => ∃ qs, tyP kd ps = some qs ∧ ∀ D H2 F2, Gr F H F2 H2 → H D = none → H2 D = some (T.ob D (putAll acc qs)) → F2 D = none → Q (.ref D) H2
          | _ => False), ⟨ds.length, by simp, Nat.zero_le _, H1, F1, [], .refl g1.fh, hD, not_of_none g1.fh hD, rfl, Nat.le_refl _, ?_⟩, ?_⟩
    · rw [List.drop_zero]
      exact q
    · rintro i m Hi ⟨rfl, hi, H', F', acc, g2, hn, hFn, rfl, hacc, q2⟩
      have grD : Gr F' H' F' (upd H' D (T.ob D acc)) := Gr.newO g2.fh hn
      by_cases hlt : i < ds.length
      · have hd : ds[i]? = some ds[i] := List.getElem?_eq_getElem hlt
        rw [List.drop_eq_getElem_cons hlt] at q2
        refine .inr ⟨ok.go i _ (g2.ff.trans grD.fh) hlt, fun Hi => i + 1 ≤ ds.length ∧ ∃ H' F' acc, Gr F1 H1 F' H' ∧ H' D = none ∧ F' D = none ∧ Hi = upd H' D (T.ob D acc) ∧ acc.length ≤ i + 1 ∧
          (match compP bt fk fv (wipeS ρ vs) (ds.drop (i + 1)) with
            | .ok ps => ∃ qs, tyP kd ps = some qs ∧ ∀ D H2 F2, Gr F H F2 H2 → H D = none → H2 D = some (T.ob D (putAll acc qs)) → F2 D = none → Q (.ref D) H2
            | _ => False), fun Hi ⟨hj, rest⟩ => ⟨ds.length - (i + 1), by omega, rfl, hj, rest⟩, fun x H3 y => ?_⟩
        obtain ⟨F3, g3, dn⟩ := ok.yld i _ x H3 F' _ g2.ff grD.fh hd y
        have srB : SR X.K F0 H0 (wipeS ρ vs) (wipe σ vs) H3 F3 := ((sr1.wipeAll vs).grow (g2.trans grD)).grow g3
        refine ⟨wipeS ρ vs, F3, ds[i], srB, dn, ?_⟩
        simp only [compP] at q2
        cases e1 : bt ds[i] (wipeS ρ vs) with
        | none => simp only [e1] at q2
        | some ρ3 =>
          simp only [e1] at q2
          refine fun σ3 sr3 hwp => ⟨(hwp vs hw).trans (wipe_sub fun _ h => h), ρ3, F3, sr3, ?_⟩
          have back : ∀ {Hx Fx : Hp}, Gr F3 H3 Fx Hx → ∃ Hy, Gr F1 H1 Fx Hy ∧ Hy D = none ∧ Fx D = none ∧ Hx = upd Hy D (T.ob D acc) := fun {Hx Fx} gx => by
            have nD : Fx D = none := gx.nf D (g3.nf D hFn (by rw [upd_same]; simp)) (by rw [g3.hh D _ upd_same]; simp)
            have eD : Hx D = some (T.ob D acc) := gx.hh D _ (g3.hh D _ upd_same)
            refine ⟨fun b => if b = D then none else Hx b, ⟨g2.ff.trans (g3.ff.trans gx.ff), fun b o z => ?_, fun b o z => ?_, fun b z1 z2 => ?_, fun b ob u z1 z2 => ((g2.trans grD).trans (g3.trans gx)).nz b ob u z1 z2⟩, if_pos rfl, nD, ?_⟩
            · have hb : b ≠ D := fun w => by rw [w, hD] at z; cases z
              show (if b = D then none else Hx b) = some o
              rw [if_neg hb]
              exact gx.hh _ _ (g3.hh _ _ (grD.hh _ _ (g2.hh _ _ z)))
            · have hb : b ≠ D := fun w => by rw [w, nD] at z; cases z
              show (if b = D then none else Hx b) = some o
              rw [if_neg hb]
              exact gx.fh _ _ z
            · have y1 := g2.nf b z1 z2
              have z3 : H' b ≠ none := fun w => by
                cases w2 : H1 b with
                | none => exact z2 w2
                | some o => rw [g2.hh b o w2] at w; cases w
              have z4 : upd H' D (T.ob D acc) b ≠ none := fun w => by
                by_cases hb : b = D
                · rw [hb, upd_same] at w; cases w
                · rw [upd_ne hb] at w; exact z3 w
              have y2 := g3.nf b y1 z4
              exact gx.nf b y2 fun w => z4 (by
                cases w2 : upd H' D (T.ob D acc) b with
                | none => rfl
                | some o => rw [g3.hh b o w2] at w; cases w)
            · funext b
              show Hx b = if b = D then some (T.ob D acc) else if b = D then none else Hx b
              by_cases hb : b = D
              · rw [if_pos hb, hb]; exact eD
              · rw [if_neg hb, if_neg hb]
          cases e2 : fk ρ3 with
          | exc x => simp only [e2] at q2
          | bad => simp only [e2] at q2
          | ok yk =>
            simp only [e2] at q2
            intro u H4 F4 g4 r4
            refine ⟨ρ3, F4, sr3.grow g4, ?_⟩
            cases e3 : fv ρ3 with
            | exc x => simp only [e3] at q2
            | bad => simp only [e3] at q2
            | ok yz =>
              simp only [e3] at q2
              intro u5 H5 F5 g5 r5
              obtain ⟨Hy, gy, hy, fy, rfl⟩ := back (g4.trans g5)
              cases e4 : compP bt fk fv (wipeS ρ vs) (ds.drop (i + 1)) with
              | exc x => rw [e4] at q2; simp only [bind_exc] at q2
              | bad => rw [e4] at q2; simp only [bind_bad] at q2
              | ok ps =>
                rw [e4] at q2
                simp only [bind_ok] at q2
                obtain ⟨qs, hq, q2⟩ := q2
                simp only [tyP] at hq
                cases e5 : kd yk with
                | none => simp only [e5] at hq; cases hq
                | some kk =>
                  simp only [e5] at hq
                  obtain ⟨f1, f2⟩ := hk.fl _ _ e5
                  by_cases hf : flatD yz = true
                  · rw [if_pos hf] at hq
                    obtain ⟨qs', hq', rfl⟩ := Option.map_eq_some_iff.mp hq
                    refine ⟨acc, kk, by rw [r4.flat f1, f2], upd_same, by rw [line24]; omega, hlt, Hy, F5, putK acc kk u5, gy, hy, fy, upd_upd, Nat.le_trans (length_putK acc kk u5) (Nat.succ_le_succ hacc), ?_⟩
                    refine ⟨qs', hq', ?_⟩
                    rw [r5.flat hf]
                    exact q2
                  · rw [if_neg hf] at hq; cases hq
      · have e3 : i = ds.length := by omega
        subst e3
        rw [List.drop_length] at q2
        simp only [compP] at q2
        obtain ⟨qs, hq, q2⟩ := q2
        simp only [tyP] at hq
        cases hq
        refine .inl ⟨ok.stop _ _ (g2.ff.trans grD.fh) rfl, ?_⟩
        exact q2 D _ F' (g1.trans (g2.trans grD)) hD0 upd_same hFn
end
end DL

/-! DL16: list({..}), y = {..}, d[e]; extend; sorted of flat alike items. -/
namespace DL
open PySem PySem.Spec PyProof.Rows L2
open PySem.W (sorted_data EachIs AllAlike Sortable dataLe kdl_call kdl_dict)
open PyProof.Rows (sortedAll sortedAll_at sortedAll_old)

section
variable {X : Cx} {κ : Type} [DecidableEq κ]
/-- list(d) -/
theorem cr_listD (hc : X.calm = true) (T : KyK X.prog X.w κ) : CallR X (.type "list") (fun vs H Q => ∃ (D : Addr) (kvs : List (κ × V)), vs = [.ref D] ∧ H D = some (T.ob D kvs) ∧ ∀ p, H p = none → Q (.ref p) (upd H p (.lst (kvs.map fun q => T.kv q.1)))) := by
  intro pins s σ H vs us Q I r h
  obtain ⟨D, kvs, rfl, hD, q⟩ := h
  rw [Vals.ref1 r]
  obtain ⟨z, lo, ws, rel, dd⟩ := T.un (I.hok D _ hD)
  obtain ⟨ep, da⟩ := dd.dictAt
  have lw := rel.length
  refine kdl_call (kdl_dict lo) (I.ok.hd hc) da (by rw [← lw]; exact z) fun h' tk acc c kp at' it => ?_
  obtain ⟨i1, i2⟩ := it
  refine ⟨.ref s.heap.objs.size, upd H s.heap.objs.size (.lst (kvs.map fun q => T.kv q.1)), I.laid kp (Nat.le_refl _) ⟨by rw [List.length_map]; exact z, acc.toList, c, ?_, at'⟩, rfl, q _ (I.hok.fresh (Nat.le_refl _))⟩
  have len : (kvs.map fun q => T.kv q.1).length = acc.toList.length := by rw [List.length_map, Array.length_toList]; exact lw.trans i1.symm
  have each : ∀ i v, acc.toList[i]? = some v → ∃ y, (kvs.map fun q => T.kv q.1)[i]? = some y ∧ RelV y v := fun i v e => by
    obtain ⟨k, x, e1, e2⟩ := i2 i v (by rw [← Array.getElem?_toList]; exact e)
    have ke := rel.keys
    have e3 : (kvs.map (·.1))[i]? = some k := by rw [ke, List.getElem?_map, e1]; rfl
    refine ⟨T.kv k, ?_, T.back e2⟩
    rw [List.getElem?_map] at e3 ⊢
    cases e4 : kvs[i]? with
    | none => rw [e4] at e3; cases e3
    | some p => rw [e4] at e3; cases e3; rfl
  generalize (kvs.map fun q => T.kv q.1) = ys at len each
  generalize acc.toList = us at len each
  clear at' i1 i2
  induction ys generalizing us with
  | nil =>
    cases us with
    | nil => exact .nil
    | cons _ _ => simp at len
  | cons y ys ih =>
    cases us with
    | nil => simp at len
    | cons u us =>
      obtain ⟨y', e1, r1⟩ := each 0 u rfl
      cases e1
      exact .cons r1 (ih us (by simpa using len) fun i v e => each (i + 1) v e)
end
section
variable {X : Cx} {F0 H0 : Hp} {W : WX} {pos p p2 spos py apos xp cpos : Pos} {tg iter kx vx e : Expr} {scope : Scope} {own : List (Str × Nat)} {fi : Sls → Res (List PyData)} {bt : PyData → Sls → Option Sls} {fk fv f : Sls → Res PyData} {fs : Sls → Res (List PyData)} {ws : List Nat} {i k : Nat} {x y : Str}
abbrev DcG (X : Cx) (F0 H0 : Hp) (W : WX) (k : Nat) (scope : Scope) (tg : Expr) (bt : PyData → Sls → Option Sls) (ws : List Nat) : Prop :=
  ∀ (s : Shared) (H : Hp) (C : Addr) (cl : List (Str × Addr)) (fp : List Addr), Cz (X.blk s H scope (compEnvC scope cl C X.env) fp) WF k → DG (X.blk s H scope (compEnvC scope cl C X.env) fp) F0 H0 tg bt ws
abbrev DcE (X : Cx) (F0 H0 : Hp) (W : WX) (k : Nat) (scope : Scope) (e : Expr) (f : Sls → Res PyData) : Prop :=
  ∀ (s : Shared) (H : Hp) (C : Addr) (cl : List (Str × Addr)) (fp : List Addr), Cz (X.blk s H scope (compEnvC scope cl C X.env) fp) WF k → DE (X.blk s H scope (compEnvC scope cl C X.env) fp) F0 H0 WF e f
theorem pe_gcD {κ : Type} [DecidableEq κ] (T : KyK X.prog X.w κ) {kd : PyData → Option κ} (hk : KyD T kd) (c : Cz X W k) (hN : X.N.Nodup) (hi : DI X F0 H0 W tg iter fi) (ok : BlkOk X.N X.env.scope scope own) (hw : ∀ i ∈ ws, i ∈ own.map (·.2))
    (hg : DcG X F0 H0 W k scope tg bt ws) (hK : DcE X F0 H0 W k scope kx fk) (hV : DcE X F0 H0 W k scope vx fv) (hs : ∀ x, foldedSetIterable iter X.env x = pure x) :
    PE X (.DictComp kx vx [⟨tg, iter, [], 0⟩] scope pos) (gcOf X.mg X.K F0 H0 W T.ob kd fi bt fk fv (own.map (·.2))) :=
  PE.imp (pe_gc T (g := gOf X.K F0 H0 bt ws) (tk := rd X.mg X.K F0 H0 WF (Den X.K) fk) (tv := rd X.mg X.K F0 H0 WF (Den X.K) fv) c.calm hN hi ok (fun s H C cl fp => hg s H C cl fp (c.blk ..)) (fun s H C cl fp => hK s H C cl fp (c.blk ..)) (fun s H C cl fp => hV s H C cl fp (c.blk ..)) hs) fun _ _ _ h => gc_run T hk hw h
/-- its keys -/
def dKeys (fi : Sls → Res (List PyData)) (bt : PyData → Sls → Option Sls) (fk fv : Sls → Res PyData) (vs : List Nat) (ρ : Sls) : Res (List PyData) :=
  fi ρ >>= fun ds => if ds.length ≤ 16777216 then compP bt fk fv (wipeS ρ vs) ds >>= fun ps => match tyP kMix ps with
    | some qs => .ok ((putAll [] qs).map fun q => kD q.1)
    | none => match tyP kBool ps with
      | some qs => .ok ((putAll [] qs).map fun q => .bool q.1)
      | none => .bad
  else .bad
theorem den_kV {K : PySem.W.Frag} {F : Hp} {k : Key} : Den K F (kV k) (kD k) := by
  cases k with
  | inl i => exact .int i
  | inr x => exact .str x
theorem dens_map {α : Type} {K : PySem.W.Frag} {F : Hp} {f : α → V} {g : α → PyData} (h : ∀ a, Den K F (f a) (g a)) : ∀ l : List α, Dens K F (l.map f) (l.map g)
  | [] => .nil
  | a :: l => .cons (h a) (dens_map h l)
theorem pe_or {X : Cx} {e : Expr} {t1 t2 : TE} (h1 : PE X e t1) (h2 : PE X e t2) : PE X e (fun σ H Q => t1 σ H Q ∨ t2 σ H Q) := ⟨fun pins s σ H Q I h => by
  rcases h with h | h
  · exact h1.run pins s σ H Q I h
  · exact h2.run pins s σ H Q I h⟩
/-- list({k: v for ..}) -/
theorem dn_listDc (c : Cz X W k) (hN : X.N.Nodup) (hgl : Gl X "list") (hm : X.mg "list" = none) (hi : DI X F0 H0 W tg iter fi) (ok : BlkOk X.N X.env.scope scope own) (hw : ∀ i ∈ ws, i ∈ own.map (·.2))
    (hg : DcG X F0 H0 W k scope tg bt ws) (hK : DcE X F0 H0 W k scope kx fk) (hV : DcE X F0 H0 W k scope vx fv) (hs : ∀ x, foldedSetIterable iter X.env x = pure x := by intro _; rfl)
    (he : starEach [.DictComp kx vx [⟨tg, iter, [], 0⟩] scope p2] X.env = (false, eval (.DictComp kx vx [⟨tg, iter, [], 0⟩] scope p2) X.env) :: starEach [] X.env := by rfl) (hpl : (backTo pos (starEach [] X.env)).any (·.1) = false := by rfl) :
    DN X F0 H0 W (.Call (.Name "list" p) [.DictComp kx vx [⟨tg, iter, [], 0⟩] scope p2] [] pos) (dKeys fi bt fk fv (own.map (·.2))) := by
  have k1 := pe_callTy (pos := pos) (p := p) (cr_listD c.calm (mixKy X.prog X.w)) hgl hm (by rfl) (pa_cons (pe_gcD (pos := p2) (mixKy X.prog X.w) kyd_mix c hN hi ok hw hg hK hV hs) pa_nil he) (by decide) (by decide) he hpl
  have k2 := pe_callTy (pos := pos) (p := p) (cr_listD c.calm (boolKy X.prog X.w)) hgl hm (by rfl) (pa_cons (pe_gcD (pos := p2) (boolKy X.prog X.w) kyd_bool c hN hi ok hw hg hK hV hs) pa_nil he) (by decide) (by decide) he hpl
  refine PE.imp (pe_or k1 k2) fun σ H Q ⟨ρ, F, sr, q⟩ => ?_
  unfold dKeys at q
  cases e : fi ρ with
  | exc x => simp only [e, bind_exc] at q; exact .inl ⟨ρ, F, sr, by simp only [e]; exact q⟩
  | bad => simp only [e, bind_bad] at q
  | ok ds =>
    simp only [e, bind_ok] at q
    by_cases hz : ds.length ≤ 16777216
    case neg => simp only [hz, if_false] at q
    simp only [hz, if_true] at q
    cases e2 : compP bt fk fv (wipeS ρ (own.map (·.2))) ds with
    | exc x => exact absurd e2 (compP_noexc ds)
    | bad => simp only [e2, bind_bad] at q
    | ok ps =>
      simp only [e2, bind_ok] at q
      cases e3 : tyP kMix ps with
      | some qs =>
        simp only [e3] at q
        refine .inl ⟨ρ, F, sr, ?_⟩
        simp only [e, e2]
        refine ⟨hz, qs, e3, fun D H' F' g hD hD' hF' => ⟨D, _, rfl, hD', fun p hp => ?_⟩⟩
        have g2 : Gr F' H' F' (upd H' p (.lst ((putAll [] qs).map fun q => kV q.1))) := Gr.newO g.fh hp
        exact q p _ _ F' (g.trans g2) (not_of_none g.hh hp) upd_same (not_of_none g.fh hp) (dens_map (fun _ => den_kV) _)
      | none =>
        simp only [e3] at q
        cases e4 : tyP kBool ps with
        | none => simp only [e4] at q
        | some qs =>
          simp only [e4] at q
          refine .inr ⟨ρ, F, sr, ?_⟩
          simp only [e, e2]
          refine ⟨hz, qs, e4, fun D H' F' g hD hD' hF' => ⟨D, _, rfl, hD', fun p hp => ?_⟩⟩
          have g2 : Gr F' H' F' (upd H' p (.lst ((putAll [] qs).map fun q => V.bl q.1))) := Gr.newO g.fh hp
          exact q p _ _ F' (g.trans g2) (not_of_none g.hh hp) upd_same (not_of_none g.fh hp) (dens_map (fun _ => .bl _) _)
/-- y = {k: v for ..}: the dict stays as it is -/
def gSetDc (i : Nat) (fi : Sls → Res (List PyData)) (bt : PyData → Sls → Option Sls) (fk fv : Sls → Res PyData) (vs : List Nat) : Sls → Out :=
  sE (fun ρ => fi ρ >>= fun ds => if ds.length ≤ 16777216 then compP bt fk fv (wipeS ρ vs) ds else .bad) fun ps ρ => match tyP kMix ps with
    | some qs => .nx (ρ.set i (.dcK (putAll [] qs)))
    | none => match tyP kBool ps with
      | some qs => .nx (ρ.set i (.dcB (putAll [] qs)))
      | none => .bad
theorem Gr.shut {F H F' H' : Hp} {a : Addr} {o : HO} (g : Gr F H F' H') (h1 : H a = none) (h2 : H' a = some o) (h3 : F' a = none) (hz : ∀ ob u, o ≠ .frz ob u) : Gr F H (upd F' a o) H' := by
  refine ⟨g.ff.trans (Ex.new h3), g.hh, fun b u z => ?_, fun b z1 z2 => ?_, fun b ob u z1 z2 => ?_⟩
  · by_cases hb : b = a
    · rw [hb, upd_same] at z; rw [hb, h2]; exact z
    · rw [upd_ne hb] at z; exact g.fh b u z
  · have hb : b ≠ a := fun z => z2 (z ▸ h1)
    rw [upd_ne hb]; exact g.nf b z1 z2
  · by_cases hb : b = a
    · rw [hb, upd_same] at z2; exact hz _ _ (Option.some.inj z2)
    · rw [upd_ne hb] at z2; exact g.nz b ob u z1 z2
theorem ds_setDc (c : Cz X W k) (hN : X.N.Nodup) (hy : X.N[i]? = some y) (hyl : X.env.scope.names.lookup y = some .local)
    (hsw : swapsWith (.DictComp kx vx [⟨tg, iter, [], 0⟩] scope pos) (some (.Name y py)) spos.line X.env = pure true) (hi : DI X F0 H0 W tg iter fi) (ok : BlkOk X.N X.env.scope scope own) (hw : ∀ i ∈ ws, i ∈ own.map (·.2))
    (hg : DcG X F0 H0 W k scope tg bt ws) (hK : DcE X F0 H0 W k scope kx fk) (hV : DcE X F0 H0 W k scope vx fv) (hs : ∀ x, foldedSetIterable iter X.env x = pure x := by intro _; rfl) :
    DS X F0 H0 W (.Assign [.Name y py] (.DictComp kx vx [⟨tg, iter, [], 0⟩] scope pos) spos) (gSetDc i fi bt fk fv (own.map (·.2))) := by
  have one := fun {κ : Type} [DecidableEq κ] (T : KyK X.prog X.w κ) {kd : PyData → Option κ} (hk : KyD T kd) => (ps_setGc (py := py) (spos := spos) (pos := pos) T (g := gOf X.K F0 H0 bt ws) (tk := rd X.mg X.K F0 H0 WF (Den X.K) fk) (tv := rd X.mg X.K F0 H0 WF (Den X.K) fv) c.calm hN hy hyl hsw hi ok (fun s H C cl fp => hg s H C cl fp (c.blk ..)) (fun s H C cl fp => hK s H C cl fp (c.blk ..)) (fun s H C cl fp => hV s H C cl fp (c.blk ..)) hs)
  refine ⟨fun pins s σ H D I h => ?_⟩
  obtain ⟨ρ, F, sr, q⟩ := h
  unfold gSetDc sE at q
  cases e : fi ρ with
  | exc x =>
    simp only [e, bind_exc] at q
    refine (one (mixKy X.prog X.w) kyd_mix).run pins s σ H D I (gc_run (mixKy X.prog X.w) kyd_mix hw ⟨ρ, F, sr, ?_⟩)
    simp only [e]
    exact fun cls dd H1 F1 g r => q cls dd σ H1 F1 (sr.grow g) g.ff r
  | bad => simp only [e, bind_bad] at q; exact q.elim
  | ok ds =>
    simp only [e, bind_ok] at q
    by_cases hz : ds.length ≤ 16777216
    case neg => simp only [hz, if_false] at q; exact q.elim
    simp only [hz, if_true] at q
    cases e2 : compP bt fk fv (wipeS ρ (own.map (·.2))) ds with
    | exc x => exact absurd e2 (compP_noexc ds)
    | bad => simp only [e2] at q; exact q.elim
    | ok ps =>
      simp only [e2] at q
      cases e3 : tyP kMix ps with
      | some qs =>
        simp only [e3] at q
        refine (one (mixKy X.prog X.w) kyd_mix).run pins s σ H D I (gc_run (mixKy X.prog X.w) kyd_mix hw ⟨ρ, F, sr, ?_⟩)
        simp only [e, e2]
        refine ⟨hz, qs, e3, fun a H' F' g hD hD' hF' => ?_⟩
        have g2 := g.shut hD hD' hF' (fun _ _ z => by cases z)
        exact q _ _ _ ((sr.grow g2).setQ (v := .ref a) (s0 := .dcK (putAll [] qs)) (fun _ z => by cases z) ⟨a, rfl, upd_same⟩ i) g2.ff
      | none =>
        simp only [e3] at q
        cases e4 : tyP kBool ps with
        | none => simp only [e4] at q; exact q.elim
        | some qs =>
          simp only [e4] at q
          refine (one (boolKy X.prog X.w) kyd_bool).run pins s σ H D I (gc_run (boolKy X.prog X.w) kyd_bool hw ⟨ρ, F, sr, ?_⟩)
          simp only [e, e2]
          refine ⟨hz, qs, e4, fun a H' F' g hD hD' hF' => ?_⟩
          have g2 := g.shut hD hD' hF' (fun _ _ z => by cases z)
          exact q _ _ _ ((sr.grow g2).setQ (v := .ref a) (s0 := .dcB (putAll [] qs)) (fun _ z => by cases z) ⟨a, rfl, upd_same⟩ i) g2.ff
/-! ### d[e] -/
theorem pe_gget {κ : Type} [DecidableEq κ] {o e : Expr} {td ty : TE} (T : KyK X.prog X.w κ) (ho : PE X o td) (hi : PE X e ty) (hs : NoSl e) :
    PE X (.Subscript o e pos) (fun σ H Q => td σ H fun x H1 => ty σ H1 fun y H2 => ∃ a kvs k v, x = .ref a ∧ H2 a = some (T.ob a kvs) ∧ y = T.kv k ∧ valV kvs k = some v ∧ Q v H2) := by
  refine ⟨fun pins s σ H Q I h => ?_⟩
  refine subD_of PySem.F.slot_dict_getitem.lookup hs (thn (ho.run pins s σ H _ I h) fun u s1 ⟨x, H1, I1, rx, q1⟩ => thn (hi.run pins s1 σ H1 _ I1 q1) fun iv s2 ⟨y, H2, I2, ry, a, kvs, k, v, ex, ha, ey, l, q2⟩ => ?_)
  rw [ex] at rx
  rw [ey] at ry
  obtain rfl : u = Value.ref a := rx
  obtain ⟨z, hd, vs, rel, dd⟩ := T.un (I2.hok a _ ha)
  obtain ⟨w', hw, rw'⟩ := RelO.some_of (v := v) (o := valueAt vs k) (by rw [← l]; exact rel.val k)
  exact ⟨dd.typeIs, wpAny_getItem_of (T.is ry) dd.mapOf hw ⟨v, H2, I2.tok _, rw', q2⟩⟩
def backD : V → Option PyData
  | .non => some .none
  | .bl b => some (.bool b)
  | .int i => some (.int i)
  | .str x => some (.str x)
  | _ => none
theorem den_back {K : PySem.W.Frag} {F : Hp} {v : V} {d : PyData} (h : backD v = some d) : Den K F v d := by
  cases v with
  | non => cases h; exact .non
  | bl b => cases h; exact .bl b
  | int i => cases h; exact .int i
  | str x => cases h; exact .str x
  | _ => simp [backD] at h
def dDix (i : Nat) (f : Sls → Res PyData) (ρ : Sls) : Res PyData := match ρ[i]? with
  | some (.dcK kvs) => f ρ >>= fun d => ofO ((kMix d).bind fun k => (valV kvs k).bind backD)
  | some (.dcB kvs) => f ρ >>= fun d => ofO ((kBool d).bind fun k => (valV kvs k).bind backD)
  | _ => .bad
theorem dix_run {κ : Type} [DecidableEq κ] {σ : L2.St} {H F : Hp} {Q : VK} {ρ : Sls} {a : Addr} {kvs : List (κ × V)} (T : KyK X.prog X.w κ) {kd : PyData → Option κ} (hk : KyD T kd) (sr : SR X.K F0 H0 ρ σ H F) (ha : F a = some (T.ob a kvs))
    (q : Rest X.mg W (Den X.K) (f ρ >>= fun d => ofO ((kd d).bind fun k => (valV kvs k).bind backD)) σ H F Q) :
    rd X.mg X.K F0 H0 W (Den X.K) f σ H fun y H2 => ∃ a' kvs k v, V.ref a = .ref a' ∧ H2 a' = some (T.ob a' kvs) ∧ y = T.kv k ∧ valV kvs k = some v ∧ Q v H2 := by
  obtain ⟨ρ1, F1, sr1, q1⟩ := rd_step (R := Den X.K) sr q
  refine ⟨ρ1, F1, sr1, q1.imp fun v H1 F2 d g1 r1 k => ?_⟩
  obtain ⟨a', F3, g3, r3, sr3, q3⟩ := k v H1 F2 (.refl g1.fh) r1
  cases e1 : kd a' with
  | none => simp only [e1, Option.bind_none] at q3; exact q3.elim
  | some kk =>
    simp only [e1, Option.bind_some] at q3
    cases e2 : valV kvs kk with
    | none => simp only [e2, Option.bind_none] at q3; exact q3.elim
    | some v2 =>
      simp only [e2, Option.bind_some] at q3
      cases e3 : backD v2 with
      | none => simp only [e3] at q3; exact q3.elim
      | some d2 =>
        simp only [e3] at q3
        obtain ⟨f1, f2⟩ := hk.fl _ _ e1
        exact ⟨a, kvs, kk, v2, rfl, sr3.ex a _ (g3.ff a _ ha), by rw [r3.flat f1, f2], e2, q3 v2 H1 F3 (.refl sr3.ex) (den_back e3)⟩
theorem de_dix (ho : PE X (.Name x p) (tVar i)) (he : DE X F0 H0 W e f) (hs : NoSl e := by intro _ _; rfl) : DE X F0 H0 W (.Subscript (.Name x p) e pos) (dDix i f) := by
  refine PE.imp (pe_or (pe_gget (pos := pos) (mixKy X.prog X.w) ho he hs) (pe_gget (pos := pos) (boolKy X.prog X.w) ho he hs)) fun σ H Q ⟨ρ, F, sr, q⟩ => ?_
  unfold dDix at q
  cases e1 : ρ[i]? with
  | none => simp only [e1] at q; exact q.elim
  | some s0 =>
    simp only [e1] at q
    cases s0 with
    | dcK kvs =>
      obtain ⟨a, e2, ha⟩ := sr.sl i _ e1
      exact .inl ⟨.ref a, e2, dix_run (mixKy X.prog X.w) kyd_mix sr ha q⟩
    | dcB kvs =>
      obtain ⟨a, e2, ha⟩ := sr.sl i _ e1
      exact .inr ⟨.ref a, e2, dix_run (boolKy X.prog X.w) kyd_bool sr ha q⟩
    | _ => exact q.elim
/-! ### xs.extend(a new list) -/
def gExt (i : Nat) (fs : Sls → Res (List PyData)) (ρ : Sls) : Out := match ρ[i]? with
  | some (.own ds) => sE fs (fun es ρ => if ds.length + es.length ≤ 16777216 then .nx (ρ.set i (.own (ds ++ es))) else .bad) ρ
  | _ => .bad
theorem ds_extend (hv : PE X (.Name x xp) (tVar i)) (he : DN X F0 H0 W e fs)
    (hbase : attributeBase (.Name x xp) "extend" X.env (eval (.Name x xp) X.env) = eval (.Name x xp) X.env := by rfl)
    (hfew : ((backTo cpos (starEach (e :: []) X.env)).all (fun x => !x.1) && (backToKw cpos (keywordEach [] X.env)).all (fun x => x.1.isSome)
      && decide ((e :: []).length + ([] : List Keyword).length + (if ([] : List Keyword).isEmpty then 0 else 1) < 30)) = true := by rfl)
    (hline : (apos.endLine == cpos.line) = true := by rfl) (hs : starEach (e :: []) X.env = (false, eval e X.env) :: starEach [] X.env := by rfl) (hplain : (backTo cpos (starEach [] X.env)).any (·.1) = false := by rfl)
    (hw : swapsWith (.Call (.Attribute (.Name x xp) "extend" apos) (e :: []) [] cpos) none pos.line X.env = pure false := by rfl) :
    DS X F0 H0 W (.Expr (.Call (.Attribute (.Name x xp) "extend" apos) (e :: []) [] cpos) pos) (gExt i fs) := by
  refine PS.imp (ps_expr (pe_bm PySem.F.plainAttrs_list PySem.F.slot_list_extend PySem.F.type_list_extend mt_extend hv (pa_cons he pa_nil hs) hbase hfew hline hs hplain) hw) fun D σ H ⟨ρ, F, sr, q⟩ => ?_
  unfold gExt at q
  cases e1 : ρ[i]? with
  | none => simp only [e1] at q; exact q.elim
  | some s =>
    cases s with
    | own ds =>
      simp only [e1] at q
      obtain ⟨a, xs, e2, h1, h2, h3⟩ := sr.sl i _ e1
      refine ⟨.ref a, e2, .inl ⟨rfl, xs, .inl (.inl h1)⟩, ρ, F, sr, ?_⟩
      unfold sE at q
      cases e3 : fs ρ with
      | exc y => simp only [e3] at q; exact fun cls dd H1 F1 g r => q cls dd σ H1 F1 (sr.grow g) g.ff r
      | bad => simp only [e3] at q; exact q.elim
      | ok es =>
        simp only [e3] at q
        intro b zs H1 F1 g hb hb1 hb2 dn
        by_cases hz : ds.length + es.length ≤ 16777216
        · rw [if_pos hz] at q
          have sr1 := sr.grow g
          obtain ⟨a', xs', e2', h1', h2', h3'⟩ := sr1.sl i _ e1
          rw [e2] at e2'
          have e4 : V.ref a = V.ref a' := Option.some.inj (Option.some.inj e2')
          cases e4
          have l1 := h3'.length
          have l2 := dn.length
          exact ⟨a, b, xs', zs, rfl, rfl, h1', hb1, by rw [line24]; omega, q σ _ F1 (sr1.change e1 e2 (h3'.append dn)) g.ff⟩
        · rw [if_neg hz] at q; exact q.elim
    | _ => simp only [e1] at q; exact q.elim
end
/-! ### sorted of flat alike items -/
noncomputable def sortF (ds : List PyData) : List PyData := ds.mergeSort (dataLe false fun d => d)
noncomputable def sortW : List PyData → Res (List PyData)
  | [.list xs] => if flatAlike xs = true ∧ xs.length ≤ 16777216 then .ok (sortF xs) else .bad
  | _ => .bad
noncomputable def dSortF (fs : Sls → Res (List PyData)) (ρ : Sls) : Res (List PyData) := fs ρ >>= sortW
section
variable {X : Cx} {F0 H0 : Hp} {W : WX} {pos p : Pos} {e : Expr} {fs : Sls → Res (List PyData)} {k : Nat}
theorem depth_flat {d : PyData} (h : flatD d = true) : d.depth ≤ 1 := by
  cases d <;> first | (simp [PyData.depth]; done) | cases h
theorem reads_of {K : PySem.W.Frag} {F : Hp} {h : Heap} {v : V} {u : Value} {d : PyData} (dv : Den K F v d) (fl : flatD d = true) (r : RelV v u) : Reads h u d [] := by
  cases dv with
  | non => cases r; exact .none
  | bl b => cases r; exact .bool b
  | int i => obtain ⟨t, rfl⟩ := r; exact .int i t
  | str x => obtain ⟨t, rfl⟩ := r; exact .str x t
  | _ => cases fl
theorem each_pairs {K : PySem.W.Frag} {F : Hp} {h : Heap} : ∀ {xs : List V} {vs : List Value} {ds : List PyData}, Vals xs vs → Dens K F xs ds → (∀ d ∈ ds, flatD d = true) → EachIs (fun (u : Value) (p : V × PyData) => ∃ as, Reads h u p.2 as) vs (xs.zip ds)
  | _, _, _, .nil, .nil, _ => .nil
  | _, _, _, .cons r q, .cons a b, f => .cons ⟨[], reads_of a (f _ List.mem_cons_self) r⟩ (each_pairs q b fun d hd => f d (List.mem_cons_of_mem _ hd))
theorem sort_mem {ds : List PyData} {d : PyData} : d ∈ sortF ds ↔ d ∈ ds := (List.mergeSort_perm _ _).mem_iff
theorem cr_sortF (hu : X.A.units + 64 < cLine) : CallR X (.builtin "sorted") (fun vs H Q => ∃ (l : Addr) (xs : List V) (ds : List PyData) (F : Hp), vs = [.ref l] ∧ Ex F H ∧ SqL X.K H l xs ∧ Dens X.K F xs ds ∧ flatAlike ds = true ∧ ds.length ≤ 16777216 ∧
    ∀ p ys, H p = none → Dens X.K F ys (sortF ds) → Q (.ref p) (upd H p (.lst ys))) := by
  intro pins s σ H vs us Q I r h
  obtain ⟨l, xs, ds, F, rfl, ex, hl, dn, fa, hz, q⟩ := h
  rw [Vals.ref1 r]
  obtain ⟨ws, rx, pl, hlen⟩ := I.list hl
  obtain ⟨al, f2, _⟩ := flatAlike_all fa
  have ld := dn.length
  have lx := rx.length
  have ez : (xs.zip ds).map (fun p => p.2) = ds := List.map_snd_zip (by omega)
  refine sorted_data (bs := xs.zip ds) (enc := fun p => p.2) (R := fun (u : Value) (p : V × PyData) => RelV p.1 u) pl.isList (each_zip rx ld) (each_pairs rx dn f2) ?_ ?_ (by rw [List.length_zip, line24]; omega) ?_ fun out lo eo => ?_
  · rw [ez]; exact al.1
  · rw [ez]
    refine .inr fun d hd => ⟨fun z => ?_, fun zs z => ?_⟩
    · exact al.2 d hd z
    · have := f2 d hd; rw [z] at this; cases this
  · intro b hb
    have m : b.2 ∈ ds := (List.of_mem_zip (a := b.1) (b := b.2) hb).2
    have := depth_flat (f2 b.2 m)
    omega
  · obtain ⟨c, at'⟩ := sortedAll_at s.heap ws (List.toArray out)
    have vy := vals_each eo
    have dy : Dens X.K F (((xs.zip ds).mergeSort (dataLe false fun p => p.2)).map (·.1)) (sortF ds) := by
      have e2 : sortF ds = ((xs.zip ds).mergeSort (dataLe false fun p => p.2)).map (·.2) := by
        have e3 := List.map_mergeSort (r := dataLe false fun p : V × PyData => p.2) (s := dataLe false fun d : PyData => d) (f := Prod.snd) (l := xs.zip ds) (fun a _ b _ => rfl)
        rw [List.map_snd_zip (by omega)] at e3
        exact e3.symm
      rw [e2]
      exact dens_pairs fun p hp => pairs_dens dn p ((List.mergeSort_perm _ _).mem_iff.mp hp)
    have hn : H (s.heap.objs.size + 1) = none := I.hok.fresh (Nat.le_succ _)
    refine ⟨.ref (s.heap.objs.size + 1), upd H (s.heap.objs.size + 1) (.lst (((xs.zip ds).mergeSort (dataLe false fun p => p.2)).map (·.1))), I.laid (t' := s.toks) (fun b u e => sortedAll_old e) (Nat.le_succ _) ⟨?_, out, c, vy, at'⟩, rfl, q _ _ hn dy⟩
    rw [List.length_map, List.length_mergeSort, List.length_zip, line24]; omega
theorem dn_sortF (c : Cz X W k) (hg : Gl X "sorted") (hm : X.mg "sorted" = none) (ha : DA X F0 H0 W [e] fs) (he : starEach [e] X.env = (false, eval e X.env) :: starEach [] X.env := by rfl) (hpl : (backTo pos (starEach [] X.env)).any (·.1) = false := by rfl) :
    DN X F0 H0 W (.Call (.Name "sorted" p) [e] [] pos) (dSortF fs) := by
  have hu : X.A.units + 64 < cLine := by have := c.room.un; omega
  refine PE.imp (pe_callB (cr_sortF hu) hg hm PyProof.Rows.boot_sorted ha (by decide) (by decide) he hpl) fun σ H Q ⟨ρ, F, sr, q⟩ => ?_
  refine ⟨ρ, F, sr, ?_⟩
  unfold dSortF at q
  cases e : fs ρ with
  | exc x => simp only [e, bind_exc] at q; exact q
  | bad => simp only [e, bind_bad] at q
  | ok ds =>
    simp only [e, bind_ok] at q
    intro vs H1 F1 g1 r1
    cases r1 with
    | nil => exact q.elim
    | cons d1 d2 =>
      cases d2 with
      | cons _ _ => cases d1 <;> exact q.elim
      | nil =>
        cases d1 with
        | @lst l xs zs hs hd =>
          simp only [sortW] at q
          by_cases hz : flatAlike zs = true ∧ zs.length ≤ 16777216
          · simp only [if_pos hz] at q
            exact ⟨l, xs, zs, F1, rfl, g1.fh, g1.fh.sl hs, hd, hz.1, hz.2, fun p ys hp hd2 => q p ys _ F1 (g1.trans (Gr.newO g1.fh hp)) (not_of_none g1.hh hp) upd_same (not_of_none g1.fh hp) hd2⟩
          · simp only [if_neg hz] at q
        | _ => exact q.elim
end
theorem sw_trueD {kx vx : Expr} {gs : List Comprehension} {scope : Scope} {pos py : Pos} {y : Str} {l : Nat} {env : PySem.Env} (h1 : env.scope.kind = .function) (h2 : env.scope.names.lookup y = some .local) (h3 : (py.line == pos.line) = true)
    (h4 : (scope.names.any fun (n, k) => n == y && (k == .local || k == .cell)) = false) : swapsWith (.DictComp kx vx gs scope pos) (some (.Name y py)) l env = pure true := by
  have e1 : env.kindOf y = some .local := h2
  have e2 : env.blockKind = .function := by unfold PySem.Env.blockKind; rw [h1] <;> rfl
  unfold swapsWith
  simp only [e2, e1, h4, Expr.pos, h3]
  rfl
end DL

/-! DL17: the place of a text in a written tuple; defs that return a new list. -/
namespace DL
open PySem PySem.Spec PyProof.Rows L2
/-! ### T.index(e), T a written tuple of texts -/
def tupN (K : PySem.W.Frag) (a : Addr) : Bool := match K.lookup a with
  | some ⟨.type "tuple", none, _, _⟩ => true
  | _ => false
def kidx (d x : PyData) : Option PyData := match d, x with
  | .tuple ds, .str z => (strsOf ds).bind fun ys => if z ∈ ys then some (.int ((ys.idxOf z : Nat) : Int)) else none
  | _, _ => none
section
variable {X : Cx} {F0 H0 : Hp} {W : WX} {p apos cpos : Pos} {e : Expr} {f : Sls → Res PyData} {x : Str} {d : PyData}
theorem tup_ty {a : Addr} {H : Hp} (h : tupN X.K a = true) : tyV X.K "tuple" (.ref a) H := by
  unfold tupN at h
  split at h
  · rename_i z w e
    exact .inr (.inl ⟨rfl, _, e, rfl, rfl⟩)
  · cases h
theorem mt_tidx : MtR X "tuple.index" (fun v vs H Q => ∃ a ds z F, v = .ref a ∧ vs = [.str z] ∧ Ex F H ∧ Den X.K F (.ref a) (.tuple ds) ∧ Rop X.K (kidx (.tuple ds) (.str z)) H F Q) := by
  intro pins s σ H v vs w us Q I rv rs h
  obtain ⟨a, ds, z, F, rfl, rfl, ex, da, q⟩ := h
  cases rv
  cases rs with
  | cons r1 r2 =>
    cases r2
    obtain ⟨t, rfl⟩ := r1
    cases da with
    | tup h1 h2 =>
      have q' : Rop X.K ((strsOf ds).bind fun ys => if z ∈ ys then some (PyData.int ((ys.idxOf z : Nat) : Int)) else none) H F Q := q
      cases e : strsOf ds with
      | none => rw [e] at q'; exact q'.elim
      | some ys =>
        rw [e] at q'
        simp only [Option.bind_some] at q'
        by_cases hz : z ∈ ys
        · rw [if_pos hz] at q'
          have e2 := strsOf_eq e
          subst e2
          have e3 := h2.strs
          subst e3
          obtain ⟨its, rx, it, _⟩ := I.tuple (ex.st h1)
          obtain ⟨o, ho, hc, n, hd⟩ := it
          exact SeqAt.tuple_index_strs ⟨o, ho, hc, n, hd⟩ rx.strs hz ⟨.int ((ys.idxOf z : Nat) : Int), H, I.tok _, ⟨_, rfl⟩, q'.val ex (.int _)⟩
        · rw [if_neg hz] at q'; exact q'.elim
theorem de_kidx (hg : Gl X x) (hm : ∃ a, X.mg x = some (.ref a) ∧ (∀ F, Den X.K F (.ref a) d) ∧ tupN X.K a = true) (he : DE X F0 H0 W e f) (hx : (x == ("__debug__" : Str)) = false := by decide)
    (hbase : attributeBase (.Name x p) "index" X.env (eval (.Name x p) X.env) = eval (.Name x p) X.env := by rfl)
    (hfew : ((backTo cpos (starEach (e :: []) X.env)).all (fun x => !x.1) && (backToKw cpos (keywordEach [] X.env)).all (fun x => x.1.isSome)
      && decide ((e :: []).length + ([] : List Keyword).length + (if ([] : List Keyword).isEmpty then 0 else 1) < 30)) = true := by rfl)
    (hline : (apos.endLine == cpos.line) = true := by rfl) (hs : starEach (e :: []) X.env = (false, eval e X.env) :: starEach [] X.env := by rfl) (hplain : (backTo cpos (starEach [] X.env)).any (·.1) = false := by rfl) :
    DE X F0 H0 W (.Call (.Attribute (.Name x p) "index" apos) (e :: []) [] cpos) (d1 (kidx d) f) := by
  obtain ⟨a, hm, hd, ht⟩ := hm
  refine PE.imp (pe_bm PySem.F.plainAttrs_tuple PySem.F.slot_tuple_index PySem.F.type_tuple_index mt_tidx (pe_glob (v := .ref a) hg hm rfl hx) (pa_cons he pa_nil hs) hbase hfew hline hs hplain) fun σ H Q h => ?_
  refine ⟨tup_ty ht, ?_⟩
  obtain ⟨ρ, F, sr, q⟩ := h
  obtain ⟨ρ1, F1, sr1, q1⟩ := rd_step (R := Den X.K) sr q
  refine ⟨ρ1, F1, sr1, q1.imp fun v H1 F2 b g1 r1 k => ?_⟩
  obtain ⟨b', F3, g3, r3, sr3, q3⟩ := k v H1 F2 (.refl g1.fh) r1
  have dd := hd F3
  cases r3 with
  | str z =>
    cases dd with
    | tup h1 h2 => exact ⟨a, _, z, F3, rfl, rfl, sr3.ex, .tup h1 h2, Rest.rop q3⟩
    | _ => exact q3.elim
  | _ =>
    cases dd <;> exact q3.elim
end
/-! ### a + b, a new list -/
def catR (x y : PyData) : Res (List PyData) := match x, y with
  | .list a, .list b => if a.length + b.length ≤ 16777216 then .ok (a ++ b) else .bad
  | _, _ => .bad
def dCat (f1 f2 : Sls → Res PyData) (ρ : Sls) : Res (List PyData) := f1 ρ >>= fun x => f2 ρ >>= fun y => catR x y
section
variable {X : Cx} {F0 H0 : Hp} {W : WX} {pos : Pos} {a b : Expr} {f1 f2 : Sls → Res PyData}
theorem dn_cat (ha : DE X F0 H0 W a f1) (hb : DE X F0 H0 W b f2) : DN X F0 H0 W (.BinOp a .Add b pos) (dCat f1 f2) := by
  refine PE.imp (pe_op op_catS ha hb) fun σ H Q ⟨ρ, F, sr, q⟩ => ?_
  unfold dCat at q
  refine ⟨ρ, F, sr, ?_⟩
  cases e1 : f1 ρ with
  | exc x => simp only [e1, bind_exc] at q; exact q
  | bad => simp only [e1, bind_bad] at q
  | ok x =>
    simp only [e1, bind_ok] at q
    intro v H1 F1 g1 r1
    refine ⟨ρ, F1, sr.grow g1, ?_⟩
    cases e2 : f2 ρ with
    | exc y =>
      simp only [e2, bind_exc] at q
      exact fun cls dd H2 F2 g2 r2 => q cls dd H2 F2 (g1.trans g2) r2
    | bad => simp only [e2, bind_bad] at q
    | ok y =>
      simp only [e2, bind_ok] at q
      intro u H2 F2 g2 r2
      have r1' := r1.mono g2.ff
      cases r1' with
      | lst h1 d1 =>
        cases r2 with
        | lst h2 d2 =>
          rename_i l1 xs ds l2 ys es
          by_cases hz : ds.length + es.length ≤ 16777216
          · rw [show catR (.list ds) (.list es) = .ok (ds ++ es) from if_pos hz] at q
            have k1 := d1.length
            have k2 := d2.length
            refine ⟨_, _, xs, ys, rfl, rfl, g2.fh.sl h1, g2.fh.sl h2, by rw [line24]; omega, fun p hp => ?_⟩
            have hp1 : H1 p = none := not_of_none g2.hh hp
            have hp0 : H p = none := not_of_none g1.hh hp1
            exact q p _ _ F2 (g1.trans (g2.trans (Gr.newO g2.fh hp))) hp0 upd_same (not_of_none g2.fh hp) (d1.append d2)
          · rw [show catR (.list ds) (.list es) = .bad from if_neg hz] at q; exact q.elim
        | _ => exact q.elim
      | _ => exact q.elim
end
end DL

/-! DL18: defs that return a new list, two values at once of which the first is a new list. -/
namespace DL
open PySem PySem.Spec PyProof.Rows L2
/-! ### bodies that return a new list -/
section
variable (mg : Str → Option Value) (K : PySem.W.Frag) (F0 H0 : Hp) (W : WX)
/-- as Fin, but what is returned is a list that nobody else has -/
def FinN (o : Out) (D : Ends) (F : Hp) : Prop := match o with
  | .rt d => match d with
    | .list ds => ∀ a xs H' F', Gr F0 H0 F' H' → Ex F F' → H0 a = none → H' a = some (.lst xs) → F' a = none → Dens K F' xs ds → D.rt (.ref a) H'
    | _ => False
  | o => Fin mg K F0 H0 W o D F
def sOfN (g : Sls → Out) : TS := fun D σ H => ∃ ρ F, SR K F0 H0 ρ σ H F ∧ FinN mg K F0 H0 W (g ρ) D F
end
section
variable {mg : Str → Option Value} {K : PySem.W.Frag} {F0 H0 : Hp} {W : WX}
theorem FinN.weak {o : Out} {D : Ends} {F F1 : Hp} (e : Ex F F1) (h : FinN mg K F0 H0 W o D F) : FinN mg K F0 H0 W o D F1 := by
  cases o with
  | rt d =>
    cases d with
    | list ds => exact fun a xs H' F' g x => h a xs H' F' g (e.trans x)
    | _ => exact h
  | nx ρ' => exact Fin.weak (mg := mg) (W := W) (o := .nx ρ') e h
  | bk ρ' => exact Fin.weak (mg := mg) (W := W) (o := .bk ρ') e h
  | ct ρ' => exact Fin.weak (mg := mg) (W := W) (o := .ct ρ') e h
  | exc x ρ' => exact Fin.weak (mg := mg) (W := W) (D := D) (o := .exc x ρ') e h
  | bad => exact h
end
section
variable (X : Cx) (F0 H0 : Hp) (W : WX)
def DSN (st : Stmt) (g : Sls → Out) : Prop := PS X st (sOfN X.mg X.K F0 H0 W g)
def DSsN (st : List Stmt) (g : Sls → Out) : Prop := PSs X st (sOfN X.mg X.K F0 H0 W g)
end
/-- without a return -/
def gNoRt (g : Sls → Out) (ρ : Sls) : Out := match g ρ with
  | .rt _ => .bad
  | o => o
def gRetL (fs : Sls → Res (List PyData)) : Sls → Out := sE fs fun ds _ => .rt (.list ds)
def gRetO (i : Nat) (ρ : Sls) : Out := match ρ[i]? with
  | some (.own ds) => .rt (.list ds)
  | _ => .bad
section
variable {X : Cx} {F0 H0 : Hp} {W : WX} {pos p : Pos} {e c : Expr} {st : Stmt} {rest b1 b2 : List Stmt} {fs : Sls → Res (List PyData)} {t : Sls → Res Bool} {g g1 g2 : Sls → Out} {k i : Nat} {x : Str}
theorem dsN_of (h : DS X F0 H0 W st g) : DSN X F0 H0 W st (gNoRt g) := PS.imp h fun D σ H ⟨ρ, F, sr, q⟩ => by
  refine ⟨ρ, F, sr, ?_⟩
  unfold gNoRt at q
  cases e : g ρ with
  | rt d => rw [e] at q; exact q.elim
  | nx ρ' => rw [e] at q; exact q
  | bk ρ' => rw [e] at q; exact q
  | ct ρ' => rw [e] at q; exact q
  | exc x ρ' => rw [e] at q; exact q
  | bad => rw [e] at q; exact q
theorem dssN_nil : DSsN X F0 H0 W [] gNext := PSs.imp pss_nil fun D σ H ⟨ρ, F, sr, q⟩ => q σ H F sr (.refl _)
theorem dssN_cons (h1 : DSN X F0 H0 W st g1) (h2 : DSsN X F0 H0 W rest g2) : DSsN X F0 H0 W (st :: rest) (gSeq g1 g2) := by
  refine PSs.imp (pss_cons h1 h2) fun D σ H ⟨ρ, F, sr, q⟩ => ⟨ρ, F, sr, ?_⟩
  unfold gSeq at q
  cases e : g1 ρ with
  | nx ρ' =>
    rw [e] at q
    exact fun σ' H' F' sr' x => ⟨ρ', F', sr', q.weak x⟩
  | rt d =>
    rw [e] at q
    cases d with
    | list ds => exact q
    | _ => exact q.elim
  | bk ρ' => rw [e] at q; exact q
  | ct ρ' => rw [e] at q; exact q
  | exc x ρ' => rw [e] at q; exact q
  | bad => rw [e] at q; exact q
theorem dssN_one (h1 : DSN X F0 H0 W st g) : DSsN X F0 H0 W [st] g := pss_one h1
theorem dsN_ret (he : DN X F0 H0 W e fs) : DSN X F0 H0 W (.Return (some e) pos) (gRetL fs) := by
  refine PS.imp (ps_ret he) fun D σ H ⟨ρ, F, sr, q⟩ => ⟨ρ, F, sr, ?_⟩
  unfold gRetL sE at q
  cases e1 : fs ρ with
  | exc x => rw [e1] at q; exact fun cls dd H1 F1 g r => q cls dd σ H1 F1 (sr.grow g) g.ff r
  | bad => rw [e1] at q; exact q
  | ok ds =>
    rw [e1] at q
    intro a xs H1 F1 g ha hx hF dn
    exact q a xs H1 F1 (sr.grow g).gr g.ff (not_of_none sr.gr.hh ha) hx hF dn
theorem dsN_retO (hv : PE X (.Name x p) (tVar i)) : DSN X F0 H0 W (.Return (some (.Name x p)) pos) (gRetO i) := by
  refine PS.imp (ps_ret hv) fun D σ H ⟨ρ, F, sr, q⟩ => ?_
  unfold gRetO at q
  cases e1 : ρ[i]? with
  | none => simp only [e1] at q; exact q.elim
  | some s =>
    cases s with
    | own ds =>
      simp only [e1] at q
      obtain ⟨a, xs, e2, h1, h2, h3⟩ := sr.sl i _ e1
      exact ⟨.ref a, e2, q a xs H F sr.gr (.refl _) (sr.own0 i a ⟨⟨ds, e1⟩, e2⟩) h1 h2 h3⟩
    | _ => simp only [e1] at q; exact q.elim
theorem dsN_if (hc : DT X F0 H0 W c t) (ha : DSsN X F0 H0 W b1 g1) (hb : DSsN X F0 H0 W b2 g2) : DSN X F0 H0 W (.If c b1 b2 pos) (gIf t g1 g2) := by
  refine PS.imp (ps_if hc ha hb) fun D σ H ⟨ρ, F, sr, q⟩ => ⟨ρ, F, sr, ?_⟩
  unfold gIf sE at q
  cases e1 : t ρ with
  | exc x => rw [e1] at q; exact fun cls dd H1 F1 g r => q cls dd σ H1 F1 (sr.grow g) g.ff r
  | bad => rw [e1] at q; exact q
  | ok b =>
    rw [e1] at q
    intro v H1 F1 g r
    obtain rfl : v = b := r
    cases v with
    | true => simp only [if_true] at q ⊢; exact ⟨ρ, F1, sr.grow g, q.weak g.ff⟩
    | false => simp only [Bool.false_eq_true, if_false] at q ⊢; exact ⟨ρ, F1, sr.grow g, q.weak g.ff⟩
theorem DSN.frz (i : Nat) (h : DSN X F0 H0 W st g) : DSN X F0 H0 W st (fun ρ => g (frz i ρ)) := PS.imp h fun D σ H ⟨ρ, F, sr, q⟩ => by
  obtain ⟨F', hx, sr'⟩ := frz_sr i sr
  exact ⟨_, F', sr', q.weak hx⟩
end
/-! ### defs that return a new list -/
def spN (mg : Str → Option Value) (K : PySem.W.Frag) (n : Nat) (Fn : List PyData → Res PyData) : Sp := fun vs H Q E => ∃ ds Fz, vs.length = n ∧ Ex Fz H ∧ Dens K Fz vs ds ∧ match Fn ds with
  | .ok d => match d with
    | .list zs => ∀ a xs H' F', Gr Fz H F' H' → H a = none → H' a = some (.lst xs) → F' a = none → Dens K F' xs zs → Q (.ref a) H'
    | _ => False
  | .exc x => ∀ cls dd H' F', Gr Fz H F' H' → ExR mg x cls dd H' F' → E cls dd H'
  | .bad => False
abbrev FnN (P : Program) (w : World) (K : PySem.W.Frag) (mg : Str → Option Value) (base : Heap) (k : Nat) (f : Addr) (fd : FuncData) (ps : List Str) (Fn : List PyData → Res PyData) : Prop :=
  FnOk P w K mg base (L2.CX P w) k f fd ps (spN mg K ps.length Fn)
def normR (r : Res PyData) : Res PyData := match r with
  | .ok (.list zs) => .ok (.list zs)
  | .exc x => .exc x
  | _ => .bad
section
variable {P : Program} {w : World} {K : PySem.W.Frag} {mg : Str → Option Value} {base : Heap} {x qual : Str} {st : Stmt} {f : Addr} {fd : FuncData} {N ps : List Str} {k : Nat} {Fn : List PyData → Res PyData} {g : Sls → Out}
theorem fn_N (Fu : Fun K x qual st f fd) (S : FnScope N ps (defScope st)) (hN : ps.length ≤ N.length)
    (hb : ∀ (cdv : Value) (A : Around) (outer : List PySem.Env) (s : Shared) (H : Hp) (E : XK) (Fz : Hp),
      Cz (cxOf (L2.CX P w) P w K mg base N qual (defScope st) f cdv A outer s H E) (fun cls dd _ H' => E cls dd H') k → DSsN (cxOf (L2.CX P w) P w K mg base N qual (defScope st) f cdv A outer s H E) Fz H (fun cls dd _ H' => E cls dd H') (defBody st) g)
    (hF : ∀ ds, ds.length = ps.length → Fn ds = .bad ∨ (∃ zs, Fn ds = .ok (.list zs) ∧ g (st0 N ds) = .rt (.list zs)) ∨ ∃ x ρ, Fn ds = .exc x ∧ g (st0 N ds) = .exc x ρ) : FnN P w K mg base (k + 1) f fd ps Fn := by
  refine Fu.okX S (fun vs H Q E h => ?_) (fun cdv A outer s H vs Q E hr h => ?_)
  · obtain ⟨ds, Fz, hl, _⟩ := h
    exact hl
  · obtain ⟨ds, Fz, hl, ex, dn, q⟩ := h
    have hlen : ds.length = ps.length := by rw [← dn.length]; exact hl
    refine ⟨_, hb cdv A outer s H E Fz ⟨rfl, takes_of rfl rfl rfl rfl, passes_of rfl, hr⟩, st0 N ds, Fz, st0_sr N (by omega) ex dn, ?_⟩
    rcases hF ds hlen with e | ⟨zs, e1, e2⟩ | ⟨x, ρ, e1, e2⟩
    · rw [e] at q; exact q.elim
    · rw [e1] at q
      rw [e2]
      exact fun a xs H' F' gr x ha hx hF' r => q a xs H' F' gr ha hx hF' r
    · rw [e1] at q
      rw [e2]
      exact fun cls dd σ' H' F' sr' x r => q cls dd H' F' sr'.gr r
theorem FnN.d (G : FnN P w K mg base k f fd ps Fn) : FnD P w K mg base k f fd ps fun ds => normR (Fn ds) := FnOk.imp G fun vs H Q E ⟨ds, Fz, hl, ex, dn, q⟩ => by
  refine ⟨ds, Fz, hl, ex, dn, ?_⟩
  cases e : Fn ds with
  | exc x => simp only [e, normR] at q; exact q
  | bad => simp only [e, normR] at q
  | ok d =>
    cases d with
    | list zs =>
      simp only [e, normR] at q
      intro a xs H' F' gr ha hx hF r
      have g2 := gr.shut ha hx hF (fun _ _ z => by cases z)
      exact q (.ref a) H' (upd F' a (.lst xs)) g2 (.lst (.inl (.inl upd_same)) (r.mono (Ex.new hF)))
    | _ => simp only [e, normR] at q
end
def outN : Out → Res PyData
  | .rt (.list ds) => .ok (.list ds)
  | .exc x _ => .exc x
  | _ => .bad
theorem outN_is (o : Out) : outN o = .bad ∨ (∃ zs, outN o = .ok (.list zs) ∧ o = .rt (.list zs)) ∨ ∃ x ρ, outN o = .exc x ∧ o = .exc x ρ := by
  cases o with
  | rt d =>
    cases d with
    | list zs => exact .inr (.inl ⟨zs, rfl, rfl⟩)
    | _ => exact .inl rfl
  | exc x ρ => exact .inr (.inr ⟨x, ρ, rfl, rfl⟩)
  | _ => exact .inl rfl
theorem FnN.dO {P : Program} {w : World} {K : PySem.W.Frag} {mg : Str → Option Value} {base : Heap} {f : Addr} {fd : FuncData} {N ps : List Str} {k : Nat} {g : Sls → Out} (G : FnN P w K mg base k f fd ps fun ds => outN (g (st0 N ds))) : FnD P w K mg base k f fd ps fun ds => outN (g (st0 N ds)) :=
  FnD.imp G.d fun ds _ => .inr <| by
    show normR (outN (g (st0 N ds))) = _
    rcases outN_is (g (st0 N ds)) with e | ⟨zs, e, _⟩ | ⟨x, ρ, e, _⟩ <;> rw [e] <;> rfl
def listR (r : Res PyData) : Res (List PyData) := match r with
  | .ok (.list ds) => .ok ds
  | .exc x => .exc x
  | _ => .bad
def dCallN (Fn : List PyData → Res PyData) (fs : Sls → Res (List PyData)) (ρ : Sls) : Res (List PyData) := fs ρ >>= fun as => listR (Fn as)
section
variable {X : Cx} {F0 H0 : Hp} {W : WX} {pos p : Pos} {e : Expr} {es : List Expr} {fs : Sls → Res (List PyData)} {j k : Nat} {f : Addr} {fd : FuncData} {x : Str} {ps : List Str} {Fn : List PyData → Res PyData}
theorem callN_run {σ : L2.St} {H : Hp} {Q : VK} {n : Nat} (hn : ∀ ρ ds, fs ρ = .ok ds → ds.length = n) (h : nOf F0 H0 W X.mg X.K (dCallN Fn fs) σ H Q) :
    tCallS (spN X.mg X.K n Fn) (WE W) (rd X.mg X.K F0 H0 W (Dens X.K) fs) σ H Q := by
  obtain ⟨ρ, F, sr, q⟩ := h
  refine ⟨ρ, F, sr, ?_⟩
  unfold dCallN at q
  cases e : fs ρ with
  | exc x => simp only [e, bind_exc] at q; exact q
  | bad => simp only [e, bind_bad] at q
  | ok ds =>
    simp only [e, bind_ok] at q
    intro vs H1 F1 g1 r1
    refine ⟨ds, F1, by rw [r1.length]; exact hn ρ ds e, g1.fh, r1, ?_⟩
    cases e2 : Fn ds with
    | exc x =>
      simp only [e2, listR] at q
      exact fun cls dd H' F' g r => q cls dd H' F' (g1.trans g) r
    | bad => simp only [e2, listR] at q
    | ok d =>
      cases d with
      | list zs =>
        simp only [e2, listR] at q
        exact fun a xs H' F' g ha hx hF dn => q a xs H' F' (g1.trans g) (not_of_none g1.hh ha) hx hF dn
      | _ => simp only [e2, listR] at q
theorem dn_callN (G : FnN X.prog X.w X.K X.mg X.base j f fd ps Fn) (c : Cz X W k) (hj : j ≤ k) (hg : Gl X x) (hm : X.mg x = some (.ref f)) (hk : PySem.W.keepIn X.K (.ref f) = true) (hb : Binds X.K fd ps []) (ha : DA X F0 H0 W (e :: es) fs)
    (hn : ∀ ρ ds, fs ρ = .ok ds → ds.length = ps.length) (hdb : (x == ("__debug__" : Str)) = false := by decide) (he : starEach (e :: es) X.env = (false, eval e X.env) :: starEach es X.env := by rfl) (hpl : (backTo pos (starEach es X.env)).any (·.1) = false := by rfl) :
    DN X F0 H0 W (.Call (.Name x p) (e :: es) [] pos) (dCallN Fn fs) :=
  PE.imp (pe_callS G (c.room.mono hj) hg hm hk hb (fun σ => passAt c.tk σ) ha hdb he hpl) fun _ _ _ h => callN_run hn h
end
/-! ### x, y = a new list, a value -/
def gParN (i j : Nat) (fs : Sls → Res (List PyData)) (f : Sls → Res PyData) : Sls → Out := sE fs fun ds => sE f fun d ρ => .nx ((ρ.set i (.own ds)).set j (.val d))
section
variable {X : Cx} {F0 H0 : Hp} {W : WX} {pos : Pos} {i j : Nat} {x y : Str} {a b : Expr} {px py pt : Pos} {fs : Sls → Res (List PyData)} {f : Sls → Res PyData}
theorem ds_parN {kt k2 pt2} (hc : X.calm = true) (hN : X.N.Nodup) (hi : X.N[i]? = some x) (hj : X.N[j]? = some y) (hij : i ≠ j)
    (hx : X.env.scope.names.lookup x = some .local) (hy : X.env.scope.names.lookup y = some .local) (ha : DN X F0 H0 W a fs) (hb : DE X F0 H0 W b f)
    (hw : swappedStores [.Tuple [.Name x px, .Name y py] kt pt] (.Tuple [a, b] k2 pt2) X.env = pure (some [x, y]))
    (hs : swapsWithSole [.Tuple [.Name x px, .Name y py] kt pt] (.Tuple [a, b] k2 pt2) pos.line X.env = pure false := by rfl)
    (h1 : starEach [b] X.env = (false, eval b X.env) :: starEach [] X.env := by rfl) (h2 : starEach [a, b] X.env = (false, eval a X.env) :: starEach [b] X.env := by rfl) :
    DS X F0 H0 W (.Assign [.Tuple [.Name x px, .Name y py] kt pt] (.Tuple [a, b] k2 pt2) pos) (gParN i j fs f) := by
  refine PS.imp (ps_par hc hN hi hj hij hx hy (pa_cons ha (pa_cons hb pa_nil h1) h2) hw hs) fun D σ H ⟨ρ, F, sr, q⟩ => ⟨ρ, F, sr, ?_⟩
  unfold gParN sE at q
  cases e1 : fs ρ with
  | exc z => simp only [e1] at q; exact fun cls dd H1 F1 g r => q cls dd σ H1 F1 (sr.grow g) g.ff r
  | bad => simp only [e1] at q; exact q
  | ok ds =>
    simp only [e1] at q
    intro l xs H1 F1 g1 hl hx1 hF dn
    refine ⟨ρ, F1, sr.grow g1, ?_⟩
    cases e2 : f ρ with
    | exc z => simp only [e2] at q; exact fun cls dd H2 F2 g r => q cls dd σ H2 F2 ((sr.grow g1).grow g) (g1.ff.trans g.ff) r
    | bad => simp only [e2] at q; exact q
    | ok d =>
      simp only [e2] at q
      intro u H2 F2 g2 du
      have sr2 := (sr.grow g1).grow g2
      have hF2 : F2 l = none := g2.nf l hF (by rw [hx1]; simp)
      have own : ∀ m, ¬ OwnAt ρ σ m l := fun m o => sr.ownNe o hl
      have sr3 := sr2.setO (g2.hh l _ hx1) hF2 (not_of_none sr.gr.hh hl) own (dn.mono g2.ff) i
      exact ⟨.ref l, u, rfl, q _ H2 F2 (sr3.set du j) (g1.ff.trans g2.ff)⟩
end
/-! ### a written dict with texts as keys -/
inductive PV (K : PySem.W.Frag) (F : Hp) : List (V × V) → List (Str × PyData) → Prop
  | nil : PV K F [] []
  | cons {k : Str} {v : V} {d : PyData} {ps : List (V × V)} {ds : List (Str × PyData)} : Den K F v d → PV K F ps ds → PV K F ((.str k, v) :: ps) ((k, d) :: ds)
def DPs (X : Cx) (F0 H0 : Hp) (W : WX) (pos : Pos) (keys : List (Option Expr)) (values : List Expr) (fs : Sls → Res (List (Str × PyData))) : Prop :=
  ∃ trs, PPs X pos keys values trs ∧ ∀ σ H Q, rd X.mg X.K F0 H0 W (PV X.K) fs σ H Q → tPairs trs σ H Q
def dPair (k : Str) (f : Sls → Res PyData) (fs : Sls → Res (List (Str × PyData))) (ρ : Sls) : Res (List (Str × PyData)) := f ρ >>= fun d => fs ρ >>= fun ds => .ok ((k, d) :: ds)
def dictR (ds : List (Str × PyData)) : Res PyData := if (ds.map (·.1)).Nodup ∧ ds.length ≤ 15 then .ok (.dict (ds.map fun p => (.str p.1, p.2))) else .bad
def dDict (fs : Sls → Res (List (Str × PyData))) (ρ : Sls) : Res PyData := fs ρ >>= dictR
theorem pv_kvs {K : PySem.W.Frag} {F : Hp} : ∀ {ps : List (V × V)} {ds : List (Str × PyData)}, PV K F ps ds → ∃ kvs : List (Key × V), ps = kvs.map (fun kv => (kV kv.1, kv.2)) ∧ DenKV K F kvs (ds.map fun p => (.str p.1, p.2)) ∧ kvs.map (·.1) = ds.map fun p => (.inr p.1 : Key)
  | _, _, .nil => ⟨[], rfl, .nil, rfl⟩
  | _, _, @PV.cons _ _ k v d ps ds h r => by
    obtain ⟨kvs, e1, e2, e3⟩ := pv_kvs r
    exact ⟨(.inr k, v) :: kvs, by rw [List.map_cons, ← e1]; rfl, .cons (k := .inr k) h e2, by rw [List.map_cons, List.map_cons, e3]⟩
theorem merge_new : ∀ (qs acc : List (Key × V)), ((acc ++ qs).map (·.1)).Nodup → mergeK acc qs = acc ++ qs
  | [], acc, _ => by rw [List.append_nil]; rfl
  | q :: qs, acc, h => by
    have e : putK acc q.1 q.2 = acc ++ [q] := by
      unfold putK
      rw [if_neg]
      intro c
      obtain ⟨p, h1, h2⟩ := List.any_eq_true.mp c
      rw [List.map_append, List.nodup_append] at h
      exact h.2.2 p.1 (List.mem_map.mpr ⟨p, h1, rfl⟩) q.1 (List.mem_map.mpr ⟨q, List.mem_cons_self, rfl⟩) (of_decide_eq_true h2)
    have e2 : acc ++ q :: qs = (acc ++ [q]) ++ qs := by simp
    have : mergeK acc (q :: qs) = mergeK (putK acc q.1 q.2) qs := rfl
    rw [this, e, e2]
    exact merge_new qs (acc ++ [q]) (e2 ▸ h)
section
variable {X : Cx} {F0 H0 : Hp} {W : WX} {pos p : Pos} {keys : List (Option Expr)} {values : List Expr} {fs : Sls → Res (List (Str × PyData))} {k : Str} {j : Nat} {e o : Expr} {f g : Sls → Res PyData}
theorem dps_nil : DPs X F0 H0 W pos [] [] (fun _ => .ok []) := ⟨[], pps_nil, fun σ H Q ⟨ρ, F, sr, q⟩ => q [] H F (.refl sr.ex) .nil⟩
theorem dps_cons (he : DE X F0 H0 W e f) (hr : DPs X F0 H0 W pos keys values fs) : DPs X F0 H0 W pos (some (.Constant (.str k) j p) :: keys) (e :: values) (dPair k f fs) := by
  obtain ⟨trs, h1, h2⟩ := hr
  refine ⟨_, pps_cons (pe_str (x := k)) he h1, fun σ H Q ⟨ρ, F, sr, q⟩ => ?_⟩
  obtain ⟨ρ1, F1, sr1, q1⟩ := rd_step (R := Den X.K) sr q
  refine ⟨ρ1, F1, sr1, q1.imp fun v H1 F2 a g1 r1 kk => ?_⟩
  obtain ⟨a', F3, g3, r3, sr3, q3⟩ := kk v H1 F2 (.refl g1.fh) r1
  refine h2 σ H1 _ ?_
  obtain ⟨ρ4, F4, sr4, q4⟩ := rd_step (R := PV X.K) sr3 q3
  refine ⟨ρ4, F4, sr4, q4.imp fun u H5 F5 b g5 r5 k5 => ?_⟩
  obtain ⟨b', F6, g6, r6, sr6, q6⟩ := k5 u H5 F5 (.refl g5.fh) r5
  exact q6 _ H5 F6 (.refl sr6.ex) (.cons (r3.mono g6.ff) r6)
theorem de_disp (h : DPs X F0 H0 W pos keys values fs) (hall : keys.all (·.isSome) = true := by rfl) (hl : keys.length = values.length := by rfl) (h0 : keys ≠ [] := by simp) (h15 : keys.length ≤ 15 := by decide) : DE X F0 H0 W (.Dict keys values pos) (dDict fs) := by
  obtain ⟨trs, h1, h2⟩ := h
  refine PE.imp (pe_disp h1 hall hl h0 h15) fun σ H Q ⟨ρ, F, sr, q⟩ p hp => h2 σ _ _ ?_
  have g0 : Gr F H F (upd H p (.dK [])) := Gr.newO sr.ex hp
  refine ⟨ρ, F, sr.grow g0, ?_⟩
  unfold dDict at q
  cases e1 : fs ρ with
  | exc x => simp only [e1, bind_exc] at q; exact fun cls dd H1 F1 g r => q cls dd H1 F1 (g0.trans g) r
  | bad => simp only [e1, bind_bad] at q; exact q
  | ok ds =>
    simp only [e1, bind_ok] at q
    intro ps H2 F2 g2 pv
    have hp2 : H2 p = some (.dK []) := g2.hh p _ upd_same
    have hF : F p = none := not_of_none sr.ex hp
    have hF2 : F2 p = none := g2.nf p hF (by rw [upd_same]; simp)
    unfold dictR at q
    by_cases hn : (ds.map (·.1)).Nodup ∧ ds.length ≤ 15
    · rw [if_pos hn] at q
      obtain ⟨kvs, k1, k2, k3⟩ := pv_kvs pv
      have hnd : (kvs.map (·.1)).Nodup := by
        rw [k3]
        have : (ds.map fun p => (.inr p.1 : Key)) = (ds.map (·.1)).map (Sum.inr : Str → Key) := by rw [List.map_map]; rfl
        rw [this]
        exact List.pairwise_map.mpr (hn.1.imp fun {a b} hab e => hab (Sum.inr.inj e))
      have lk : kvs.length = ds.length := by have := congrArg List.length k3; rwa [List.length_map, List.length_map] at this
      refine ⟨hp2, kvs, k1, by rw [lk]; exact hn.2, ?_⟩
      rw [merge_new kvs [] (by rw [List.nil_append]; exact hnd), List.nil_append]
      have gg : Gr F H F2 H2 := g0.trans g2
      refine q (.ref p) _ (upd F2 p (.dK kvs)) ⟨gg.ff.trans (Ex.new hF2), fun b u z => ?_, fun b u z => ?_, fun b z1 z2 => ?_, fun b ob u z1 z2 => ?_⟩ (.dic upd_same (k2.mono (Ex.new hF2)))
      · have hb : b ≠ p := fun w => by rw [w, hp] at z; cases z
        rw [upd_ne hb]; exact gg.hh b u z
      · by_cases hb : b = p
        · rw [hb, upd_same] at z ⊢; exact z
        · rw [upd_ne hb] at z ⊢; exact g2.fh b u z
      · have hb : b ≠ p := fun w => z2 (w ▸ hp)
        rw [upd_ne hb]; exact gg.nf b z1 z2
      · by_cases hb : b = p
        · rw [hb, upd_same] at z2; cases z2
        · rw [upd_ne hb] at z2; exact gg.nz b ob u z1 z2
    · rw [if_neg hn] at q; exact q.elim
/-! d[e], e a text -/
def dgetD (d x : PyData) : Option PyData := match d, x with
  | .dict ps, .str z => (ps.find? fun p => match p.1 with
    | .str w => decide (w = z)
    | _ => false).map (·.2)
  | _, _ => none
theorem denkv_find {K : PySem.W.Frag} {F : Hp} {z : Str} {d : PyData} : ∀ {kvs : List (Key × V)} {ps : List (PyData × PyData)}, DenKV K F kvs ps → ((ps.find? fun p => match p.1 with
    | .str w => decide (w = z)
    | _ => false).map (·.2)) = some d → ∃ v, valV kvs (.inr z) = some v ∧ Den K F v d
  | _, _, .nil, h => by cases h
  | _, _, @DenKV.cons _ _ k v kvs d' ps hd r, h => by
    cases k with
    | inl i =>
      rw [List.find?_cons] at h
      obtain ⟨u, h1, h2⟩ := denkv_find r h
      exact ⟨u, by rw [valV_neg (by simp)]; exact h1, h2⟩
    | inr w =>
      by_cases hw : w = z
      · subst hw
        rw [List.find?_cons] at h
        simp [kD] at h
        subst h
        exact ⟨v, valV_pos rfl, hd⟩
      · rw [List.find?_cons] at h
        simp only [kD, decide_eq_false hw] at h
        obtain ⟨u, h1, h2⟩ := denkv_find r h
        exact ⟨u, by rw [valV_neg (fun q => hw (Sum.inr.inj q))]; exact h1, h2⟩
theorem de_dget {q : Nat} (c : Cz X W q) (ho : DE X F0 H0 W o f) (he : DE X F0 H0 W e g) (hs : NoSl e := by intro _ _; rfl) : DE X F0 H0 W (.Subscript o e pos) (d2 dgetD f g) := by
  have hu : X.A.units + 1 < cLine := by have := c.room.un; omega
  refine PE.imp (pe_dget hu ho he hs) fun σ H Q h => ?_
  obtain ⟨ρ, F, sr, q⟩ := h
  obtain ⟨ρ1, F1, sr1, q1⟩ := rd_step (R := Den X.K) sr q
  refine ⟨ρ1, F1, sr1, q1.imp fun v H1 F2 a g1 r1 k => ?_⟩
  obtain ⟨a', F3, g3, r3, sr3, q3⟩ := k v H1 F2 (.refl g1.fh) r1
  obtain ⟨ρ4, F4, sr4, q4⟩ := rd_step (R := Den X.K) sr3 q3
  refine ⟨ρ4, F4, sr4, q4.imp fun u H5 F5 b g5 r5 k5 => ?_⟩
  obtain ⟨b', F6, g6, r6, sr6, q6⟩ := k5 u H5 F5 (.refl g5.fh) r5
  have r3' := r3.mono g6.ff
  cases r3' with
  | dic h1 h2 =>
    cases r6 with
    | str z =>
      rename_i ad kvs ps
      cases e1 : dgetD (.dict ps) (.str z) with
      | none => rw [e1] at q6; exact q6.elim
      | some d =>
        rw [e1] at q6
        obtain ⟨w, h3, h4⟩ := denkv_find h2 e1
        exact ⟨ad, w, rfl, .inl ⟨kvs, .inr z, .inl (sr6.ex _ _ h1), rfl, h3.symm⟩, q6 w H5 F6 (.refl sr6.ex) h4⟩
    | _ => exact q6.elim
  | _ => exact q6.elim
end
end DL

/-! DL19: try with several clauses, each with a name. -/
namespace DL
open PySem PySem.Spec PyProof.Rows L2
abbrev ClsT := Value × Nat × (Addr → Value → Option Addr → TS)
/-- behind a clause its name is gone -/
def Ends.drop (D : Ends) (i : Nat) : Ends := ⟨fun σ' H' => D.nx (σ'.set i none) H', D.rt, fun σ' H' => D.bk (σ'.set i none) H', fun σ' H' => D.ct (σ'.set i none) H'⟩
def wCls (K : PySem.W.Frag) (Wo : WX) (D : Ends) : List ClsT → WX
  | [] => Wo
  | q :: r => fun cls d σ H => ∃ yes, PySem.W.exmOne K cls q.1 = some yes ∧
      (yes = true → ∀ a, H a = none → q.2.2 a cls d (Ends.drop D q.2.1) (σ.set q.2.1 (some (.ref a))) H) ∧ (yes = false → wCls K Wo D r cls d σ H)
/-- the clauses, one by one -/
inductive ClsOk (X : Cx) : List ExceptHandler → List ClsT → Prop
  | nil : ClsOk X [] []
  | cons {cn n : Str} {cv : Value} {i : Nat} {ts : Addr → Value → Option Addr → TS} {st0 : Stmt} {sts : List Stmt} {p1 p2 : Pos} {more : List ExceptHandler} {l : List ClsT}
      (slot : X.N[i]? = some n) (lcl : X.env.kindOf n = some .local) (named : Names X cn cv)
      (walk : ∀ (a : Addr) (eo : Obj) (cls : Value) (d : Option Addr) (pn : List (Addr × Obj)), Zc cls d eo → (∃ fl, eo.data = .fields fl) → PSs (X.suite a ((a, eo) :: pn)) (st0 :: sts) (ts a cls d))
      (rest : ClsOk X more l) : ClsOk X (.ExceptHandler (some (.Name cn p1)) (some n) (st0 :: sts) p2 :: more) ((cv, i, ts) :: l)
section
variable {X : Cx} {body : List Stmt} {hd : ExceptHandler} {more : List ExceptHandler} {l : List ClsT} {pos : Pos} {tb : WX → TS} {Wo : WX}
theorem ps_clauses (hst : X.stack = X.env :: X.outer) (hfr : X.env.frame = some X.env.locals) (hN : X.N.Nodup) (tk : Takes X Wo)
    (walk : ∀ (W : WX) (pn : List (Addr × Obj)) (xe : Value → Shared → Prop), Takes (X.tr pn xe) W → PassesOwn (model X.prog X.w) X.A X.env xe → PSs (X.tr pn xe) body (tb W))
    (ok : ClsOk X (hd :: more) l) : PS X (.Try body (hd :: more) [] [] pos) (fun D σ H => tb (wCls X.K Wo D l) D σ H) := by
  refine ⟨fun pins s σ H D inv start => ?_⟩
  have iok := inv.ok
  have allfr : X.A.frames = some (X.env :: X.outer) := iok.frames.trans (by rw [hst])
  refine wpAny_Try_except ?_
  let out : Value → Shared → Prop := fun e u1 => wpAny (model X.prog X.w) X.A (noteFrame e X.env) (fun _ u2 => wpAny (model X.prog X.w) X.A (setFlight e none)
    (fun _ u3 => wpAny (model X.prog X.w) X.A (handleBy e X.env (hd :: more)) (SP X pins D) X.xe u3) X.xe u2) X.xe u1
  have run := (walk (wCls X.K Wo D l) (X.pn ++ pins) out (fun u s' got => ?caught) PassesOwn.looking).run [] s σ H D (inv.toTry _) start
  case caught =>
    obtain ⟨a, B, sI, pins', σ', H', cls, d, rfl, inv0, nb, up, sky, na, os, ag, wish⟩ := got
    have inv1 : Inv X pins σ' H' sI := inv0.ofTry iok
    have sky1 : Sky B (X.env :: X.outer) a (Zc cls d) X.env.locals s'.heap := hst ▸ sky
    refine Sky.land Zc.steady allfr hfr sky1 fun hp fly up2 => ?_
    have inv2 : Inv X pins σ' H' { s' with heap := hp } := inv1.landed nb fly.1 (up.trans up2) os ag
    obtain ⟨eo, fl, hget, hz, hdat⟩ := fly.there
    have off : a ∉ frs (X.env :: X.outer) := fun hm => by
      obtain ⟨_, o2, q2, nf⟩ := fly.2.2.1.mem hm
      rw [hget] at q2
      cases q2
      exact nf _ hdat
    have offL : a ≠ X.env.locals := fun z => off (List.mem_filterMap.mpr ⟨X.env, List.mem_cons_self, by rw [hfr, z]⟩)
    have offF : a ∉ X.fs := fun hm => by
      obtain ⟨e, he, q⟩ := List.mem_filterMap.mp hm
      exact off (List.mem_filterMap.mpr ⟨e, List.mem_cons_of_mem _ he, q⟩)
    have inv3 := inv2.suite hget hdat na offL offF
    have all : ∀ {hs : List ExceptHandler} {l2 : List ClsT}, ClsOk X hs l2 → wCls X.K Wo D l2 cls d σ' H' → wpAny (model X.prog X.w) X.A (handleBy (.ref a) X.env hs) (SP X pins D) X.xe { s' with heap := hp } := by
      intro hs l2 c2
      induction c2 with
      | nil =>
        intro wish
        refine wpAny_handleBy_nil ?_
        obtain ⟨k1, k2, k3, ob, vals, tr, otr, tss, hget2, hz2, hdat2, h1, hr⟩ := id fly
        unfold PySem.passOn
        refine wpAny_bind (wpAny_field hget2 hdat2 h1 ?_)
        rw [if_neg (show ¬ ((Value.ref tr == Value.none) = true) by simp)]
        have away : wpAny (model X.prog X.w) X.A (setFlight (.ref a) X.env.frame) (fun _ u4 => wpAny (model X.prog X.w) X.A (throw (.ref a) : Sem Flow) (SP X pins D) X.xe u4) X.xe { s' with heap := hp } := by
          rw [hfr]
          refine HandSPX.setFlight_upZ fly fun hp2 far up3 => wpAny_throw (tk _ _ ?_)
          exact ⟨a, B, sI, pins, σ', H', cls, d, rfl, inv1, nb, (up.trans up2).trans up3, .inr (.inr (hst ▸ far)), na, os, ag, wish⟩
        first
          | exact wpAny_bind (wpAny_pure (wpAny_bind away))
          | exact wpAny_bind away
      | @cons cn n cv i ts st0 sts p1 p2 more2 l3 slot lcl named walk2 rest ih =>
        intro wish
        obtain ⟨yes, hyes, w1, w2⟩ := wish
        refine wpAny_handleBy_cons (codeAny_handlers_test ?_) (fun z => by cases z)
        have look : PySem.W.Looks (model X.prog X.w) hp (typeOf (.ref a)) cls := fun A Q E u k q => wpAny_typeOf_ref (k _ _ hget) (hz.1.symm ▸ q)
        have look2 := PySem.W.exm_one (M := model X.prog X.w) inv2.kIn look hyes
        have ask : ∀ {Q E : Value → Shared → Prop}, Q cv { s' with heap := hp } → wpAny (model X.prog X.w) (X.A.mark (some (.ref a))) (eval (.Name cn p1) X.env) Q E { s' with heap := hp } := fun {Q E} q => by
          rcases named with ⟨ng, nd2, hm | ⟨hm, hv, hnn⟩⟩
          · exact ld_glob (X := X.suite a ((a, eo) :: (X.pn ++ pins))) inv3 ng hm q nd2
          · exact ld_blt (X := X.suite a ((a, eo) :: (X.pn ++ pins))) inv3 ng hm hv q hnn nd2
        refine ask (look2.here ?_)
        cases yes with
        | false =>
          show wpAny _ X.A (handleBy (.ref a) X.env more2) _ _ _
          exact ih (w2 rfl)
        | true =>
          refine codeAny_handlers_suite_as ?_
          refine HandSPX.lands_againZ fly fun hp2 fly2 up3 => ?_
          have inv4 : Inv X pins σ' H' { s' with heap := hp2 } := inv1.landed nb fly2.1 ((up.trans up2).trans up3) os ag
          obtain ⟨eo2, fl2, hget2, hz2, hdat2⟩ := fly2.there
          have inv5 := inv4.suite hget2 hdat2 na offL offF
          refine store_ok (X := X.suite a ((a, eo2) :: (X.pn ++ pins))) (v := .ref a) inv5 hN slot (.inl lcl) rfl (fun u5 inv6 => ?_) (.inr lcl)
          refine wpAny_mono ((walk2 a eo2 cls d (X.pn ++ pins) hz2 ⟨_, hdat2⟩).run [] u5 _ H' _ inv6 (w1 rfl a na)) (fun fw u6 endd => ?_) (fun _ _ z => z.elim)
          have gone : ∀ {σ7 : L2.St} {H7 : Hp} {Q : Shared → Prop}, Inv (X.suite a ((a, eo2) :: (X.pn ++ pins))) [] σ7 H7 u6 → (∀ u7, Inv X pins (σ7.set i none) H7 u7 → Q u7) →
              wpAny (model X.prog X.w) X.A (do bindName X.env n .none; unbindBehindTheSuite X.env n p2) (fun _ u7 => Q u7) X.xe u6 := fun {σ7 H7 Q} i7 hq => gone_ok (i7.unsuite iok) hN slot lcl hq
          cases fw with
          | next =>
            obtain ⟨σ7, H7, i7, q7⟩ := endd
            exact gone i7 fun u7 i8 => ⟨_, _, i8, q7⟩
          | brk =>
            obtain ⟨σ7, H7, i7, q7⟩ := endd
            exact gone i7 fun u7 i8 => ⟨_, _, i8, q7⟩
          | cont =>
            obtain ⟨σ7, H7, i7, q7⟩ := endd
            exact gone i7 fun u7 i8 => ⟨_, _, i8, q7⟩
          | ret u =>
            obtain ⟨v7, σ7, H7, i7, r7, q7⟩ := endd
            exact gone i7 fun u7 i8 => ⟨_, _, _, i8, r7, q7⟩
    exact all ok wish
  refine wpAny_mono run (fun fw u1 endd => ?_) (fun e u1 z => z)
  cases fw with
  | next =>
    obtain ⟨σ', H', i', q⟩ := endd
    exact wpAny_execs_nil ⟨σ', H', i'.ofTry iok, q⟩
  | brk =>
    obtain ⟨σ', H', i', q⟩ := endd
    exact ⟨σ', H', i'.ofTry iok, q⟩
  | cont =>
    obtain ⟨σ', H', i', q⟩ := endd
    exact ⟨σ', H', i'.ofTry iok, q⟩
  | ret u =>
    obtain ⟨v, σ', H', i', r, q⟩ := endd
    exact ⟨v, σ', H', i'.ofTry iok, r, q⟩
end
/-! ### in plain words -/
abbrev Cl := List (Str × Bool) × Nat × (Addr → Xn → Sls → Out)
noncomputable def gPick : List Cl → Xn → Sls → Out
  | [], x, ρ => .exc x ρ
  | c :: r, x, ρ => match c.1.lookup x.nm with
    | some true => open Classical in if h : ∃ d, ∀ a, c.2.2 a x (ρ.set c.2.1 (.adr a)) = .rt d then .rt h.choose else .bad
    | some false => gPick r x ρ
    | none => .bad
noncomputable def gTryM (cl : List Cl) (g1 : Sls → Out) (ρ : Sls) : Out := match g1 ρ with
  | .exc x ρ1 => gPick cl x ρ1
  | .nx ρ1 => .nx ρ1
  | .rt d => .rt d
  | .bk ρ1 => .bk ρ1
  | .ct ρ1 => .ct ρ1
  | .bad => .bad
inductive DCl (X : Cx) (F0 H0 : Hp) : List ExceptHandler → List Cl → Prop
  | nil : DCl X F0 H0 [] []
  | cons {cn n : Str} {C : Addr} {i : Nat} {tab : List (Str × Bool)} {g2 : Addr → Xn → Sls → Out} {st0 : Stmt} {sts : List Stmt} {p1 p2 : Pos} {more : List ExceptHandler} {l : List Cl}
      (slot : X.N[i]? = some n) (gC : Gl X cn) (mC : X.mg cn = some (.ref C)) (T : CatchT X.K X.mg C tab)
      (walk : ∀ (a : Addr) (eo : Obj) (cls : Value) (d : Option Addr) (pn : List (Addr × Obj)) (x : Xn) (H1 : Hp), Zc cls d eo → (∃ fl, eo.data = .fields fl) → X.mg x.nm = some cls → XdOk x d H1 → DSs (X.suite a ((a, eo) :: pn)) F0 H1 WF (st0 :: sts) (g2 a x))
      (rest : DCl X F0 H0 more l) (lcl : X.env.kindOf n = some .local := by rfl) (hdb : (cn == ("__debug__" : Str)) = false := by decide) :
      DCl X F0 H0 (.ExceptHandler (some (.Name cn p1)) (some n) (st0 :: sts) p2 :: more) ((tab, i, g2) :: l)
section
variable {X : Cx} {F0 H0 : Hp} {W : WX} {body : List Stmt} {hd : ExceptHandler} {more hs : List ExceptHandler} {cl : List Cl} {pos : Pos} {g1 : Sls → Out} {k : Nat}
theorem cl_run (h : DCl X F0 H0 hs cl) : ∃ l : List ClsT, ClsOk X hs l ∧ ∀ (D : Ends) (x : Xn) (ρ : Sls) (F : Hp) (σ : L2.St) (H : Hp) (cls : Value) (dd : Option Addr), SR X.K F0 H0 ρ σ H F → ExR X.mg x cls dd H F → Fin X.mg X.K F0 H0 W (gPick cl x ρ) D F → wCls X.K W D l cls dd σ H := by
  induction h with
  | nil => exact ⟨[], .nil, fun D x ρ F σ H cls dd sr r q => q cls dd σ H F sr (.refl _) r⟩
  | @cons cn n C i tab g2 st0 sts p1 p2 more l slot gC mC T walk rest lcl hdb ih =>
    obtain ⟨l2, ok, ih⟩ := ih
    refine ⟨(.ref C, i, fun a cls d => fun D σ H => ∃ (x : Xn) (H1 : Hp), X.mg x.nm = some cls ∧ XdOk x d H1 ∧ sOf X.mg X.K F0 H1 WF (g2 a x) D σ H) :: l2,
      .cons slot lcl ⟨gC, hdb, .inl mC⟩ (fun a eo cls d pn hz hfl => ⟨fun pins s σ H D I ⟨x, H1, q1, q2, q3⟩ => (walk a eo cls d pn x H1 hz hfl q1 q2).run pins s σ H D I q3⟩) ok, fun D x ρ F σ H cls dd sr r q => ?_⟩
    unfold gPick at q
    simp only at q
    cases e2 : tab.lookup x.nm with
    | none => rw [e2] at q; exact q.elim
    | some b =>
      rw [e2] at q
      obtain ⟨A, hA, hm⟩ := T x.nm b e2
      have hcls : cls = .ref A := by have := r.1; rw [hA] at this; exact (Option.some.inj this).symm
      subst hcls
      refine ⟨b, hm, fun hbt a ha => ?_, fun hbf => ?_⟩
      · subst hbt
        simp only at q
        split at q
        · rename_i h
          have hrt := h.choose_spec a
          have sr2 := sr.setA a i
          rcases r.2 with ⟨h1, h2⟩ | ⟨h1, d, h2, h3, h4⟩
          · refine ⟨x, H0, r.1, .inl ⟨h1, h2⟩, _, F, sr2, ?_⟩
            rw [hrt]
            exact fun v H2 F2 gr x2 dn => q v H2 F2 gr x2 dn
          · have hF0 : F0 d = none := by
              cases z : F0 d with
              | none => rfl
              | some u => rw [sr.gr.ff d u z] at h4; cases h4
            have hH0 : H0 d = none ∨ H0 d = some (.xd x.fs) := by
              cases z : H0 d with
              | none => exact .inl rfl
              | some u => rw [sr.gr.hh d u z] at h3; exact .inr h3
            refine ⟨x, upd H0 d (.xd x.fs), r.1, .inr ⟨d, h2, upd_same⟩, _, F, sr2.know h3 h4, ?_⟩
            rw [hrt]
            exact fun v H2 F2 gr x2 dn => q v H2 F2 (gr.forget hF0 hH0) x2 dn
        · exact q.elim
      · subst hbf
        exact ih D x ρ F σ H _ dd sr r q
theorem ds_tryM (c : Cz X W k) (hN : X.N.Nodup) (hb : ∀ (W' : WX) (pn : List (Addr × Obj)) (xe : Value → Shared → Prop), Cz (X.tr pn xe) W' k → DSs (X.tr pn xe) F0 H0 W' body g1)
    (h : DCl X F0 H0 (hd :: more) cl) (hs : X.stack = X.env :: X.outer := by rfl) (hf : X.env.frame = some X.env.locals := by rfl) :
    DS X F0 H0 W (.Try body (hd :: more) [] [] pos) (gTryM cl g1) := by
  obtain ⟨l, ok, fin⟩ := cl_run (W := W) h
  refine PS.imp (ps_clauses (tb := fun W' => sOf X.mg X.K F0 H0 W' g1) hs hf hN c.tk (fun W' pn xe tk po => hb W' pn xe ⟨c.calm, tk, po, c.room⟩) ok) fun D σ H ⟨ρ, F, sr, q⟩ => ⟨ρ, F, sr, ?_⟩
  unfold gTryM at q
  cases e : g1 ρ with
  | nx ρ1 => rw [e] at q; exact q
  | rt d => rw [e] at q; exact q
  | bk ρ1 => rw [e] at q; exact q
  | ct ρ1 => rw [e] at q; exact q
  | bad => rw [e] at q; exact q
  | exc x ρ1 =>
    rw [e] at q
    exact fun cls dd σ' H' F' sr' ex' r' => fin D x ρ1 F' σ' H' cls dd sr' r' (Fin.weak ex' q)
end
end DL

/-! DL20: the def law, called where no repr is under way. -/
namespace DL
open PySem PySem.Spec PyProof.Rows L2
/-- the def's promise where no repr is under way -/
structure FnG (P : Program) (w : World) (K : PySem.W.Frag) (mg : Str → Option Value) (base : Heap) (CX : CXT) (k : Nat) (f : Addr) (fd : FuncData) (ps : List Str) (sp : Sp) : Prop where
  ln : ∀ vs H Q E, sp vs H Q E → vs.length = ps.length
  go : ∀ (A : Around) (above : List PySem.Env) (s : Shared) (H : Hp) (args : Args) (us : List Value) (vs : List V) (Q : VK) (E : XK), A.guards = some [] → Room k A → Env0 P w K mg base A above s H →
    BindsTo s fd args (ps.zip us) → Vals vs us → sp vs H Q E → codeAny (model P w) A (.call (.ref f) args) (CR CX above P w H s Q E) s
theorem FnG.mono {P : Program} {w : World} {K : PySem.W.Frag} {mg : Str → Option Value} {base : Heap} {CX : CXT} {j k : Nat} {f : Addr} {fd : FuncData} {ps : List Str} {sp : Sp} (G : FnG P w K mg base CX j f fd ps sp) (h : j ≤ k) : FnG P w K mg base CX k f fd ps sp :=
  ⟨G.ln, fun A above s H args us vs Q E hg hr => G.go A above s H args us vs Q E hg (hr.mono h)⟩
theorem fnG_of {P : Program} {w : World} {K : PySem.W.Frag} {mg : Str → Option Value} {base : Heap} {x qual : Str} {st : Stmt} {f : Addr} {fd : FuncData} {N ps : List Str} {k : Nat} {sp : Sp} (Fu : Fun K x qual st f fd) (S : FnScope N ps (defScope st))
    (ln : ∀ vs H Q E, sp vs H Q E → vs.length = ps.length)
    (walk : ∀ (cdv : Value) (A : Around) (above : List PySem.Env) (s : Shared) (H : Hp) (vs : List V) (Q : VK) (E : XK), A.guards = some [] → Room k (A.deeper (envOfC qual (defScope st) s.heap.objs.size f cdv)) → sp vs H Q E →
      ∃ t, PSs (cxOf (L2.CX P w) P w K mg base N qual (defScope st) f cdv A above s H E) (defBody st) t ∧ t { nx := fun _ H' => Q .non H', rt := Q } (start N vs) H) : FnG P w K mg base (L2.CX P w) (k + 1) f fd ps sp := by
  obtain ⟨oc, od, kV, doc, pm, an, cdv, ct, osl, rfl, lk, hcd⟩ := Fu.ex
  refine ⟨ln, fun A above s H args us vs Q E hg room env0 binds vals wish => ?_⟩
  have many := ln _ _ _ _ wish
  have Kin : K.In s.heap := env0.mod.kin.keeps fun b o e => (env0.bs b o e).1
  have free : s.heap.NoLimit := env0.mod.nolimit.keeps fun b o e => (env0.bs b o e).1
  have kinds : ∀ y ∈ ps.zip us, (defScope st).names.lookup y.1 = some .local ∨ ((defScope st).names.lookup y.1 = some .cell ∧ ((cellsFrom (s.heap.objs.size + 1) (defScope st).names []).lookup y.1).isSome = true) := by
    intro ⟨n, v⟩ hy
    rcases S.par n (List.of_mem_zip hy).1 with q | q
    · exact .inl q
    · exact .inr ⟨q, PySem.W.cellsFrom_some _ _ _ (.inl q)⟩
  refine codeAny_call_function room.depth (Kin _ _ lk) rfl S.co S.gen rfl (PySem.W.codeRec_of Kin hcd) (binds _ _ _ _ ?_)
  refine wpAny_newFunctionEnv_cells S.kind kinds fun env henv u1 inside => ?_
  subst henv
  refine ⟨free.keeps inside.toInCall.keep, codeAny_func ?_⟩
  obtain ⟨t, ht, hq⟩ := walk cdv A above s H vs Q E hg (room.deeper _) wish
  have first : Inv (cxOf (L2.CX P w) P w K mg base N qual (defScope st) f cdv A above s H E) [] (start N vs) H u1 := inv_start S room.hd env0 many vals inside
  refine wpAny_mono (ht.run [] u1 (start N vs) H _ first hq) (fun fl u2 endd => ?_) fun e u2 z => z
  have close : ∀ {σ2 : L2.St} {H2 : Hp} {v : V} {u : Value}, Inv (cxOf (L2.CX P w) P w K mg base N qual (defScope st) f cdv A above s H E) [] σ2 H2 u2 → RelV v u → Q v H2 → CE above P w H s Q u u2 :=
    fun {σ2 H2 v u} i rv q => ⟨v, H2, i.os, i.bare, i.base, i.hok, rv, q⟩
  cases fl with
  | next =>
    obtain ⟨σ2, H2, i, q⟩ := endd
    exact close (v := V.non) (u := Value.none) i rfl q
  | ret u =>
    obtain ⟨v, σ2, H2, i, rv, q⟩ := endd
    exact close i rv q
  | brk => obtain ⟨_, _, _, q⟩ := endd; exact q.elim
  | cont => obtain ⟨_, _, _, q⟩ := endd; exact q.elim
/-- the head of a law whose def asks for no repr under way -/
theorem law_callG {P : Program} {w : World} {K : PySem.W.Frag} {mg mb : Str → Option Value} {CX : CXT} {k : Nat} {fa a : Addr} {fd : FuncData} {x : Str} {sp : Sp} {top : Shared} {us : List Value} {ns : List Int}
    (Kin : K.In top.heap) (gl : top.heap.Ns mainGlobals mg) (bl : top.heap.Ns builtinsNs mb) (boot : ∀ x : Str, x ≠ "__name__" → mb x = bootBuiltins x) (free : top.heap.NoLimit) (nogen : top.gens = #[])
    (script : top.heap.get? a = some { cls := .type "list", data := .seq us.toArray }) (whole : IntsAre us ns) (few : ns.length ≤ sizeLine) (room : Room k callerA)
    (G : ∀ base : Heap, K.In base → base.Ns mainGlobals mg → FnG P w K mg base CX k fa fd [x] sp) (bind : ∀ (s : Shared) (u : Value), BindsTo s fd ⟨[u], []⟩ [(x, u)])
    (wish : ∀ H : Hp, Only H → SqL K H a (ns.map V.int) → sp [.ref a] H (fun v _ => v = .bl true) fun _ _ _ => False)
    (noX : ∀ H e s', CX [] H top (fun _ _ _ => False) e s' → False) :
    codeAny (model P w) callerA (.call (.ref fa) ⟨[.ref a], []⟩) (fun r s' => r = .ok (.ret (.bool true)) ∧ OldK top.heap s'.heap ∧ s'.os = top.os ∧ AllBare s'.gens) top := by
  have vals := vals_ints whole
  have many := whole.length
  have main : ∀ H : Hp, Only H → SqL K H a (ns.map V.int) → HOk P w H top.heap → (∀ b, H b ≠ none → b = a) → (H a ≠ none → K.lookup a = none) →
      codeAny (model P w) callerA (.call (.ref fa) ⟨[.ref a], []⟩) (fun r s' => r = .ok (.ret (.bool true)) ∧ OldK top.heap s'.heap ∧ s'.os = top.os ∧ AllBare s'.gens) top := by
    intro H only sq hok just out
    have stay : ∀ {b : Addr} {o : Obj}, top.heap.get? b = some o → H b = none → (hidT top.heap H).get? b = some o := fun e n => hidT_get e n
    have dicts : ∀ {b : Addr} {o : Obj} {es : Array DictEntry} {ep : Nat}, top.heap.get? b = some o → o.data = .dict es ep → H b = none := fun {b o es ep} e d => by
      cases z : H b with
      | none => rfl
      | some u =>
        have same : b = a := just b (by rw [z]; simp)
        subst same
        rw [script] at e
        cases e
        have z2 : Data.seq us.toArray _ = Data.dict es ep := d
        cases z2
    have names : ∀ {b : Addr} {m : Str → Option Value}, top.heap.Ns b m → (hidT top.heap H).Ns b m := fun {b m} ⟨o, es, ep, e, d, r⟩ => ⟨o, es, ep, stay e (dicts e d), d, r⟩
    have Kin2 : K.In (hidT top.heap H) := fun b o e => stay (Kin b o e) (by
      cases z : H b with
      | none => rfl
      | some u =>
        have same : b = a := just b (by rw [z]; simp)
        subst same
        rw [out (by rw [z]; simp)] at e
        cases e)
    have md : Mod K mg (hidT top.heap H) := ⟨Kin2, names gl, ⟨mb, names bl, boot⟩, let ⟨mc, h1, h2⟩ := free; ⟨mc, names h1, h2⟩⟩
    have env0 : Env0 P w K mg (hidT top.heap H) callerA [] top H := ⟨rfl, md, fun b o e => of_hidT e, Nat.le_of_eq (hidT_size _ _), trivial, fun b hb => absurd (show b ∈ ([] : List Addr) from hb) (by simp), hok, .of_eq nogen⟩
    have run := (G _ Kin2 (names gl)).go callerA [] top H ⟨[.ref a], []⟩ [.ref a] [.ref a] _ _ rfl room env0 (bind top (.ref a)) (.cons rfl .nil) (wish H only sq)
    refine codeAny_mono run fun r s' endd => ?_
    cases r with
    | error e => exact (noX H e s' endd).elim
    | ok fl =>
      cases fl with
      | ret u =>
        obtain ⟨v, H', os, bare, un, hok', rv, q⟩ := endd
        have isT : v = .bl true := q
        subst isT
        obtain rfl : u = Value.bool true := rv
        refine ⟨rfl, OldK.of_keep fun b o e => ?_, os, bare⟩
        cases z : H b with
        | none => exact un.keep b o e z (fun m => absurd (show b ∈ ([] : List Addr) from m) (by simp)) (by simp)
        | some u =>
          rcases only b with z2 | ⟨ob, xs, z2⟩
          · rw [z] at z2; cases z2
          · obtain ⟨e1, _⟩ := hok b _ z2
            obtain ⟨e2, _⟩ := hok' b _ (un.frzs b ob _ z2)
            rw [e] at e1
            cases e1
            exact e2
      | next => exact endd.elim
      | brk => exact endd.elim
      | cont => exact endd.elim
  cases own : K.lookup a with
  | some o =>
    have e := Kin a o own
    rw [script] at e
    cases e
    refine main (fun _ => none) (fun _ => .inl rfl) (.inr ⟨_, us.toArray, _, own, rfl, rfl, rfl, by rw [List.size_toArray, many]; exact few, by simpa using vals⟩) (fun b u z => nomatch z) (fun b z => absurd rfl z) fun z => absurd rfl z
  | none =>
    let H0 : Hp := fun b => if b = a then some (.frz { cls := .type "list", data := .seq us.toArray } (.lst (ns.map V.int))) else none
    have at0 : H0 a = some (.frz { cls := .type "list", data := .seq us.toArray } (.lst (ns.map V.int))) := if_pos rfl
    have off0 : ∀ b, b ≠ a → H0 b = none := fun b hb => if_neg hb
    refine main H0 (fun b => ?_) (.inl (.inr ⟨_, at0⟩)) (fun b u z => ?_) (fun b z => ?_) fun _ => own
    · by_cases hb : b = a
      · exact .inr ⟨_, _, hb ▸ at0⟩
      · exact .inl (off0 b hb)
    · by_cases hb : b = a
      · subst hb
        rw [at0] at z
        cases z
        exact ⟨script, by rw [List.length_map]; exact few, us, _, vals, script⟩
      · rw [off0 b hb] at z; cases z
    · exact Classical.byContradiction fun hb => z (off0 b hb)
theorem walk_ofG {l : PySem.W.OpenLaw} {n k : Nat} {q : Program} {loose : List Str} {XP : (Str → Option Value) → Heap → Prop} {YP : World → Heap → Prop} {d : DefRec} {K : Params → PySem.W.Frag} {CX : World → CXT} {sp : World → Sp} {x : Str}
    (most : l.most = some n) (most2 : n ≤ sizeLine) (nodef : d.params.defaults = []) (room : Room k callerA)
    (Kin : ∀ (w : World) (h : Heap), YP w h → (K w.params).In h)
    (F : ∀ (w : World) (mg : Str → Option Value) (fa : Addr) (h : Heap), (K w.params).In h → h.Ns mainGlobals mg → mg d.name = some (.ref fa) →
      ∃ fd : FuncData, (∀ (s : Shared) (u : Value), BindsTo s fd ⟨[u], []⟩ [(x, u)]) ∧
        ∀ base : Heap, (K w.params).In base → base.Ns mainGlobals mg → FnG l.prog w (K w.params) mg base (CX w) k fa fd [x] (sp w))
    (wish : ∀ (w : World) (H : Hp) (a : Addr) (ns : List Int), ns.length ≤ n → Only H → SqL (K w.params) H a (ns.map V.int) → sp w [.ref a] H (fun v _ => v = .bl true) fun _ _ _ => False)
    (noX : ∀ (w : World) (H : Hp) (s : Shared) (e : Value) (s' : Shared), CX w [] H s (fun _ _ _ => False) e s' → False) :
    PySem.W.WalkO q loose XP YP l.row.toRowW d [] (fun f vs => PySem.call f vs) := by
  refine Att.attach_call most nodef fun w s0 s1 mg mb fa o pm cd doc a vs ns G Y ho hd hcd isLaw script whole few nogen => ?_
  have kin := Kin w _ Y
  obtain ⟨fd, bind, promise⟩ := F w mg fa _ kin G.T.g isLaw
  exact law_callG kin G.T.g G.T.b G.T.builtins G.T.nolimit nogen script whole (Nat.le_trans few most2) room promise bind (fun H only sq => wish w H a ns few only sq) fun H e s' => noX w H s1 e s'
/-! ### the def law, by its body -/
abbrev FnGD (P : Program) (w : World) (K : PySem.W.Frag) (mg : Str → Option Value) (base : Heap) (k : Nat) (f : Addr) (fd : FuncData) (ps : List Str) (Fn : List PyData → Res PyData) : Prop :=
  FnG P w K mg base (L2.CX P w) k f fd ps (spD mg K ps.length Fn)
section
variable {P : Program} {w : World} {K : PySem.W.Frag} {mg : Str → Option Value} {base : Heap} {x qual : Str} {st : Stmt} {f : Addr} {fd : FuncData} {N ps : List Str} {k : Nat} {Fn : List PyData → Res PyData} {g : Sls → Out}
theorem fnG_D (Fu : Fun K x qual st f fd) (S : FnScope N ps (defScope st)) (hN : ps.length ≤ N.length)
    (hb : ∀ (cdv : Value) (A : Around) (above : List PySem.Env) (s : Shared) (H : Hp) (E : XK) (Fz : Hp), (cxOf (L2.CX P w) P w K mg base N qual (defScope st) f cdv A above s H E).A.guards = some [] →
      Cz (cxOf (L2.CX P w) P w K mg base N qual (defScope st) f cdv A above s H E) (fun cls dd _ H' => E cls dd H') k → DSs (cxOf (L2.CX P w) P w K mg base N qual (defScope st) f cdv A above s H E) Fz H (fun cls dd _ H' => E cls dd H') (defBody st) g)
    (hF : ∀ ds, ds.length = ps.length → Fn ds = .bad ∨ outR (g (st0 N ds)) = Fn ds) : FnGD P w K mg base (k + 1) f fd ps Fn := by
  refine fnG_of Fu S (fun vs H Q E h => ?_) (fun cdv A above s H vs Q E hg hr h => ?_)
  · obtain ⟨ds, Fz, hl, _⟩ := h
    exact hl
  · obtain ⟨ds, Fz, hl, ex, dn, q⟩ := h
    have hlen : ds.length = ps.length := dn.length.symm.trans hl
    refine ⟨_, hb cdv A above s H E Fz hg ⟨rfl, takes_of rfl rfl rfl rfl, passes_of rfl, hr⟩, st0 N ds, Fz, st0_sr N (by omega) ex dn, ?_⟩
    rcases hF ds hlen with e | e
    · rw [e] at q; exact q.elim
    · rw [← e] at q
      cases e2 : g (st0 N ds) with
      | nx ρ' => simp only [e2, outR] at q; exact fun σ' H' F' sr' x => q .non H' F' sr'.gr .non
      | rt d => simp only [e2, outR] at q; exact fun v H' F' gr x r => q v H' F' gr r
      | exc y ρ' => simp only [e2, outR] at q; exact fun cls dd σ' H' F' sr' x r => q cls dd H' F' sr'.gr r
      | bk ρ' => simp only [e2, outR] at q
      | ct ρ' => simp only [e2, outR] at q
      | bad => simp only [e2, outR] at q
theorem law_endG (G : FnGD P w K mg base k f fd [x] Fn) (h : ∀ ns : List Int, ns.length ≤ 63 → Fn [.list (ns.map .int)] = .ok (.bool true)) : FnG P w K mg base (L2.CX P w) k f fd [x] (spL K) := by
  refine ⟨fun vs H Q E ⟨a, ns, e, _⟩ => by subst e; rfl, fun A above s H args us vs Q E hg hr he hb hv ⟨a, ns, e, hs, hl, q⟩ => ?_⟩
  subst e
  refine G.go A above s H args us _ Q E hg hr he hb hv ⟨[.list (ns.map .int)], H, rfl, .refl H, .cons (.lst hs (.of_ints ns)) .nil, ?_⟩
  rw [h ns hl]
  intro v H' F' g r
  cases r
  exact q H'
end
/-! ### repr of lists and tuples -/
def showsOk (d : PyData) : Bool := noDic d && (d.showable && (decide (d.depth ≤ 64) && (decide (d.shown.length ≤ 16777216) && !d.hasDict)))
def reprD : List PyData → Option PyData
  | [.list xs] => if showsOk (.list xs) = true then some (.str (PyData.shown (.list xs))) else none
  | [.tuple xs] => if showsOk (.tuple xs) = true then some (.str (PyData.shown (.tuple xs))) else none
  | _ => none
section
variable {X : Cx} {F0 H0 : Hp} {W : WX} {pos p : Pos} {e : Expr} {fs : Sls → Res (List PyData)} {k : Nat}
theorem repr_ref (hG : X.A.guards = some []) (hr : Room k X.A) {pins : List (Addr × Obj)} {s : Shared} {σ : L2.St} {H F : Hp} {a : Addr} {d : PyData} {Q : VK} (I : Inv X pins σ H s) (ex : Ex F H) (da : Den X.K F (.ref a) d) (ok : showsOk d = true)
    (q : Q (.str d.shown) H) : wpAny (model X.prog X.w) X.A (call (.builtin "repr") [.ref a]) (EP X pins σ Q) X.xe s := by
  simp only [showsOk, Bool.and_eq_true, decide_eq_true_eq, Bool.not_eq_true'] at ok
  obtain ⟨o1, o2, o3, o4, o5⟩ := ok
  obtain ⟨as, r⟩ := Dp.reads I d (.ref a) (.ref a) ((da.mono ex).dp o1) rfl
  have un := hr.un
  exact PySem.repr_of_reads' r o2 (PyData.noDict_hsm o5) hG (by omega) (fun b o z => z) (fun h' u tk kp => ⟨.str d.shown, H, I.kept (t' := tk) fun b o z => kp b o z, ⟨u, rfl⟩, q⟩) (z24 o4)
theorem cr_repr (hG : X.A.guards = some []) (hr : Room k X.A) : CallR X (.builtin "repr") (rL X.K reprD) := by
  intro pins s σ H xs us Q I r h
  obtain ⟨as, F, ex, da, q⟩ := h
  cases da with
  | nil => exact q.elim
  | cons d1 d2 =>
    cases d2 with
    | cons _ _ => cases d1 <;> exact q.elim
    | nil =>
      cases d1 with
      | @lst a ys ds h1 h2 =>
        rw [Vals.ref1 r]
        have q' : Rop X.K (if showsOk (.list ds) = true then some (PyData.str (PyData.shown (.list ds))) else none) H F Q := q
        by_cases ok : showsOk (.list ds) = true
        · rw [if_pos ok] at q'
          exact repr_ref hG hr I ex (.lst h1 h2) ok (q'.val ex (.str _))
        · rw [if_neg ok] at q'; exact q'.elim
      | @tup a ys ds h1 h2 =>
        rw [Vals.ref1 r]
        have q' : Rop X.K (if showsOk (.tuple ds) = true then some (PyData.str (PyData.shown (.tuple ds))) else none) H F Q := q
        by_cases ok : showsOk (.tuple ds) = true
        · rw [if_pos ok] at q'
          exact repr_ref hG hr I ex (.tup h1 h2) ok (q'.val ex (.str _))
        · rw [if_neg ok] at q'; exact q'.elim
      | _ => exact q.elim
end
/-! ### sorted by a key, the keys not alike -/
noncomputable def dSortK2 (Fn : FnT) (fs : Sls → Res (List PyData)) (ρ : Sls) : Res (List PyData) := fs ρ >>= fun ds => match ds with
  | [.list xs] => sortK2 Fn xs
  | _ => .bad
section
variable {X : Cx} {F0 H0 : Hp} {W : WX} {pos p p2 kp : Pos} {e : Expr} {fs : Sls → Res (List PyData)} {j k : Nat} {f : Addr} {fd : FuncData} {x y : Str} {Fn : FnT}
def rBy2 (X : Cx) (f : Addr) (Fn : FnT) : List V → List V → Hp → VK → Prop := fun vs zs H Q => ∃ (l : Addr) (xs : List V) (ds es : List PyData) (F : Hp), vs = [.ref l] ∧ zs = [.ref f] ∧ Ex F H ∧ SqL X.K H l xs ∧ Dens X.K F xs ds ∧ sortK2 Fn ds = .ok es ∧
  ∀ p ys, H p = none → Dens X.K F ys es → Q (.ref p) (upd H p (.lst ys))
theorem cr_by2 (G : FnD X.prog X.w X.K X.mg X.base j f fd [x] Fn) (hr : Room (j + 1) X.A) (hb : Binds X.K fd [x] []) : CallRK X (.builtin "sorted") [Str.ofString "key"] (rBy2 X f Fn) := by
  intro pins s σ H vs zs us ws Q I r rz h
  obtain ⟨l, xs, ds, es, F, rfl, rfl, ex, hl, dn, hs, q⟩ := h
  cases r with
  | cons r1 r2 =>
    cases r2
    cases rz with
    | cons z1 z2 =>
      cases z2
      cases r1
      cases z1
      exact sorted_icy G hr hb I ex hl dn hs q
theorem dn_sortK2 (G : FnD X.prog X.w X.K X.mg X.base j f fd [x] Fn) (c : Cz X W k) (hj : j + 1 ≤ k) (hgf : Gl X y) (hmf : X.mg y = some (.ref f)) (hb : Binds X.K fd [x] []) (hg : Gl X "sorted") (hm : X.mg "sorted" = none) (ha : DA X F0 H0 W [e] fs) (hdb : (y == ("__debug__" : Str)) = false := by decide)
    (he : backTo pos (starEach [e] X.env) = (false, eval e X.env) :: backTo pos (starEach [] X.env) := by rfl) (hpl : (backTo pos (starEach [e] X.env)).any (·.1) = false := by rfl)
    (hall : (backToKw pos (keywordEach [⟨some "key", .Name y p2, kp⟩] X.env)).all (·.1.isSome) = true := by rfl) (hnone : (backToKw pos (keywordEach [⟨some "key", .Name y p2, kp⟩] X.env)).any (·.1.isNone) = false := by rfl)
    (hks : (backToKw pos (keywordEach [⟨some "key", .Name y p2, kp⟩] X.env)).filterMap (·.1) = [Str.ofString "key"] := by rfl) :
    DN X F0 H0 W (.Call (.Name "sorted" p) [e] [⟨some "key", .Name y p2, kp⟩] pos) (dSortK2 Fn fs) := by
  refine PE.imp (pe_callBK (cr_by2 G (c.room.mono hj) hb) hg hm PyProof.Rows.boot_sorted ha (pk_cons (pe_glob hgf hmf (v := .ref f) rfl hdb) pk_nil) (by decide) (by decide) he hpl hall hnone hks) fun σ H Q ⟨ρ, F, sr, q⟩ => ?_
  refine ⟨ρ, F, sr, ?_⟩
  unfold dSortK2 at q
  cases e : fs ρ with
  | exc x => simp only [e, bind_exc] at q; exact q
  | bad => simp only [e, bind_bad] at q
  | ok ds =>
    simp only [e, bind_ok] at q
    intro vs H1 F1 g1 r1
    cases r1 with
    | nil => exact q.elim
    | cons d1 d2 =>
      cases d2 with
      | cons _ _ => cases d1 <;> exact q.elim
      | nil =>
        cases d1 with
        | @lst l xs zs hs hd =>
          cases e2 : sortK2 Fn zs with
          | exc x => exact absurd e2 (by unfold sortK2; split <;> simp)
          | bad => simp only [e2] at q
          | ok es =>
            simp only [e2] at q
            exact ⟨l, xs, zs, es, F1, rfl, rfl, g1.fh, g1.fh.sl hs, hd, e2, fun p ys hp hd2 => q p ys _ F1 (g1.trans (Gr.newO g1.fh hp)) (not_of_none g1.hh hp) upd_same (not_of_none g1.fh hp) hd2⟩
        | _ => exact q.elim
end
end DL

/-! DL21: len({e for x in xs}): how many unlike texts, numbers, or tuples of numbers. -/
namespace DL
open PySem PySem.Spec PyProof.Rows L2

/-! ### how many unlike -/
section
variable {κ : Type} [DecidableEq κ]
def addU (acc : List κ) (k : κ) : List κ := if k ∈ acc then acc else acc ++ [k]
def unl (l : List κ) : List κ := l.foldl addU []
def cnt (l : List κ) : Nat := (unl l).length
theorem unl_snoc (l : List κ) (k : κ) : unl (l ++ [k]) = addU (unl l) k := by unfold unl; rw [List.foldl_append]; rfl
theorem snocI {α : Type} {P : List α → Prop} (h0 : P []) (h1 : ∀ l x, P l → P (l ++ [x])) (l : List α) : P l := by
  have h : ∀ r : List α, P r.reverse := fun r => by
    induction r with
    | nil => exact h0
    | cons x r ih => rw [List.reverse_cons]; exact h1 _ _ ih
  have := h l.reverse
  rwa [List.reverse_reverse] at this
theorem unl_mem (l : List κ) (k : κ) : k ∈ unl l ↔ k ∈ l := by
  refine snocI (P := fun l => ∀ k, k ∈ unl l ↔ k ∈ l) (fun _ => Iff.rfl) (fun l x ih k => ?_) l k
  rw [unl_snoc]
  unfold addU
  by_cases h : x ∈ unl l
  · rw [if_pos h, ih, List.mem_append, List.mem_singleton]
    refine ⟨.inl, fun z => z.elim id fun e => ?_⟩
    rw [e]; exact (ih x).1 h
  · rw [if_neg h, List.mem_append, List.mem_append, List.mem_singleton, ih]
theorem unl_nodup (l : List κ) : (unl l).Nodup := by
  refine snocI (P := fun l => (unl l).Nodup) List.nodup_nil (fun l x ih => ?_) l
  rw [unl_snoc]
  unfold addU
  by_cases h : x ∈ unl l
  · rw [if_pos h]; exact ih
  · rw [if_neg h]
    refine List.nodup_append.mpr ⟨ih, by simp, fun a ha b hb e => ?_⟩
    rw [List.mem_singleton] at hb
    exact h (by rw [← hb, ← e]; exact ha)
theorem cnt_snoc (l : List κ) (k : κ) : cnt (l ++ [k]) = if k ∈ l then cnt l else cnt l + 1 := by
  unfold cnt
  rw [unl_snoc]
  unfold addU
  by_cases h : k ∈ l
  · rw [if_pos ((unl_mem l k).2 h), if_pos h]
  · rw [if_neg (fun z => h ((unl_mem l k).1 z)), if_neg h, List.length_append]; rfl
theorem cnt_le (l : List κ) : cnt l ≤ l.length := by
  refine snocI (P := fun l => cnt l ≤ l.length) (Nat.le_refl _) (fun l x ih => ?_) l
  rw [cnt_snoc, List.length_append]
  split
  · exact Nat.le_trans ih (Nat.le_add_right _ _)
  · exact Nat.succ_le_succ ih
theorem cnt_of (l m : List κ) (hm : m.Nodup) (h : ∀ k, k ∈ m ↔ k ∈ l) : cnt l = m.length := by
  unfold cnt
  refine List.Perm.length_eq ((List.perm_ext_iff_of_nodup (unl_nodup l) hm).2 fun k => ?_)
  rw [unl_mem, h]
theorem cnt_full {l : List κ} (h : l.Nodup) : cnt l = l.length := cnt_of l l h fun _ => Iff.rfl
theorem cnt_less {l : List κ} (h : ¬ l.Nodup) : cnt l ≠ l.length := by
  refine snocI (P := fun l => ¬ l.Nodup → cnt l ≠ l.length) (fun h => absurd List.nodup_nil h) (fun l x ih h => ?_) l h
  rw [cnt_snoc, List.length_append]
  have le := cnt_le l
  by_cases hx : x ∈ l
  · rw [if_pos hx]
    show cnt l ≠ l.length + 1
    omega
  · rw [if_neg hx]
    have : ¬ l.Nodup := fun z => h (List.nodup_append.mpr ⟨z, by simp, fun a ha b hb e => by
      rw [List.mem_singleton] at hb
      exact hx (by rw [← hb, ← e]; exact ha)⟩)
    have := ih this
    show cnt l + 1 ≠ l.length + 1
    omega
end

/-! ### a kind of members -/
structure StK (ε κ : Type) [DecidableEq κ] where
  Pr : Program → World → Addr → List ε → Heap → Prop
  ev : ε → V
  ke : ε → κ
  ok : PySem.W.Frag → Hp → ε → Prop
  keep : ∀ {P : Program} {w : World} {a : Addr} {L : List ε} {h h' : Heap}, Pr P w a L h → (∀ o, h.get? a = some o → h'.get? a = some o) → Pr P w a L h'
  has : ∀ {P : Program} {w : World} {a : Addr} {L : List ε} {h : Heap}, Pr P w a L h → ∃ o, h.get? a = some o
  fresh : ∀ (P : Program) (w : World) (h : Heap), Pr P w h.objs.size [] (h.push { cls := .type "set", dict := none, data := .set #[] 0 (.fresh 0 0 (!w.params.followText "set-order")) })
  add : ∀ {X : Cx} {pins : List (Addr × Obj)} {σ : L2.St} {H : Hp} {s : Shared} {E : Value → Shared → Prop} {D : Addr} {L : List ε} {e : ε} {u : Value} {Q : Value → Shared → Prop}, X.A.units + 64 < cLine → Inv X pins σ H s →
    Pr X.prog X.w D L s.heap → (∀ x ∈ L ++ [e], ok X.K H x) → L.length + 1 < 64 → RelV (ev e) u →
    (∀ (h' : Heap) (k : Nat), Heap.SameBut D s.heap h' → Pr X.prog X.w D (L ++ [e]) h' → Q .none { s with heap := h', toks := s.toks + k }) → wpAny (model X.prog X.w) X.A (call (.builtin "set.add") [.ref D, u]) Q E s
  len : ∀ {P : Program} {w : World} {A : Around} {s : Shared} {E : Value → Shared → Prop} {D : Addr} {L : List ε} {Q : Value → Shared → Prop}, Pr P w D L s.heap → L.length < 64 →
    Q (.int (cnt (L.map ke) : Nat) (s.toks + 1)) { s with toks := s.toks + 1 + 1 } → wpAny (model P w) A (call (.builtin "len") [.ref D]) Q E s
section
variable {ε κ : Type} [DecidableEq κ]
def StK.ob (T : StK ε κ) (P : Program) (w : World) (a : Addr) (L : List ε) : HO := .ext (T.Pr P w a L)
theorem StK.new (T : StK ε κ) {P : Program} {w : World} {H : Hp} {h : Heap} {a : Addr} {L : List ε} (r : T.Pr P w a L h) : ObjOk P w H h a (T.ob P w a L) := ⟨r, T.has r, fun _ _ p k => T.keep p k⟩
theorem StK.get (T : StK ε κ) {X : Cx} {pins : List (Addr × Obj)} {σ : L2.St} {H : Hp} {s : Shared} {a : Addr} {L : List ε} (I : Inv X pins σ H s) (h : H a = some (T.ob X.prog X.w a L)) : T.Pr X.prog X.w a L s.heap := (I.hok a _ h).1
end
/-- numbers and texts -/
def PrK (P : Program) (w : World) (a : Addr) (L : List Key) (h : Heap) : Prop := ∃ S, h.SetOf (mixKind P w) a S (cnt L) ∧ ∀ k, S k = true ↔ k ∈ L
def keySt : StK Key Key where
  Pr := PrK
  ev := kV
  ke := id
  ok := fun _ _ _ => True
  keep := fun ⟨S, r, q⟩ k => ⟨S, setOf_at r k, q⟩
  has := fun ⟨S, ⟨o, _, _, _, ho, _⟩, _⟩ => ⟨o, ho⟩
  fresh := fun P w h => ⟨fun _ => false, ⟨_, #[], 0, _, Heap.get?_push_size _ rfl, ⟨rfl, rfl, rfl⟩, rfl, (fun e he => by simp at he), (fun k => by simp), (by decide), (by rfl), rfl⟩, fun k => by simp⟩
  add := fun {X pins σ H s E D L e u Q} hu I ⟨S, r, hS⟩ _ hl ru q => by
    have le := cnt_le L
    refine call_set_add (kV_is ru) (key_scan ru) r (by unfold scanBound; omega) fun h' sb new => q h' 1 sb ⟨fun j => S j || decide (j = e), ?_, fun k => ?_⟩
    · have en : (if S e = true then cnt L else cnt L + 1) = cnt (L ++ [e]) := by
        rw [cnt_snoc]
        by_cases z : S e = true
        · rw [if_pos z, if_pos ((hS e).1 z)]
        · rw [if_neg z, if_neg (fun y => z ((hS e).2 y))]
      rw [← en]; exact new
    · rw [Bool.or_eq_true, decide_eq_true_eq, hS, List.mem_append, List.mem_singleton]
  len := fun {P w A s E D L Q} ⟨S, r, _⟩ hl q => by
    obtain ⟨o, es, ep, t, ho, hex, hd, _, _, _, hf, hn⟩ := r
    have le := cnt_le L
    refine call_len_set ho hex hd hf (by rw [hn]; omega) ?_
    rw [List.map_id] at q
    rw [hn]
    exact q
/-- tuples of numbers -/
def PrT (P : Program) (w : World) (a : Addr) (L : List (Addr × List Int)) (h : Heap) : Prop := ∃ L0, SetT0 P w h a L0 ∧ (∀ p ∈ L0, p ∈ L) ∧ ∀ p ∈ L, p.2 ∈ L0.map (·.2)
theorem prT_cnt {P : Program} {w : World} {a : Addr} {L L0 : List (Addr × List Int)} {h : Heap} (r : SetT0 P w h a L0) (h1 : ∀ p ∈ L0, p ∈ L) (h2 : ∀ p ∈ L, p.2 ∈ L0.map (·.2)) : cnt (L.map (·.2)) = L0.length := by
  obtain ⟨es, ep, t, _, _, _, nd, _⟩ := r.ex
  rw [cnt_of (L.map (·.2)) (L0.map (·.2)) nd fun k => ⟨fun z => ?_, fun z => ?_⟩, List.length_map]
  · obtain ⟨p, hp, rfl⟩ := List.mem_map.mp z
    exact List.mem_map_of_mem (h1 p hp)
  · obtain ⟨p, hp, rfl⟩ := List.mem_map.mp z
    exact h2 p hp
def tupSt : StK (Addr × List Int) (List Int) where
  Pr := PrT
  ev := fun p => .ref p.1
  ke := fun p => p.2
  ok := fun K H p => SqT K H p.1 (p.2.map V.int)
  keep := fun ⟨L0, r, q⟩ k => ⟨L0, ⟨by
    obtain ⟨es, ep, t, ⟨o, ho, x⟩, y⟩ := r.ex
    exact ⟨es, ep, t, ⟨o, k o ho, x⟩, y⟩⟩, q⟩
  has := fun ⟨L0, r, q⟩ => by
    obtain ⟨es, ep, t, ⟨o, ho, x⟩, y⟩ := r.ex
    exact ⟨o, ho⟩
  fresh := fun P w h => ⟨[], (setTR_fresh (Heap.get?_push_size _ rfl)).t0, fun _ z => z, fun _ z => absurd z List.not_mem_nil⟩
  add := fun {X pins σ H s E D L e u Q} hu I ⟨L0, r, h1, h2⟩ ok hl ru q => by
    have eu : u = .ref e.1 := ru
    subst eu
    obtain ⟨es, ep, t, R⟩ := r.full fun p hp => I.isT (ok p (List.mem_append_left _ (h1 p hp)))
    have hx : L2.IsT X.prog X.w s.heap e.2 e.1 := I.isT (ok e (List.mem_append_right _ (List.mem_singleton.mpr rfl)))
    have hlen : L0.length + 1 < 64 := by
      have c1 := prT_cnt r h1 h2
      have c2 := cnt_le (L.map (·.2))
      rw [List.length_map] at c2
      omega
    have hT : s.TypeIs (.ref D) "set" := by
      obtain ⟨o, ho, hex, _⟩ := R.ob
      exact ⟨o, ho, hex.1⟩
    refine wpAny_call_entry F.slot_set_add hT F.entry_set_add ?_ (F.args_set_add_2 _ _)
    unfold Builtin.«set.add» Builtin.Frozenset.oneOther
    simp only [List.isEmpty_nil, bind_assoc]
    unfold Builtin.Frozenset.addrOf setAdd
    refine wpAny_bind (wpAny_pure ?_)
    have hu1 : X.A.in1.units < cLine := by show X.A.units + 1 < cLine; omega
    try dsimp only
    first | refine wpAny_bind (wpAny_pure ?_) | skip
    try dsimp only
    refine wpAny_bind ?_
    refine wpAny_holding ?_
    refine wpAny_bind (wpAny_pyHash_tuple hu1 hx ?_)
    refine add_at (s := { s with toks := s.toks + (e.2.length + 1) }) R hx hu1 hlen fun b h' L' es' ep' t' sb R' c1 c2 => ?_
    refine wpAny_pure ⟨_, rfl, q h' _ sb ⟨L', R'.t0, ?_, ?_⟩⟩
    · intro p hp
      rcases Classical.em (e.2 ∈ L0.map (·.2)) with c | c
      · rw [c1 c] at hp; exact List.mem_append_left _ (h1 p hp)
      · rcases List.mem_cons.mp ((c2 c).mem_iff.mp hp) with z | z
        · rw [z]; exact List.mem_append_right _ (List.mem_singleton.mpr rfl)
        · exact List.mem_append_left _ (h1 p z)
    · intro p hp
      rcases Classical.em (e.2 ∈ L0.map (·.2)) with c | c
      · rw [c1 c]
        rcases List.mem_append.mp hp with z | z
        · exact h2 p z
        · rw [List.mem_singleton.mp z]; exact c
      · have pm := (c2 c).map (·.2)
        refine pm.mem_iff.mpr ?_
        rw [List.map_cons]
        rcases List.mem_append.mp hp with z | z
        · exact List.mem_cons_of_mem _ (h2 p z)
        · rw [List.mem_singleton.mp z]; exact List.mem_cons_self
  len := fun {P w A s E D L Q} ⟨L0, r, h1, h2⟩ hl q => by
    have c1 := prT_cnt r h1 h2
    have c2 := cnt_le (L.map (·.2))
    rw [List.length_map] at c2
    obtain ⟨es, ep, t, ⟨o, ho, hex, hd⟩, hrow, tab, nd, pl, led, rm, few⟩ := r.ex
    have hs : es.size = L0.length := by
      have z := congrArg List.length hrow
      unfold rowsOf at z
      rw [Array.length_toList, List.length_map] at z
      exact z
    have hf : t.fits es.size = true := by
      have k1 := tab.sz
      rw [List.length_map] at k1
      unfold SetTable.fits SetTable.fill
      rw [tab.dm, Bool.and_eq_true, beq_iff_eq, decide_eq_true_eq]
      show t.place.size = es.size ∧ t.place.size + 0 ≤ t.mask
      omega
    refine call_len_set ho hex hd hf (by rw [hs]; omega) ?_
    rw [hs, ← c1]
    exact q
end DL

/-! DL22: the comprehension of a set of one kind, and how many it has. -/
namespace DL
open PySem PySem.Spec PyProof.Rows L2

section
variable {X : Cx} {ε κ : Type} [DecidableEq κ]
theorem st_put {pins : List (Addr × Obj)} {σ : L2.St} {H : Hp} {s : Shared} {E : Value → Shared → Prop} (T : StK ε κ) {D : Addr} {L : List ε} {e : ε} {u : Value} {Q : Value → Shared → Prop} (hu : X.A.units + 64 < cLine)
    (I : Inv X pins σ H s) (hD : H D = some (T.ob X.prog X.w D L)) (hz : L.length + 1 < 64) (ok : ∀ x ∈ L ++ [e], T.ok X.K H x) (ru : RelV (T.ev e) u)
    (q : ∀ s', Inv X pins σ (upd H D (T.ob X.prog X.w D (L ++ [e]))) s' → Q .none s') : wpAny (model X.prog X.w) X.A (call (.builtin "set.add") [.ref D, u]) Q E s :=
  T.add hu I (T.get I hD) ok hz ru fun h' k sb r => q _ (d_write I (by rw [hD]; trivial) sb (T.has r) (T.new r))
/-- the turns of {e for tg in iter}, the set at D -/
def UT (P : Program) (w : World) (K : PySem.W.Frag) (T : StK ε κ) (g : TG) (te : TE) (vs : List Nat) (σ : L2.St) (J : It) (D : Addr) (H1 : Hp) (Qd : Hp → Prop) : Prop :=
  ∃ W : Nat → Nat → Hp → Prop, (∃ m, W 0 m (upd H1 D (T.ob P w D []))) ∧ ∀ i m H, W i m H →
    (J.stop i H ∧ Qd H) ∨ (J.go i H ∧ ∃ Nx : Hp → Prop, (∀ H', Nx H' → ∃ m', m' < m ∧ W (i + 1) m' H') ∧ ∀ x H', J.yld i H x H' → g x (wipe σ vs) H' fun σ2 H2 => wipe σ2 vs = wipe σ vs ∧
      te σ2 H2 fun y H4 => ∃ L e, y = T.ev e ∧ H4 D = some (T.ob P w D L) ∧ L.length + 1 < 64 ∧ (∀ x ∈ L ++ [e], T.ok K H4 x) ∧ Nx (upd H4 D (T.ob P w D (L ++ [e]))))
def tUc (P : Program) (w : World) (K : PySem.W.Frag) (T : StK ε κ) (wi : TI) (g : TG) (te : TE) (vs : List Nat) : TE := fun σ H Q => wi σ H fun J H1 => ∀ D, H1 D = none → UT P w K T g te vs σ J D H1 (Q (.ref D))
section
variable {pins : List (Addr × Obj)} {s : Shared} {σ : L2.St} {H : Hp} {elt tg iter : Expr} {scope : Scope} {own : List (Str × Nat)} {pos pos' : Pos} {wi : TI} {g : TG} {te : TE}
/-- the loop, in the block's own context -/
theorem uc_loop {Y : Cx} (T : StK ε κ) {D it : Addr} {fp : List Addr} {tn : Nat → Heap → Prop} {J : It} {us : List Nat} {H1 : Hp} {Qd : Hp → Prop} {R : Result → Shared → Prop} (hc : Y.calm = true) (hu : Y.A.units + 64 < cLine) (tr : Turn Y.prog Y.w Y.K tg J fp it tn)
    (pg : PG Y tg g) (pe : PE Y elt te) (hf : ∀ {σ' : L2.St} {H' : Hp} {s' : Shared}, Inv Y [] σ' H' s' → (∀ b ∈ fp, H' b = none) → ∀ b ∈ fp, FpOk Y [] H' b) (hxe : Y.xe = fun _ _ => False)
    (q : UT Y.prog Y.w Y.K T g te us σ J D H1 Qd) (I : Inv Y [] (wipe σ us) (upd H1 D (T.ob Y.prog Y.w D [])) s) (st : tn 0 s.heap) (nf : ∀ b ∈ fp, upd H1 D (T.ob Y.prog Y.w D []) b = none)
    (fin : ∀ s' H', Inv Y [] (wipe σ us) H' s' → Qd H' → R (.ok .next) s') :
    codeAny (model Y.prog Y.w) Y.A (.compLoop (.SetComp elt [⟨tg, iter, [], 0⟩] scope pos) 0 (.ref it) (.ref D) Y.env) R s := by
  obtain ⟨W, ⟨m0, w0⟩, turn⟩ := q
  refine PpSet.compLoopS_any (fun n s' => ∃ i H', Inv Y [] (wipe σ us) H' s' ∧ tn i s'.heap ∧ (∀ b ∈ fp, H' b = none) ∧ W i n H') ?_ m0 ⟨0, _, I, st, nf, w0⟩
  rintro n s5 ⟨i, H5, I5, st5, n5, w5⟩
  rcases turn i n H5 w5 with ⟨stop, qq⟩ | ⟨go, Nx, hNx, step⟩
  · refine thnF (tr.done Y rfl rfl rfl hc i [] s5 _ H5 (fun _ _ => False) I5 (hf I5 n5) st5 stop) fun r s6 ⟨hr, I6⟩ => ?_
    rw [hr]
    exact fin s6 H5 I6 qq
  · refine thnF (tr.item Y rfl rfl rfl hc i [] s5 _ H5 (fun _ _ => False) I5 (hf I5 n5) st5 go) fun r s6 ⟨u, hr, h6⟩ => ?_
    rw [hr]
    refine thnF h6 fun _ s7 ⟨x, H7, I7, r7, y7, st7, n7⟩ => ?_
    have I8 := I7.pinned (hf I7 n7) (tr.obj _ _ st7)
    have gg := pg.run _ s7 _ H7 x u _ I8 r7 (step x H7 y7)
    rw [hxe] at gg
    refine thnF gg fun _ s8 ⟨σ8, H8, J8, hw8, q8⟩ => ?_
    show wpAny _ _ (pure true) _ _ s8
    refine wpAny_pure ?_
    rw [if_pos rfl]
    have kk := pe.run _ s8 σ8 H8 _ J8 q8
    rw [hxe] at kk
    refine thnF kk fun z s9 ⟨yk, H9, I9, r9, L, e, ek, hD9, hz9, ok9, nx⟩ => ?_
    rw [ek] at r9
    refine st_put T hu I9 hD9 hz9 ok9 r9 fun s11 I11 => ?_
    obtain ⟨m', hm, w'⟩ := hNx _ nx
    have pin' : ∀ b ∈ fp, ∀ o, s7.heap.get? b = some o → s11.heap.get? b = some o ∧ upd H9 D (T.ob Y.prog Y.w D (L ++ [e])) b = none := fun b hb o e =>
      have z := I11.pin (b, o) (List.mem_append_right _ (List.mem_append_right _ (mem_pinsAt hb e)))
      ⟨z.1, z.2.1⟩
    have lenE : (wipe σ us).length = σ8.length := by rw [← hw8, wipe_length]
    refine ⟨m', hm, i + 1, _, (I11.unpinned (pins := [])).weak lenE (fun j v e => ?_), tr.keep _ _ _ st7 fun b hb o e => (pin' b hb o e).1, fun b hb => ?_, w'⟩
    · rw [← hw8] at e
      exact (wipe_some e).1
    · obtain ⟨o, e, _⟩ := tr.obj _ _ st7 b hb
      exact (pin' b hb o e).2
theorem uc_core (T : StK ε κ) {Q : VK} {use : Option (Value → Sem Unit)} {Qf : Value → Shared → Prop} (hc : X.calm = true) (hu : X.A.units + 64 < cLine) (hN : X.N.Nodup) (I : Inv X pins σ H s) (hi : PI X tg iter wi) (ok : BlkOk X.N X.env.scope scope own)
    (hg : ∀ (s : Shared) (H : Hp) (C : Addr) (cl : List (Str × Addr)) (fp : List Addr), PG (X.blk s H scope (compEnvC scope cl C X.env) fp) tg g)
    (he : ∀ (s : Shared) (H : Hp) (C : Addr) (cl : List (Str × Addr)) (fp : List Addr), PE (X.blk s H scope (compEnvC scope cl C X.env) fp) elt te) (hs : ∀ x, foldedSetIterable iter X.env x = pure x)
    (h : tUc X.prog X.w X.K T wi g te (own.map (·.2)) σ H Q)
    (hRR : ∀ D C s' m H', Inv X pins σ H' s' → Q (.ref D) H' → s'.heap.Ns C m → FpOk X pins H' C → compPost (model X.prog X.w) X.A X.xe use Qf (.ref D) C (.ok .next) s') :
    wpAny (model X.prog X.w) X.A (comprehension (.SetComp elt [⟨tg, iter, [], 0⟩] scope pos) scope X.env pos' (newSet (.type "set")) false (eval iter X.env) use) Qf X.xe s := by
  have closed : ∀ y ∈ scope.names, y.2 = .free → ∃ c, X.env.cells.lookup y.1 = some c := by
    intro y hy e
    cases ok.free y hy e with
    | inl k => exact I.ok.has _ (.inl k)
    | inr k => exact I.ok.has _ (.inr k)
  have one : ∀ y ∈ scope.names, scope.names.lookup y.1 = some y.2 := fun y hy => ok.uniq y hy
  refine wpAny_comprehension_free (use := use) rfl hs (closure_ok closed) ok.kind (fun y hy e => by rw [one y hy, e]) (thn (hi.run pins s σ H _ I h) fun xv s1 hx => thn hx fun itv s2 w2 => ?_)
  obtain ⟨it, fp, tn, J, H2, e2, I2, tr, st2, f2, q2⟩ := w2
  rw [e2]
  refine PpSet.newSet_ok (newEnv_comp ?_)
  have hDn : H2 s2.heap.objs.size = none := I2.hok.fresh (Nat.le_refl _)
  have q3 := q2 s2.heap.objs.size hDn
  have I3 : Inv X pins σ (upd H2 s2.heap.objs.size (T.ob X.prog X.w s2.heap.objs.size [])) { s2 with heap := s2.heap.push { cls := .type "set", dict := none, data := .set #[] 0 (.fresh 0 0 (!X.w.params.followText "set-order")) } } :=
    I2.laid (t' := s2.toks) (fun b o e => Heap.get?_push_of_some _ e) (Nat.le_refl _) (T.new (T.fresh X.prog X.w s2.heap))
  have small : ∀ b ∈ fp, b < s2.heap.objs.size := fun b hb => by
    obtain ⟨o, e, _⟩ := tr.obj _ _ st2 b hb
    exact Heap.lt_size e
  have st3 : tn 0 (s2.heap.push { cls := .type "set", dict := none, data := .set #[] 0 (.fresh 0 0 (!X.w.params.followText "set-order")) }) := tr.keep _ _ _ st2 fun b _ o e => Heap.get?_push_of_some _ e
  generalize hD : s2.heap.objs.size = D at *
  generalize hs3 : ({ s2 with heap := s2.heap.push { cls := .type "set", dict := none, data := .set #[] 0 (.fresh 0 0 (!X.w.params.followText "set-order")) } } : Shared) = s3 at *
  have e3 : s3.heap = s2.heap.push { cls := .type "set", dict := none, data := .set #[] 0 (.fresh 0 0 (!X.w.params.followText "set-order")) } := by rw [← hs3]
  rw [← e3] at st3
  generalize hH3 : upd H2 D (T.ob X.prog X.w D []) = H3 at *
  have f3 : ∀ b ∈ fp, FpOk X pins H3 b ∧ b < s3.heap.objs.size := fun b hb => by
    have lt := small b hb
    refine ⟨⟨?_, (f2 b hb).2⟩, by rw [e3, Heap.size_push, hD]; exact Nat.lt_succ_of_lt lt⟩
    rw [← hH3, upd_ne (Nat.ne_of_lt lt)]
    exact (f2 b hb).1
  have I4 := block_start I3 ok hN f3
  have nfp : ∀ b ∈ fp, H3 b = none := fun b hb => (f3 b hb).1.1
  have pg := hg s3 H3 s3.heap.objs.size (cellsFrom (s3.heap.objs.size + 1) scope.names (cloFrom X.env.cells scope.names [])) fp
  have pk := he s3 H3 s3.heap.objs.size (cellsFrom (s3.heap.objs.size + 1) scope.names (cloFrom X.env.cells scope.names [])) fp
  show codeAny _ _ (.compStart (.SetComp elt [⟨tg, iter, [], 0⟩] scope pos) 0 (.ref it) (.ref D) (compEnvC scope (cellsFrom (s3.heap.objs.size + 1) scope.names (cloFrom X.env.cells scope.names [])) s3.heap.objs.size X.env))
    (compPost (model X.prog X.w) X.A X.xe use Qf (.ref D) s3.heap.objs.size) { s3 with heap := pushCells (s3.heap.push { cls := .type "dict", data := .dict #[] }) scope.names }
  have cL : (compEnvC scope (cellsFrom (s3.heap.objs.size + 1) scope.names (cloFrom X.env.cells scope.names [])) s3.heap.objs.size X.env).locals = s3.heap.objs.size := rfl
  generalize compEnvC scope (cellsFrom (s3.heap.objs.size + 1) scope.names (cloFrom X.env.cells scope.names [])) s3.heap.objs.size X.env = ce at I4 pg pk cL ⊢
  have st4 : tn 0 ({ s3 with heap := pushCells (s3.heap.push { cls := .type "dict", data := .dict #[] }) scope.names } : Shared).heap := tr.keep _ _ _ st3 fun b _ o e => pushCells_keeps _ _ _ _ (Heap.get?_push_of_some _ e)
  generalize ({ s3 with heap := pushCells (s3.heap.push { cls := .type "dict", data := .dict #[] }) scope.names } : Shared) = s4 at I4 st4 ⊢
  have stat : ∀ {σ' : L2.St} {H' : Hp} {s' : Shared}, Inv (X.blk s3 H3 scope ce fp) [] σ' H' s' → (∀ b ∈ fp, H' b = none) → ∀ b ∈ fp, FpOk (X.blk s3 H3 scope ce fp) [] H' b := fun {σ' H' s'} I' hn b hb =>
    ⟨hn b hb, (I'.ok.exf b hb).1, I'.ok.exfs b hb, .inl hb, fun x c e => (I'.ok.exf b hb).2 x c e, fun p hp => absurd (show p ∈ ([] : List (Addr × Obj)) ++ [] from hp) (by simp)⟩
  subst hH3
  have loop := uc_loop (Y := X.blk s3 _ scope ce fp) (elt := elt) (tg := tg) (iter := iter) (scope := scope) (pos := pos) (R := compPost (model X.prog X.w) X.A X.xe use Qf (.ref D) s3.heap.objs.size) T hc hu tr pg pk stat rfl q3 I4 st4 nfp (fun s6 H5 I6 qq => ?_)
  · exact PpSet.codeAny_compStart_set loop (tr.self X.A 0 _ _ _ st4 loop)
  · have I7 : Inv X pins σ H5 s6 := I3.call' (ch := fp) I6.os I6.base I6.hok I6.bare fun b hb => ⟨(f3 b hb).1.2.2.2.1, (f3 b hb).1.2.1, (f3 b hb).1.2.2.2.2.1, (f3 b hb).1.2.2.2.2.2⟩
    have nC : H5 s3.heap.objs.size = none := by
      have z : H5 ce.locals = none := I6.free
      rw [cL] at z
      exact z
    obtain ⟨m, hn, _⟩ := I6.loc
    have hn : s6.heap.Ns ce.locals m := hn
    rw [cL] at hn
    exact hRR D s3.heap.objs.size s6 m H5 I7 qq hn (I3.fpOk (Nat.le_refl _) nC)
theorem pe_uc (T : StK ε κ) (hc : X.calm = true) (hu : X.A.units + 64 < cLine) (hN : X.N.Nodup) (hi : PI X tg iter wi) (ok : BlkOk X.N X.env.scope scope own)
    (hg : ∀ (s : Shared) (H : Hp) (C : Addr) (cl : List (Str × Addr)) (fp : List Addr), PG (X.blk s H scope (compEnvC scope cl C X.env) fp) tg g)
    (he : ∀ (s : Shared) (H : Hp) (C : Addr) (cl : List (Str × Addr)) (fp : List Addr), PE (X.blk s H scope (compEnvC scope cl C X.env) fp) elt te) (hs : ∀ x, foldedSetIterable iter X.env x = pure x := by intro _; rfl) :
    PE X (.SetComp elt [⟨tg, iter, [], 0⟩] scope pos) (tUc X.prog X.w X.K T wi g te (own.map (·.2))) := by
  refine ⟨fun pins s σ H Q I h => ?_⟩
  rw [PpSet.eval_SetComp]
  refine uc_core T hc hu hN I hi ok hg he hs h fun D C s' m H' I' q hn f => ⟨m, hn, fun h2 sb => ⟨.ref D, H', ?_, rfl, q⟩⟩
  obtain ⟨f0, f1, f2, f3, f4, f5⟩ := f
  exact I'.turned (t' := s'.toks) (fun b o hb e => (sb.2 b hb).trans e) f0 f1 f3 f4 f5
theorem cr_lenSt (T : StK ε κ) : CallR X (.builtin "len") (fun vs H Q => ∃ (D : Addr) (L : List ε), vs = [.ref D] ∧ H D = some (T.ob X.prog X.w D L) ∧ L.length < 64 ∧ Q (.int (cnt (L.map T.ke) : Nat)) H) := by
  intro pins s σ H vs us Q I r h
  obtain ⟨D, L, rfl, hD, hl, q⟩ := h
  rw [Vals.ref1 r]
  exact T.len (T.get I hD) hl ⟨.int (cnt (L.map T.ke) : Nat), H, I.tok _, ⟨_, rfl⟩, q⟩
end
end

/-! ### as data -/
def kds {κ : Type} (kd : PyData → Option κ) : List PyData → Option (List κ)
  | [] => some []
  | d :: ds => match kd d with
    | none => none
    | some k => (kds kd ds).map (k :: ·)
def intsD : List PyData → Option (List Int)
  | [] => some []
  | d :: ds => match d with
    | .int i => (intsD ds).map (i :: ·)
    | _ => none
theorem intsD_eq : ∀ {ds : List PyData} {ns : List Int}, intsD ds = some ns → ds = ns.map .int
  | [], ns, h => by cases h; rfl
  | d :: ds, ns, h => by
    cases d with
    | int i =>
      obtain ⟨ms, h1, h2⟩ := Option.map_eq_some_iff.mp (show (intsD ds).map (i :: ·) = some ns from h)
      subst h2
      rw [intsD_eq h1]; rfl
    | none => cases h
    | bool b => cases h
    | str x => cases h
    | list l => cases h
    | tuple l => cases h
    | dict l => cases h
def kTupD : PyData → Option (List Int)
  | .tuple ds => intsD ds
  | _ => none
structure StD {ε κ : Type} [DecidableEq κ] (T : StK ε κ) (kd : PyData → Option κ) : Prop where
  den : ∀ {K : PySem.W.Frag} {F : Hp} {v : V} {d : PyData} {k : κ}, Den K F v d → kd d = some k → ∃ e, v = T.ev e ∧ T.ke e = k ∧ T.ok K F e
  mono : ∀ {K : PySem.W.Frag} {F F' : Hp} {e : ε}, Ex F F' → T.ok K F e → T.ok K F' e
theorem std_mix : StD keySt kMix where
  den := fun {K F v d k} h e => by
    cases d with
    | int i => cases e; exact ⟨.inl i, h.flat rfl, rfl, trivial⟩
    | str x => cases e; exact ⟨.inr x, h.flat rfl, rfl, trivial⟩
    | none => cases e
    | bool b => cases e
    | tuple x => cases e
    | list l => cases e
    | dict l => cases e
  mono := fun _ _ => trivial
theorem std_tup : StD tupSt kTupD where
  den := fun {K F v d k} h e => by
    cases d with
    | tuple ds =>
      have e2 : ds = k.map .int := intsD_eq e
      subst e2
      cases h with
      | @tup a xs ds h1 h2 => exact ⟨(a, k), rfl, rfl, by rw [h2.ints] at h1; exact h1⟩
    | none => cases e
    | bool b => cases e
    | str x => cases e
    | list l => cases e
    | int l => cases e
    | dict l => cases e
  mono := fun x h => x.st h
def ucOf {ε κ : Type} [DecidableEq κ] (P : Program) (w : World) (mg : Str → Option Value) (K : PySem.W.Frag) (F0 H0 : Hp) (W : WX) (T : StK ε κ) (kd : PyData → Option κ) (fi : Sls → Res (List PyData)) (bt : PyData → Sls → Option Sls) (fe : Sls → Res PyData) (vs : List Nat) (σ : L2.St) (H : Hp) (Q : VK) : Prop :=
  ∃ ρ F, SR K F0 H0 ρ σ H F ∧ match fi ρ with
  | .exc x => ∀ cls dd H' F', Gr F H F' H' → ExR mg x cls dd H' F' → W cls dd σ H'
  | .bad => False
  | .ok ds => ds.length < 64 ∧ match compL bt tYesD fe (wipeS ρ vs) ds with
    | .ok ys => ∃ ks, kds kd ys = some ks ∧ ∀ D L H' F', Gr F H F' H' → H D = none → H' D = some (T.ob P w D L) → F' D = none → L.map T.ke = ks → L.length < 64 → Q (.ref D) H'
    | _ => False
section
variable {X : Cx} {F0 H0 : Hp} {W : WX} {ε κ : Type} [DecidableEq κ]
theorem uc_run (T : StK ε κ) {kd : PyData → Option κ} (hk : StD T kd) {fi : Sls → Res (List PyData)} {bt : PyData → Sls → Option Sls} {fe : Sls → Res PyData} {vs : List Nat} {σ : L2.St} {H : Hp} {Q : VK} {ws : List Nat} (hw : ∀ i ∈ ws, i ∈ vs)
    (h : ucOf X.prog X.w X.mg X.K F0 H0 W T kd fi bt fe vs σ H Q) : tUc X.prog X.w X.K T (iOf X.mg X.K F0 H0 W fi) (gOf X.K F0 H0 bt ws) (rd X.mg X.K F0 H0 WF (Den X.K) fe) vs σ H Q := by
  obtain ⟨ρ, F, sr, q⟩ := h
  refine ⟨ρ, F, sr, ?_⟩
  cases e : fi ρ with
  | exc x => simp only [e] at q; exact q
  | bad => simp only [e] at q
  | ok ds =>
    simp only [e] at q
    obtain ⟨hz, q⟩ := q
    intro J H1 F1 g1 ok D hD
    have hD0 : H D = none := not_of_none g1.hh hD
    have sr1 := sr.grow g1
    refine ⟨fun i m Hi => m = ds.length - i ∧ i ≤ ds.length ∧ ∃ H' F' acc, Gr F1 H1 F' H' ∧ H' D = none ∧ F' D = none ∧ Hi = upd H' D (T.ob X.prog X.w D acc) ∧ acc.length ≤ i ∧ (∀ x ∈ acc, T.ok X.K F' x) ∧
        (match compL bt tYesD fe (wipeS ρ vs) (ds.drop i) with
          | .ok ys => ∃ ks, kds kd ys = some ks ∧ ∀ D L H2 F2, Gr F H F2 H2 → H D = none → H2 D = some (T.ob X.prog X.w D L) → F2 D = none → L.map T.ke = acc.map T.ke ++ ks → L.length < 64 → Q (.ref D) H2
          | _ => False), ⟨ds.length, by simp, Nat.zero_le _, H1, F1, [], .refl g1.fh, hD, not_of_none g1.fh hD, rfl, Nat.le_refl _, fun x z => absurd z List.not_mem_nil, ?_⟩, ?_⟩
    · rw [List.drop_zero]
      exact q
    · rintro i m Hi ⟨rfl, hi, H', F', acc, g2, hn, hFn, rfl, hacc, hok, q2⟩
      have grD : Gr F' H' F' (upd H' D (T.ob X.prog X.w D acc)) := Gr.newO g2.fh hn
      by_cases hlt : i < ds.length
      · have hd : ds[i]? = some ds[i] := List.getElem?_eq_getElem hlt
        rw [List.drop_eq_getElem_cons hlt] at q2
        refine .inr ⟨ok.go i _ (g2.ff.trans grD.fh) hlt, fun Hi => i + 1 ≤ ds.length ∧ ∃ H' F' acc, Gr F1 H1 F' H' ∧ H' D = none ∧ F' D = none ∧ Hi = upd H' D (T.ob X.prog X.w D acc) ∧ acc.length ≤ i + 1 ∧ (∀ x ∈ acc, T.ok X.K F' x) ∧
          (match compL bt tYesD fe (wipeS ρ vs) (ds.drop (i + 1)) with
            | .ok ys => ∃ ks, kds kd ys = some ks ∧ ∀ D L H2 F2, Gr F H F2 H2 → H D = none → H2 D = some (T.ob X.prog X.w D L) → F2 D = none → L.map T.ke = acc.map T.ke ++ ks → L.length < 64 → Q (.ref D) H2
            | _ => False), fun Hi ⟨hj, rest⟩ => ⟨ds.length - (i + 1), by omega, rfl, hj, rest⟩, fun x H3 y => ?_⟩
        obtain ⟨F3, g3, dn⟩ := ok.yld i _ x H3 F' _ g2.ff grD.fh hd y
        have srB : SR X.K F0 H0 (wipeS ρ vs) (wipe σ vs) H3 F3 := ((sr1.wipeAll vs).grow (g2.trans grD)).grow g3
        refine ⟨wipeS ρ vs, F3, ds[i], srB, dn, ?_⟩
        simp only [compL] at q2
        cases e1 : bt ds[i] (wipeS ρ vs) with
        | none => simp only [e1] at q2
        | some ρ3 =>
          simp only [e1, tYesD, if_true] at q2
          refine fun σ3 sr3 hwp => ⟨(hwp vs hw).trans (wipe_sub fun _ h => h), ρ3, F3, sr3, ?_⟩
          have back : ∀ {Hx Fx : Hp}, Gr F3 H3 Fx Hx → ∃ Hy, Gr F1 H1 Fx Hy ∧ Hy D = none ∧ Fx D = none ∧ Hx = upd Hy D (T.ob X.prog X.w D acc) := fun {Hx Fx} gx => by
            have nD : Fx D = none := gx.nf D (g3.nf D hFn (by rw [upd_same]; simp)) (by rw [g3.hh D _ upd_same]; simp)
            have eD : Hx D = some (T.ob X.prog X.w D acc) := gx.hh D _ (g3.hh D _ upd_same)
            refine ⟨fun b => if b = D then none else Hx b, ⟨g2.ff.trans (g3.ff.trans gx.ff), fun b o z => ?_, fun b o z => ?_, fun b z1 z2 => ?_, fun b ob u z1 z2 => ((g2.trans grD).trans (g3.trans gx)).nz b ob u z1 z2⟩, if_pos rfl, nD, ?_⟩
            · have hb : b ≠ D := fun w => by rw [w, hD] at z; cases z
              show (if b = D then none else Hx b) = some o
              rw [if_neg hb]
              exact gx.hh _ _ (g3.hh _ _ (grD.hh _ _ (g2.hh _ _ z)))
            · have hb : b ≠ D := fun w => by rw [w, nD] at z; cases z
              show (if b = D then none else Hx b) = some o
              rw [if_neg hb]
              exact gx.fh _ _ z
            · have y1 := g2.nf b z1 z2
              have z3 : H' b ≠ none := fun w => by
                cases w2 : H1 b with
                | none => exact z2 w2
                | some o => rw [g2.hh b o w2] at w; cases w
              have z4 : upd H' D (T.ob X.prog X.w D acc) b ≠ none := fun w => by
                by_cases hb : b = D
                · rw [hb, upd_same] at w; cases w
                · rw [upd_ne hb] at w; exact z3 w
              have y2 := g3.nf b y1 z4
              exact gx.nf b y2 fun w => z4 (by
                cases w2 : upd H' D (T.ob X.prog X.w D acc) b with
                | none => rfl
                | some o => rw [g3.hh b o w2] at w; cases w)
            · funext b
              show Hx b = if b = D then some (T.ob X.prog X.w D acc) else if b = D then none else Hx b
              by_cases hb : b = D
              · rw [if_pos hb, hb]; exact eD
              · rw [if_neg hb, if_neg hb]
          cases e2 : fe ρ3 with
          | exc x => simp only [e2] at q2
          | bad => simp only [e2] at q2
          | ok yk =>
            simp only [e2] at q2
            intro u H4 F4 g4 r4
            obtain ⟨Hy, gy, hy, fy, rfl⟩ := back g4
            cases e4 : compL bt tYesD fe (wipeS ρ vs) (ds.drop (i + 1)) with
            | exc x => rw [e4] at q2; simp only [bind_exc] at q2
            | bad => rw [e4] at q2; simp only [bind_bad] at q2
            | ok ys =>
              rw [e4] at q2
              simp only [bind_ok] at q2
              obtain ⟨ks, hq, q2⟩ := q2
              simp only [kds] at hq
              cases e5 : kd yk with
              | none => simp only [e5] at hq; cases hq
              | some kk =>
                simp only [e5] at hq
                obtain ⟨ks', hq', rfl⟩ := Option.map_eq_some_iff.mp hq
                obtain ⟨en, ee, ek, eo⟩ := hk.den r4 e5
                have ok4 : ∀ x ∈ acc ++ [en], T.ok X.K F4 x := fun x hx => by
                  rcases List.mem_append.mp hx with hx | hx
                  · exact hk.mono g4.ff (hk.mono g3.ff (hok x hx))
                  · rw [List.mem_singleton.mp hx]; exact eo
                refine ⟨acc, en, ee, upd_same, by omega, fun x hx => hk.mono g4.fh (ok4 x hx), hlt, Hy, F4, acc ++ [en], gy, hy, fy, upd_upd, by rw [List.length_append]; exact Nat.succ_le_succ hacc, ok4, ?_⟩
                refine ⟨ks', hq', fun D L H2 F2 a1 a2 a3 a4 a5 a6 => q2 D L H2 F2 a1 a2 a3 a4 ?_ a6⟩
                rw [a5, List.map_append, List.append_assoc, ← ek]; rfl
      · have e3 : i = ds.length := by omega
        subst e3
        rw [List.drop_length] at q2
        simp only [compL] at q2
        obtain ⟨ks, hq, q2⟩ := q2
        simp only [kds] at hq
        cases hq
        refine .inl ⟨ok.stop _ _ (g2.ff.trans grD.fh) rfl, ?_⟩
        exact q2 D acc _ F' (g1.trans (g2.trans grD)) hD0 upd_same hFn (by simp) (by omega)
end
/-- how many unlike there are -/
def cntD (ys : List PyData) : Option PyData := match kds kMix ys with
  | some ks => some (.int (cnt ks : Nat))
  | none => match kds kTupD ys with
    | some ks => some (.int (cnt ks : Nat))
    | none => none
def dLenSt (fi : Sls → Res (List PyData)) (bt : PyData → Sls → Option Sls) (fe : Sls → Res PyData) (vs : List Nat) (ρ : Sls) : Res PyData :=
  fi ρ >>= fun ds => if ds.length < 64 then compL bt tYesD fe (wipeS ρ vs) ds >>= fun ys => ofO (cntD ys) else .bad
section
variable {X : Cx} {F0 H0 : Hp} {W : WX} {pos p p2 : Pos} {tg iter e : Expr} {scope : Scope} {own : List (Str × Nat)} {fi : Sls → Res (List PyData)} {bt : PyData → Sls → Option Sls} {fe : Sls → Res PyData} {ws : List Nat} {k : Nat}
theorem pe_ucD {ε κ : Type} [DecidableEq κ] (T : StK ε κ) {kd : PyData → Option κ} (hk : StD T kd) (c : Cz X W k) (hN : X.N.Nodup) (hi : DI X F0 H0 W tg iter fi) (ok : BlkOk X.N X.env.scope scope own) (hw : ∀ i ∈ ws, i ∈ own.map (·.2))
    (hg : DcG X F0 H0 W k scope tg bt ws) (hE : DcE X F0 H0 W k scope e fe) (hs : ∀ x, foldedSetIterable iter X.env x = pure x) :
    PE X (.SetComp e [⟨tg, iter, [], 0⟩] scope pos) (ucOf X.prog X.w X.mg X.K F0 H0 W T kd fi bt fe (own.map (·.2))) :=
  PE.imp (pe_uc T (g := gOf X.K F0 H0 bt ws) (te := rd X.mg X.K F0 H0 WF (Den X.K) fe) c.calm c.room.units hN hi ok (fun s H C cl fp => hg s H C cl fp (c.blk ..)) (fun s H C cl fp => hE s H C cl fp (c.blk ..)) hs) fun _ _ _ h => uc_run T hk hw h
/-- len({e for x in xs}) -/
theorem de_lenSt (c : Cz X W k) (hN : X.N.Nodup) (hgl : Gl X "len") (hm : X.mg "len" = none) (hi : DI X F0 H0 W tg iter fi) (ok : BlkOk X.N X.env.scope scope own) (hw : ∀ i ∈ ws, i ∈ own.map (·.2))
    (hg : DcG X F0 H0 W k scope tg bt ws) (hE : DcE X F0 H0 W k scope e fe) (hs : ∀ x, foldedSetIterable iter X.env x = pure x := by intro _; rfl)
    (he : starEach [.SetComp e [⟨tg, iter, [], 0⟩] scope p2] X.env = (false, eval (.SetComp e [⟨tg, iter, [], 0⟩] scope p2) X.env) :: starEach [] X.env := by rfl) (hpl : (backTo pos (starEach [] X.env)).any (·.1) = false := by rfl) :
    DE X F0 H0 W (.Call (.Name "len" p) [.SetComp e [⟨tg, iter, [], 0⟩] scope p2] [] pos) (dLenSt fi bt fe (own.map (·.2))) := by
  have k1 := pe_callB (pos := pos) (p := p) (cr_lenSt (X := X) keySt) hgl hm PySem.boot_len (pa_cons (pe_ucD (pos := p2) keySt std_mix c hN hi ok hw hg hE hs) pa_nil he) (by decide) (by decide) he hpl
  have k2 := pe_callB (pos := pos) (p := p) (cr_lenSt (X := X) tupSt) hgl hm PySem.boot_len (pa_cons (pe_ucD (pos := p2) tupSt std_tup c hN hi ok hw hg hE hs) pa_nil he) (by decide) (by decide) he hpl
  refine PE.imp (pe_or k1 k2) fun σ H Q ⟨ρ, F, sr, q⟩ => ?_
  unfold dLenSt at q
  cases ef : fi ρ with
  | exc x => simp only [ef, bind_exc] at q; exact .inl ⟨ρ, F, sr, by simp only [ef]; exact q⟩
  | bad => simp only [ef, bind_bad] at q; exact q.elim
  | ok ds =>
    simp only [ef, bind_ok] at q
    by_cases hz : ds.length < 64
    case neg => simp only [hz, if_false] at q; exact q.elim
    simp only [hz, if_true] at q
    cases e2 : compL bt tYesD fe (wipeS ρ (own.map (·.2))) ds with
    | exc x => exact absurd e2 (compL_noexc ds)
    | bad => simp only [e2, bind_bad] at q; exact q.elim
    | ok ys =>
      simp only [e2, bind_ok] at q
      unfold cntD at q
      cases e3 : kds kMix ys with
      | some ks =>
        simp only [e3, ofO_some] at q
        refine .inl ⟨ρ, F, sr, ?_⟩
        simp only [ef, e2]
        exact ⟨hz, ks, e3, fun D L H' F' g hD hD' hF' hL hl => ⟨D, L, rfl, hD', hl, q _ H' F' g (by rw [hL]; exact .int _)⟩⟩
      | none =>
        simp only [e3] at q
        cases e4 : kds kTupD ys with
        | none => simp only [e4, ofO_none] at q; exact q.elim
        | some ks =>
          simp only [e4, ofO_some] at q
          refine .inr ⟨ρ, F, sr, ?_⟩
          simp only [ef, e2]
          exact ⟨hz, ks, e4, fun D L H' F' g hD hD' hF' hL hl => ⟨D, L, rfl, hD', hl, q _ H' F' g (by rw [hL]; exact .int _)⟩⟩
end
end DL

/-! DL23: `in` and `not in` of a list or tuple whose items are lists or tuples. -/
namespace DL
open PySem PySem.Spec PyProof.Rows L2

def inOk (x : PyData) (ds : List PyData) : Bool := noDic x && noDics ds && PyData.plainAll ds && x.plain && decide (x.depth ≤ 60)
def inQ (neg : Bool) (x : PyData) (ds : List PyData) : Option PyData := if inOk x ds = true then some (.bool (if neg then !hasD x ds else hasD x ds)) else none
def inY (neg : Bool) (x y : PyData) : Option PyData := match y with
  | .list ds => inQ neg x ds
  | .tuple ds => inQ neg x ds
  | _ => none
def orD (a b : Option PyData) : Option PyData := match a with
  | some d => some d
  | none => b
def inX (x y : PyData) : Option PyData := orD (inD x y) (inY false x y)
def notInX (x y : PyData) : Option PyData := orD (notInD x y) (inY true x y)
section
variable {X : Cx}
theorem in_reads {pins : List (Addr × Obj)} {s : Shared} {σ : L2.St} {H F : Hp} {x : V} {u : Value} {d : PyData} (I : Inv X pins σ H s) (ex : Ex F H) (dx : Den X.K F x d) (hn : noDic d = true) (r : RelV x u) : ∃ as, Reads s.heap u d as :=
  Dp.reads I d x u ((dx.mono ex).dp hn) r
theorem inOk_of {x : PyData} {ds : List PyData} (h : inOk x ds = true) : noDic x = true ∧ noDics ds = true ∧ PyData.plainAll ds = true ∧ x.plain = true ∧ x.depth ≤ 60 := by
  unfold inOk at h
  simp only [Bool.and_eq_true, decide_eq_true_eq] at h
  exact ⟨h.1.1.1.1, h.1.1.1.2, h.1.1.2, h.1.2, h.2⟩
theorem in_room {A : Around} {x : PyData} {ds : List PyData} (hu : A.units + 64 < cLine) (h : x.depth ≤ 60) : A.units + 1 + min (PyData.depthAll ds) x.depth < cLine := by
  have := Nat.min_le_right (PyData.depthAll ds) x.depth
  omega
theorem op_inX (hu : X.A.units + 64 < cLine) : OpR X (compareOp .In) (r2 X.K inX) := by
  intro pins s σ H x y v u Q I rx ry h
  obtain ⟨a, b, F, ex, da, db, q⟩ := h
  unfold inX orD at q
  cases e : inD a b with
  | some d => simp only [e] at q; exact op_inV pins s σ H x y v u Q I rx ry ⟨a, b, F, ex, da, db, by rw [e]; exact q⟩
  | none =>
    simp only [e] at q
    cases b with
    | list ds =>
      have q' : Rop X.K (inQ false a ds) H F Q := q
      unfold inQ at q'
      by_cases hz : inOk a ds = true
      · rw [if_pos hz] at q'
        obtain ⟨z1, z2, z3, z4, z5⟩ := inOk_of hz
        obtain ⟨as, r1⟩ := in_reads I ex da z1 rx
        obtain ⟨bs, r2⟩ := in_reads I ex db (by rw [noDic]; exact z2) ry
        exact SeqAt.in_list_data r2 r1 z3 z4 (in_room hu z5) ⟨.bl _, H, I, rfl, q'.val ex (.bl _)⟩
      · rw [if_neg hz] at q'; exact q'.elim
    | tuple ds =>
      have q' : Rop X.K (inQ false a ds) H F Q := q
      unfold inQ at q'
      by_cases hz : inOk a ds = true
      · rw [if_pos hz] at q'
        obtain ⟨z1, z2, z3, z4, z5⟩ := inOk_of hz
        obtain ⟨as, r1⟩ := in_reads I ex da z1 rx
        obtain ⟨bs, r2⟩ := in_reads I ex db (by rw [noDic]; exact z2) ry
        exact SeqAt.in_tuple_data r2 r1 z3 z4 (in_room hu z5) ⟨.bl _, H, I, rfl, q'.val ex (.bl _)⟩
      · rw [if_neg hz] at q'; exact q'.elim
    | none => exact q.elim
    | bool _ => exact q.elim
    | int _ => exact q.elim
    | str _ => exact q.elim
    | dict _ => exact q.elim
theorem op_notInX (hu : X.A.units + 64 < cLine) : OpR X (compareOp .NotIn) (r2 X.K notInX) := by
  intro pins s σ H x y v u Q I rx ry h
  obtain ⟨a, b, F, ex, da, db, q⟩ := h
  unfold notInX orD at q
  cases e : notInD a b with
  | some d => simp only [e] at q; exact op_notInV pins s σ H x y v u Q I rx ry ⟨a, b, F, ex, da, db, by rw [e]; exact q⟩
  | none =>
    simp only [e] at q
    cases b with
    | list ds =>
      have q' : Rop X.K (inQ true a ds) H F Q := q
      unfold inQ at q'
      by_cases hz : inOk a ds = true
      · rw [if_pos hz] at q'
        obtain ⟨z1, z2, z3, z4, z5⟩ := inOk_of hz
        obtain ⟨as, r1⟩ := in_reads I ex da z1 rx
        obtain ⟨bs, r2⟩ := in_reads I ex db (by rw [noDic]; exact z2) ry
        exact SeqAt.notIn_list_data r2 r1 z3 z4 (in_room hu z5) ⟨.bl _, H, I, rfl, q'.val ex (.bl _)⟩
      · rw [if_neg hz] at q'; exact q'.elim
    | tuple ds =>
      have q' : Rop X.K (inQ true a ds) H F Q := q
      unfold inQ at q'
      by_cases hz : inOk a ds = true
      · rw [if_pos hz] at q'
        obtain ⟨z1, z2, z3, z4, z5⟩ := inOk_of hz
        obtain ⟨as, r1⟩ := in_reads I ex da z1 rx
        obtain ⟨bs, r2⟩ := in_reads I ex db (by rw [noDic]; exact z2) ry
        exact SeqAt.notIn_tuple_data r2 r1 z3 z4 (in_room hu z5) ⟨.bl _, H, I, rfl, q'.val ex (.bl _)⟩
      · rw [if_neg hz] at q'; exact q'.elim
    | none => exact q.elim
    | bool _ => exact q.elim
    | int _ => exact q.elim
    | str _ => exact q.elim
    | dict _ => exact q.elim
end
end DL

/-! PB: how the plain functions of the walk are reckoned (simp lemmas), plain lemmas of lists, texts, numbers. -/
namespace DL
open PySem PySem.Spec PyProof.Rows L2

/-! ### statements -/
def Out.thn (o : Out) (g : Sls → Out) : Out := match o with
  | .nx ρ => g ρ
  | o => o
def Res.out {α : Type} (r : Res α) (k : α → Sls → Out) (ρ : Sls) : Out := match r with
  | .ok a => k a ρ
  | .exc x => .exc x ρ
  | .bad => .bad
section
variable {α : Type} (ρ : Sls) (g g1 g2 : Sls → Out) (d : PyData) (x : Xn) (k : α → Sls → Out) (i : Nat) (f : Sls → Res PyData) (fs : Sls → Res (List PyData)) (t : Sls → Res Bool)
@[simp] theorem thn_nx : (Out.nx ρ).thn g = g ρ := nd rfl
@[simp] theorem thn_rt : (Out.rt d).thn g = .rt d := nd rfl
@[simp] theorem thn_bk : (Out.bk ρ).thn g = .bk ρ := nd rfl
@[simp] theorem thn_ct : (Out.ct ρ).thn g = .ct ρ := nd rfl
@[simp] theorem thn_exc : (Out.exc x ρ).thn g = .exc x ρ := nd rfl
@[simp] theorem thn_bad : Out.bad.thn g = .bad := nd rfl
theorem thn_ite (c : Prop) [Decidable c] (a b : Out) : (if c then a else b).thn g = if c then a.thn g else b.thn g := by split <;> rfl
@[simp] theorem out_ok (a : α) : (Res.ok a).out k ρ = k a ρ := nd rfl
@[simp] theorem out_exc : (Res.exc x : Res α).out k ρ = .exc x ρ := nd rfl
@[simp] theorem out_bad : (Res.bad : Res α).out k ρ = .bad := nd rfl
@[simp] theorem gSeq_is : gSeq g1 g2 ρ = (g1 ρ).thn g2 := by unfold gSeq Out.thn; cases g1 ρ <;> rfl
theorem sE_is (r : Sls → Res α) : sE r k ρ = (r ρ).out k ρ := by unfold sE Res.out; cases r ρ <;> rfl
@[simp] theorem gIf_is : gIf t g1 g2 ρ = (t ρ).out (fun b ρ => if b = true then g1 ρ else g2 ρ) ρ := sE_is ..
@[simp] theorem gSet_is : gSet i f ρ = (f ρ).out (fun d ρ => .nx (ρ.set i (.val d))) ρ := sE_is ..
@[simp] theorem gSetN_is : gSetN i fs ρ = (fs ρ).out (fun ds ρ => .nx (ρ.set i (.own ds))) ρ := sE_is ..
@[simp] theorem gRet_is : gRet f ρ = (f ρ).out (fun d _ => .rt d) ρ := sE_is ..
@[simp] theorem gDrop_is : gDrop f ρ = (f ρ).out (fun _ ρ => .nx ρ) ρ := sE_is ..
@[simp] theorem gNext_is : gNext ρ = .nx ρ := nd rfl
@[simp] theorem gFor_is (bt : PyData → Sls → Option Sls) : gFor fs bt g ρ = (fs ρ).out (fun ds ρ => forL bt g ds ρ) ρ := sE_is ..
@[simp] theorem gWhile_is (n : Sls → Nat) : gWhile n t g ρ = whileN t g (n ρ) ρ := nd rfl
@[simp] theorem gBefore_is : gBefore i g ρ = g (frz i ρ) := nd rfl
@[simp] theorem gAsg_is (bt : PyData → Sls → Option Sls) : gAsg f bt ρ = (f ρ).out (fun d ρ => match bt d ρ with | some ρ' => .nx ρ' | none => .bad) ρ := sE_is ..
@[simp] theorem outR_rt : outR (.rt d) = .ok d := nd rfl
@[simp] theorem outR_nx : outR (.nx ρ) = .ok .none := nd rfl
@[simp] theorem outR_exc : outR (.exc x ρ) = .exc x := nd rfl
@[simp] theorem outR_bad : outR .bad = .bad := nd rfl
theorem out_ite (c : Prop) [Decidable c] (a b : Res α) : (if c then a else b).out k ρ = if c then a.out k ρ else b.out k ρ := by split <;> rfl

/-! ### expressions -/
@[simp] theorem dNil_is : dNil ρ = .ok [] := nd rfl
@[simp] theorem dCons_is : dCons f fs ρ = (f ρ >>= fun x => fs ρ >>= fun xs => .ok (x :: xs)) := nd rfl
@[simp] theorem d1_is (o : PyData → Option PyData) : d1 o f ρ = (f ρ >>= fun x => ofO (o x)) := nd rfl
@[simp] theorem d2_is (o : PyData → PyData → Option PyData) (f2 : Sls → Res PyData) : d2 o f f2 ρ = (f ρ >>= fun x => f2 ρ >>= fun y => ofO (o x y)) := nd rfl
@[simp] theorem dL_is (o : List PyData → Option PyData) : dL o fs ρ = (fs ρ >>= fun x => ofO (o x)) := nd rfl
@[simp] theorem dB_is : dB f ρ = (f ρ >>= fun d => ofO (asB d)) := nd rfl
@[simp] theorem dTru_is : dTru f ρ = (f ρ >>= fun d => ofO (truD d)) := nd rfl
@[simp] theorem dNot_is : dNot t ρ = (t ρ >>= fun b => .ok (!b)) := nd rfl
@[simp] theorem dAnd_is (t2 : Sls → Res Bool) : dAnd t t2 ρ = (t ρ >>= fun b => if b = true then t2 ρ else .ok false) := nd rfl
@[simp] theorem dOr_is (t2 : Sls → Res Bool) : dOr t t2 ρ = (t ρ >>= fun b => if b = true then .ok true else t2 ρ) := nd rfl
@[simp] theorem dIf_is (f2 : Sls → Res PyData) : dIf t f f2 ρ = (t ρ >>= fun b => if b = true then f ρ else f2 ρ) := nd rfl
@[simp] theorem dAndV_is (f2 : Sls → Res PyData) : dAndV f f2 ρ = (f ρ >>= fun d => ofO (truD d) >>= fun b => if b = true then f2 ρ else .ok d) := nd rfl
@[simp] theorem dOrV_is (f2 : Sls → Res PyData) : dOrV f f2 ρ = (f ρ >>= fun d => ofO (truD d) >>= fun b => if b = true then .ok d else f2 ρ) := nd rfl
@[simp] theorem dChain_is (o o' : PyData → PyData → Option PyData) (f2 f3 : Sls → Res PyData) : dChain o o' f f2 f3 ρ = (f ρ >>= fun x => f2 ρ >>= fun y => ofO ((o x y).bind asB) >>= fun k => if k = true then f3 ρ >>= fun z => ofO (o' y z) else .ok (.bool false)) := nd rfl
@[simp] theorem dSl_is (o : PyData → Option Int → Option Int → Option PyData) (l u : Sls → Res (Option Int)) : dSl o f l u ρ = (f ρ >>= fun x => l ρ >>= fun i => u ρ >>= fun j => ofO (o x i j)) := nd rfl
@[simp] theorem dPart_is : dPart f ρ = (f ρ >>= fun d => ofO ((asI d).map some)) := nd rfl
@[simp] theorem dFr_is : dFr fs ρ = (fs ρ >>= fun ds => .ok (.list ds)) := nd rfl
@[simp] theorem dDisp_is : dDisp fs ρ = (fs ρ >>= fun ds => if ds.length ≤ 1000 then .ok ds else .bad) := nd rfl
@[simp] theorem dNL_list (xs : List PyData) (h : fs ρ = .ok [.list xs]) : dNL fs ρ = .ok xs := by unfold dNL; rw [h]; rfl
@[simp] theorem dNL_tuple (xs : List PyData) (h : fs ρ = .ok [.tuple xs]) : dNL fs ρ = .ok xs := by unfold dNL; rw [h]; rfl
@[simp] theorem dCall_is (Fn : List PyData → Res PyData) : dCall Fn fs ρ = (fs ρ >>= Fn) := nd rfl
@[simp] theorem dItems_is : dItems f ρ = (f ρ >>= fun d => ofO (itemsOf d)) := nd rfl
@[simp] theorem dRng_is (o : List PyData → Option (List PyData)) : dRng o fs ρ = (fs ρ >>= fun ds => ofO (o ds)) := nd rfl
@[simp] theorem dLc_is (bt : PyData → Sls → Option Sls) (vs : List Nat) : dLc fs bt t f vs ρ = (fs ρ >>= fun ds => if ds.length ≤ 16777216 then compL bt t f (wipeS ρ vs) ds else .bad) := nd rfl
@[simp] theorem tYesD_is : tYesD ρ = .ok true := nd rfl
@[simp] theorem bName_is : bName i d ρ = some (ρ.set i (.val d)) := nd rfl
@[simp] theorem wipeS_nil : wipeS ρ [] = ρ := nd rfl
@[simp] theorem wipeS_cons (v : Nat) (vs : List Nat) : wipeS ρ (v :: vs) = (wipeS ρ vs).set v .un := nd rfl
@[simp] theorem dVar_zero : dVar 0 (.val d :: ρ) = .ok d := nd rfl
@[simp] theorem dVar_succ (s : Sl) : dVar (i + 1) (s :: ρ) = dVar i ρ := nd rfl
theorem dM_str (o : PyData → List PyData → Option PyData) (z : Str) (h : f ρ = .ok (.str z)) : dM o f fs ρ = (fs ρ >>= fun xs => ofO (o (.str z) xs)) := by unfold dM; rw [h]; rfl
end
@[simp] theorem asB_bool (b : Bool) : asB (.bool b) = some b := nd rfl
@[simp] theorem asI_int (i : Int) : asI (.int i) = some i := nd rfl
@[simp] theorem truD_bool (b : Bool) : truD (.bool b) = some b := nd rfl
@[simp] theorem truD_none : truD .none = some false := nd rfl
@[simp] theorem truD_int (i : Int) : truD (.int i) = some (i != 0) := nd rfl
@[simp] theorem truD_list (xs : List PyData) : truD (.list xs) = some (!xs.isEmpty) := nd rfl
@[simp] theorem truD_tuple (xs : List PyData) : truD (.tuple xs) = some (!xs.isEmpty) := nd rfl
@[simp] theorem truD_str (z : Str) : truD (.str z) = if z.length ≤ 16777216 then some ((z.length : Int) != 0) else none := nd rfl
@[simp] theorem notD_bool (b : Bool) : notD (.bool b) = some (.bool (!b)) := nd rfl
@[simp] theorem addD_int (i j : Int) : addD (.int i) (.int j) = some (.int (i + j)) := nd rfl
@[simp] theorem addD_str (x y : Str) : addD (.str x) (.str y) = if x.length + y.length ≤ 16777216 then some (.str (x ++ y)) else none := nd rfl
@[simp] theorem addD_list (x y : List PyData) : addD (.list x) (.list y) = if x.length + y.length ≤ 16777216 then some (.list (x ++ y)) else none := nd rfl
@[simp] theorem addD_tuple (x y : List PyData) : addD (.tuple x) (.tuple y) = if x.length + y.length ≤ 16777216 then some (.tuple (x ++ y)) else none := nd rfl
@[simp] theorem subD_int (i j : Int) : subD (.int i) (.int j) = some (.int (i - j)) := nd rfl
theorem mulD_int (i j : Int) : mulD (.int i) (.int j) = if mulOk i j = true then some (.int (i * j)) else none := nd rfl
theorem mulOk_r {i j : Int} (h1 : -(2 ^ 64) < j) (h2 : j < 2 ^ 64) : mulOk i j = true := by unfold mulOk; rw [decide_eq_true_eq]; exact .inl (.inr ⟨h1, h2⟩)
theorem mulOk_l {i j : Int} (h1 : -(2 ^ 64) < i) (h2 : i < 2 ^ 64) : mulOk i j = true := by unfold mulOk; rw [decide_eq_true_eq]; exact .inl (.inl ⟨h1, h2⟩)
/-- a product by a small number -/
theorem mulD_r (i j : Int) (h : (decide (-(2 ^ 64) < j) && decide (j < 2 ^ 64)) = true) : mulD (.int i) (.int j) = some (.int (i * j)) := by
  rw [Bool.and_eq_true, decide_eq_true_eq, decide_eq_true_eq] at h
  rw [mulD_int, if_pos (mulOk_r h.1 h.2)]
theorem mulD_l (i j : Int) (h : (decide (-(2 ^ 64) < i) && decide (i < 2 ^ 64)) = true) : mulD (.int i) (.int j) = some (.int (i * j)) := by
  rw [Bool.and_eq_true, decide_eq_true_eq, decide_eq_true_eq] at h
  rw [mulD_int, if_pos (mulOk_l h.1 h.2)]
theorem fdivD_int (i j : Int) : fdivD (.int i) (.int j) = if divOk j = true then some (.int (i.fdiv j)) else none := nd rfl
/-- by a number of less than 65 bits -/
@[simp] theorem mulD_sr (i j : Int) (h1 : -18446744073709551616 < j) (h2 : j < 18446744073709551616) : mulD (.int i) (.int j) = some (.int (i * j)) := by
  rw [mulD_int, if_pos (mulOk_r (by omega) (by omega))]
@[simp] theorem mulD_sl (i j : Int) (h1 : -18446744073709551616 < i) (h2 : i < 18446744073709551616) : mulD (.int i) (.int j) = some (.int (i * j)) := by
  rw [mulD_int, if_pos (mulOk_l (by omega) (by omega))]
theorem log2_small {n : Nat} (h : n < 18446744073709551616) : n.log2 < 9000 := by
  by_cases h0 : n = 0
  · subst h0; decide
  · have : n.log2 < 64 := (Nat.log2_lt h0).mpr (by omega)
    omega
theorem divOk_s {j : Int} (h1 : 0 < j) (h2 : j < 18446744073709551616) : divOk j = true := by
  unfold divOk
  rw [decide_eq_true_eq]
  exact ⟨by omega, log2_small (by omega)⟩
@[simp] theorem fdivD_s (i j : Int) (h1 : 0 < j) (h2 : j < 18446744073709551616) : fdivD (.int i) (.int j) = some (.int (i.fdiv j)) := by
  rw [fdivD_int, if_pos (divOk_s h1 h2)]
@[simp] theorem modD_int (i j : Int) : modD (.int i) (.int j) = if j = 0 then none else some (.int (i.fmod j)) := nd rfl
theorem powD_int (i j : Int) : powD (.int i) (.int j) = if 0 ≤ j ∧ j ≤ 1000000 ∧ i.natAbs < 2 ^ 64 then some (.int (i ^ j.toNat)) else none := nd rfl
theorem powD_of {i j v : Int} (h : (decide (0 ≤ j ∧ j ≤ 1000000 ∧ i.natAbs < 2 ^ 64) && decide (i ^ j.toNat = v)) = true) : powD (.int i) (.int j) = some (.int v) := by
  rw [Bool.and_eq_true, decide_eq_true_eq, decide_eq_true_eq] at h
  rw [powD_int, if_pos h.1, h.2]
@[simp] theorem powD_10_1 : powD (.int 10) (.int 1) = some (.int 10) := powD_of (by decide +kernel)
@[simp] theorem powD_10_2 : powD (.int 10) (.int 2) = some (.int 100) := powD_of (by decide +kernel)
@[simp] theorem powD_10_3 : powD (.int 10) (.int 3) = some (.int 1000) := powD_of (by decide +kernel)
@[simp] theorem powD_10_4 : powD (.int 10) (.int 4) = some (.int 10000) := powD_of (by decide +kernel)
@[simp] theorem powD_10_5 : powD (.int 10) (.int 5) = some (.int 100000) := powD_of (by decide +kernel)
@[simp] theorem powD_10_6 : powD (.int 10) (.int 6) = some (.int 1000000) := powD_of (by decide +kernel)
@[simp] theorem powD_10_7 : powD (.int 10) (.int 7) = some (.int 10000000) := powD_of (by decide +kernel)
@[simp] theorem powD_10_8 : powD (.int 10) (.int 8) = some (.int 100000000) := powD_of (by decide +kernel)
@[simp] theorem powD_10_9 : powD (.int 10) (.int 9) = some (.int 1000000000) := powD_of (by decide +kernel)
@[simp] theorem powD_10_10 : powD (.int 10) (.int 10) = some (.int 10000000000) := powD_of (by decide +kernel)
@[simp] theorem powD_10_11 : powD (.int 10) (.int 11) = some (.int 100000000000) := powD_of (by decide +kernel)
@[simp] theorem powD_10_12 : powD (.int 10) (.int 12) = some (.int 1000000000000) := powD_of (by decide +kernel)
@[simp] theorem powD_10_13 : powD (.int 10) (.int 13) = some (.int 10000000000000) := powD_of (by decide +kernel)
@[simp] theorem powD_10_14 : powD (.int 10) (.int 14) = some (.int 100000000000000) := powD_of (by decide +kernel)
@[simp] theorem powD_10_15 : powD (.int 10) (.int 15) = some (.int 1000000000000000) := powD_of (by decide +kernel)
@[simp] theorem powD_10_16 : powD (.int 10) (.int 16) = some (.int 10000000000000000) := powD_of (by decide +kernel)
@[simp] theorem powD_10_17 : powD (.int 10) (.int 17) = some (.int 100000000000000000) := powD_of (by decide +kernel)
@[simp] theorem powD_10_18 : powD (.int 10) (.int 18) = some (.int 1000000000000000000) := powD_of (by decide +kernel)
@[simp] theorem powD_10_19 : powD (.int 10) (.int 19) = some (.int 10000000000000000000) := powD_of (by decide +kernel)
@[simp] theorem powD_10_20 : powD (.int 10) (.int 20) = some (.int 100000000000000000000) := powD_of (by decide +kernel)
@[simp] theorem powD_10_21 : powD (.int 10) (.int 21) = some (.int 1000000000000000000000) := powD_of (by decide +kernel)
@[simp] theorem powD_10_22 : powD (.int 10) (.int 22) = some (.int 10000000000000000000000) := powD_of (by decide +kernel)
@[simp] theorem powD_10_23 : powD (.int 10) (.int 23) = some (.int 100000000000000000000000) := powD_of (by decide +kernel)
@[simp] theorem powD_10_24 : powD (.int 10) (.int 24) = some (.int 1000000000000000000000000) := powD_of (by decide +kernel)
@[simp] theorem powD_10_25 : powD (.int 10) (.int 25) = some (.int 10000000000000000000000000) := powD_of (by decide +kernel)
@[simp] theorem powD_10_26 : powD (.int 10) (.int 26) = some (.int 100000000000000000000000000) := powD_of (by decide +kernel)
@[simp] theorem powD_10_27 : powD (.int 10) (.int 27) = some (.int 1000000000000000000000000000) := powD_of (by decide +kernel)
@[simp] theorem powD_10_28 : powD (.int 10) (.int 28) = some (.int 10000000000000000000000000000) := powD_of (by decide +kernel)
@[simp] theorem powD_10_29 : powD (.int 10) (.int 29) = some (.int 100000000000000000000000000000) := powD_of (by decide +kernel)
@[simp] theorem powD_10_30 : powD (.int 10) (.int 30) = some (.int 1000000000000000000000000000000) := powD_of (by decide +kernel)
@[simp] theorem negD_int (i : Int) : negD (.int i) = some (.int (-i)) := nd rfl
@[simp] theorem ltD_int (i j : Int) : ltD (.int i) (.int j) = some (.bool (decide (i < j))) := nd rfl
@[simp] theorem ltV_int (i j : Int) : ltV (.int i) (.int j) = some (.bool (decide (i < j))) := by
  simp [ltV, noDic, PyData.depth, lessD]
@[simp] theorem ltV_str (x y : Str) : ltV (.str x) (.str y) = some (.bool (decide (x.cps.toList < y.cps.toList))) := by
  simp [ltV, noDic, PyData.depth, lessD]
@[simp] theorem ltV_bool (x y : Bool) : ltV (.bool x) (.bool y) = some (.bool (decide (b2i x < b2i y))) := by
  simp [ltV, noDic, PyData.depth, lessD]
@[simp] theorem gtV_int (i j : Int) : gtV (.int i) (.int j) = some (.bool (decide (j < i))) := by
  simp [gtV, noDic, PyData.depth, moreD]
@[simp] theorem gtV_str (x y : Str) : gtV (.str x) (.str y) = some (.bool (decide (y.cps.toList < x.cps.toList))) := by
  simp [gtV, noDic, PyData.depth, moreD]
@[simp] theorem gtV_bool (x y : Bool) : gtV (.bool x) (.bool y) = some (.bool (decide (b2i y < b2i x))) := by
  simp [gtV, noDic, PyData.depth, moreD]
@[simp] theorem ltD_bool (x y : Bool) : ltD (.bool x) (.bool y) = some (.bool (decide (b2i x < b2i y))) := nd rfl
@[simp] theorem leD_bool (x y : Bool) : leD (.bool x) (.bool y) = some (.bool (decide (b2i x ≤ b2i y))) := nd rfl
@[simp] theorem gtD_bool (x y : Bool) : gtD (.bool x) (.bool y) = some (.bool (decide (b2i y < b2i x))) := nd rfl
@[simp] theorem geD_bool (x y : Bool) : geD (.bool x) (.bool y) = some (.bool (decide (b2i y ≤ b2i x))) := nd rfl
@[simp] theorem leD_int (i j : Int) : leD (.int i) (.int j) = some (.bool (decide (i ≤ j))) := nd rfl
@[simp] theorem gtD_int (i j : Int) : gtD (.int i) (.int j) = some (.bool (decide (j < i))) := nd rfl
@[simp] theorem geD_int (i j : Int) : geD (.int i) (.int j) = some (.bool (decide (j ≤ i))) := nd rfl
@[simp] theorem ltD_str (x y : Str) : ltD (.str x) (.str y) = some (.bool (decide (x.cps.toList < y.cps.toList))) := nd rfl
@[simp] theorem leD_str (x y : Str) : leD (.str x) (.str y) = some (.bool (!decide (y.cps.toList < x.cps.toList))) := nd rfl
@[simp] theorem gtD_str (x y : Str) : gtD (.str x) (.str y) = some (.bool (decide (y.cps.toList < x.cps.toList))) := nd rfl
@[simp] theorem geD_str (x y : Str) : geD (.str x) (.str y) = some (.bool (!decide (x.cps.toList < y.cps.toList))) := nd rfl
theorem beq_dec {α : Type} [BEq α] [LawfulBEq α] [DecidableEq α] (i j : α) : (i == j) = decide (i = j) := Bool.eq_iff_iff.mpr (by simp)
@[simp] theorem eqD_int (i j : Int) : eqD (.int i) (.int j) = some (.bool (decide (i = j))) := by
  simp [eqD, eqOk, scalD, PyData.eqv]
  exact beq_dec i j
@[simp] theorem eqD_str (i j : Str) : eqD (.str i) (.str j) = some (.bool (decide (i = j))) := by
  simp [eqD, eqOk, scalD, PyData.eqv]
  exact beq_dec i j
@[simp] theorem eqD_bool (i j : Bool) : eqD (.bool i) (.bool j) = some (.bool (decide (i = j))) := by
  simp [eqD, eqOk, scalD, PyData.eqv]
  exact beq_dec i j
@[simp] theorem neD_int (i j : Int) : neD (.int i) (.int j) = some (.bool (!decide (i = j))) := by
  simp [neD, eqOk, scalD, PyData.eqv]
  exact beq_dec i j
@[simp] theorem neD_str (i j : Str) : neD (.str i) (.str j) = some (.bool (!decide (i = j))) := by
  simp [neD, eqOk, scalD, PyData.eqv]
  exact beq_dec i j
@[simp] theorem neD_bool (i j : Bool) : neD (.bool i) (.bool j) = some (.bool (!decide (i = j))) := by
  simp [neD, eqOk, scalD, PyData.eqv]
  exact beq_dec i j
@[simp] theorem isD_none : isD .none .none = some (.bool true) := nd rfl
@[simp] theorem isD_bool (b : Bool) : isD (.bool b) .none = some (.bool false) := nd rfl
@[simp] theorem isD_int (b : Int) : isD (.int b) .none = some (.bool false) := nd rfl
@[simp] theorem isD_str (b : Str) : isD (.str b) .none = some (.bool false) := nd rfl
@[simp] theorem isD_list (b : List PyData) : isD (.list b) .none = some (.bool false) := nd rfl
@[simp] theorem isD_tuple (b : List PyData) : isD (.tuple b) .none = some (.bool false) := nd rfl
@[simp] theorem isD_dict (b : List (PyData × PyData)) : isD (.dict b) .none = some (.bool false) := nd rfl
@[simp] theorem isNotD_none : isNotD .none .none = some (.bool false) := nd rfl
@[simp] theorem isNotD_bool (b : Bool) : isNotD (.bool b) .none = some (.bool true) := nd rfl
@[simp] theorem isNotD_int (b : Int) : isNotD (.int b) .none = some (.bool true) := nd rfl
@[simp] theorem isNotD_str (b : Str) : isNotD (.str b) .none = some (.bool true) := nd rfl
@[simp] theorem isNotD_list (b : List PyData) : isNotD (.list b) .none = some (.bool true) := nd rfl
@[simp] theorem isNotD_tuple (b : List PyData) : isNotD (.tuple b) .none = some (.bool true) := nd rfl
@[simp] theorem isNotD_dict (b : List (PyData × PyData)) : isNotD (.dict b) .none = some (.bool true) := nd rfl
@[simp] theorem lenD_list (ds : List PyData) : lenD [.list ds] = some (.int ds.length) := nd rfl
@[simp] theorem lenD_tuple (ds : List PyData) : lenD [.tuple ds] = some (.int ds.length) := nd rfl
@[simp] theorem lenD_str (z : Str) : lenD [.str z] = if z.length ≤ 16777216 then some (.int z.length) else none := nd rfl
@[simp] theorem absD_int (i : Int) : absD [.int i] = some (.int (if i < 0 then -i else i)) := nd rfl
@[simp] theorem intD_int (i : Int) : intD [.int i] = some (.int i) := nd rfl
@[simp] theorem intD_bool (b : Bool) : intD [.bool b] = some (.int (if b = true then 1 else 0)) := nd rfl
theorem ordD_one (c : Nat) : ordD [.str ⟨#[c]⟩] = some (.int c) := nd rfl
@[simp] theorem maxD_int (i j : Int) : maxD [.int i, .int j] = some (.int (if j > i then j else i)) := nd rfl
@[simp] theorem minD_int (i j : Int) : minD [.int i, .int j] = some (.int (if j < i then j else i)) := nd rfl
@[simp] theorem max2D_int (i j : Int) : max2D [.int i, .int j] = some (.int (if j > i then j else i)) := nd rfl
@[simp] theorem min2D_int (i j : Int) : min2D [.int i, .int j] = some (.int (if j < i then j else i)) := nd rfl
@[simp] theorem max2D_str (x y : Str) : max2D [.str x, .str y] = some (.str (if x.cps.toList < y.cps.toList then y else x)) := nd rfl
@[simp] theorem min2D_str (x y : Str) : min2D [.str x, .str y] = some (.str (if y.cps.toList < x.cps.toList then y else x)) := nd rfl
@[simp] theorem max2D_bool (x y : Bool) : max2D [.bool x, .bool y] = some (.bool (x || y)) := nd rfl
@[simp] theorem min2D_bool (x y : Bool) : min2D [.bool x, .bool y] = some (.bool (x && y)) := nd rfl
@[simp] theorem tupleD_list (ds : List PyData) : tupleD [.list ds] = some (.tuple ds) := nd rfl
@[simp] theorem tupleD_tuple (ds : List PyData) : tupleD [.tuple ds] = some (.tuple ds) := nd rfl
@[simp] theorem listD_list (ds : List PyData) : listD [.list ds] = some (.list ds) := nd rfl
@[simp] theorem listD_tuple (ds : List PyData) : listD [.tuple ds] = some (.list ds) := nd rfl
@[simp] theorem tupD_is (ds : List PyData) : tupD ds = if ds.length ≤ 1000 then some (.tuple ds) else none := nd rfl
@[simp] theorem itemsOf_list (ds : List PyData) : itemsOf (.list ds) = some ds := nd rfl
@[simp] theorem itemsOf_tuple (ds : List PyData) : itemsOf (.tuple ds) = some ds := nd rfl
@[simp] theorem itemsOf_str (z : Str) : itemsOf (.str z) = some (signsD z) := nd rfl
@[simp] theorem ixD_list (ds : List PyData) (i : Int) : ixD (.list ds) (.int i) = atI ds i := nd rfl
@[simp] theorem ixD_tuple (ds : List PyData) (i : Int) : ixD (.tuple ds) (.int i) = atI ds i := nd rfl
theorem ixD_str (z : Str) (i : Int) : ixD (.str z) (.int i) = if z.length ≤ 16777216 then (atI z.cps.toList i).map fun c => .str ⟨#[c]⟩ else none := nd rfl
@[simp] theorem slD_list (ds : List PyData) (i j : Option Int) : slD (.list ds) i j = some (.list (cutD ds i j)) := nd rfl
@[simp] theorem slD_tuple (ds : List PyData) (i j : Option Int) : slD (.tuple ds) i j = some (.tuple (cutD ds i j)) := nd rfl
@[simp] theorem slD_str (z : Str) (i j : Option Int) : slD (.str z) i j = if z.length ≤ 16777216 then some (.str (cutS z i j)) else none := nd rfl
@[simp] theorem isi1_is (g : PyData → Bool) (d : PyData) : isi1 g d = some (.bool (g d)) := nd rfl
@[simp] theorem isi2_is (g g' : PyData → Bool) (d : PyData) : isi2 g g' d = some (.bool (g d || g' d)) := nd rfl
section
variable (b : Bool) (i : Int) (z : Str) (l : List PyData) (kv : List (PyData × PyData))
@[simp] theorem isInt1 : isInt .none = false := nd rfl
@[simp] theorem isInt2 : isInt (.bool b) = true := nd rfl
@[simp] theorem isInt3 : isInt (.int i) = true := nd rfl
@[simp] theorem isInt4 : isInt (.str z) = false := nd rfl
@[simp] theorem isInt5 : isInt (.list l) = false := nd rfl
@[simp] theorem isInt6 : isInt (.tuple l) = false := nd rfl
@[simp] theorem isInt7 : isInt (.dict kv) = false := nd rfl
@[simp] theorem isBool1 : isBool .none = false := nd rfl
@[simp] theorem isBool2 : isBool (.bool b) = true := nd rfl
@[simp] theorem isBool3 : isBool (.int i) = false := nd rfl
@[simp] theorem isBool4 : isBool (.str z) = false := nd rfl
@[simp] theorem isBool5 : isBool (.list l) = false := nd rfl
@[simp] theorem isBool6 : isBool (.tuple l) = false := nd rfl
@[simp] theorem isBool7 : isBool (.dict kv) = false := nd rfl
@[simp] theorem isStr1 : isStr .none = false := nd rfl
@[simp] theorem isStr2 : isStr (.bool b) = false := nd rfl
@[simp] theorem isStr3 : isStr (.int i) = false := nd rfl
@[simp] theorem isStr4 : isStr (.str z) = true := nd rfl
@[simp] theorem isStr5 : isStr (.list l) = false := nd rfl
@[simp] theorem isStr6 : isStr (.tuple l) = false := nd rfl
@[simp] theorem isStr7 : isStr (.dict kv) = false := nd rfl
@[simp] theorem isList1 : isList .none = false := nd rfl
@[simp] theorem isList2 : isList (.bool b) = false := nd rfl
@[simp] theorem isList3 : isList (.int i) = false := nd rfl
@[simp] theorem isList4 : isList (.str z) = false := nd rfl
@[simp] theorem isList5 : isList (.list l) = true := nd rfl
@[simp] theorem isList6 : isList (.tuple l) = false := nd rfl
@[simp] theorem isList7 : isList (.dict kv) = false := nd rfl
@[simp] theorem isTuple1 : isTuple .none = false := nd rfl
@[simp] theorem isTuple2 : isTuple (.bool b) = false := nd rfl
@[simp] theorem isTuple3 : isTuple (.int i) = false := nd rfl
@[simp] theorem isTuple4 : isTuple (.str z) = false := nd rfl
@[simp] theorem isTuple5 : isTuple (.list l) = false := nd rfl
@[simp] theorem isTuple6 : isTuple (.tuple l) = true := nd rfl
@[simp] theorem isTuple7 : isTuple (.dict kv) = false := nd rfl
end

/-! ### loops -/
section
variable (bt : PyData → Sls → Option Sls) (g : Sls → Out) (d : PyData) (ds : List PyData) (ρ : Sls) (t : Sls → Res Bool) (f : Sls → Res PyData)
@[simp] theorem forL_nil : forL bt g [] ρ = .nx ρ := nd rfl
/-- a turn is done -/
def Out.turn (o : Out) (k : Sls → Out) : Out := match o with
  | .nx ρ2 => k ρ2
  | .ct ρ2 => k ρ2
  | .bk ρ2 => .nx ρ2
  | .rt d => .rt d
  | .exc x ρ2 => .exc x ρ2
  | .bad => .bad
@[simp] theorem turn_nx (k : Sls → Out) : (Out.nx ρ).turn k = k ρ := nd rfl
@[simp] theorem turn_ct (k : Sls → Out) : (Out.ct ρ).turn k = k ρ := nd rfl
@[simp] theorem turn_bk (k : Sls → Out) : (Out.bk ρ).turn k = .nx ρ := nd rfl
@[simp] theorem turn_rt (k : Sls → Out) : (Out.rt d).turn k = .rt d := nd rfl
@[simp] theorem turn_bad (k : Sls → Out) : Out.bad.turn k = .bad := nd rfl
theorem forL_name (i : Nat) : forL (bName i) g (d :: ds) ρ = (g (ρ.set i (.val d))).turn (forL (bName i) g ds) := by
  simp only [forL, bName]
  cases g (ρ.set i (.val d)) <;> rfl
theorem forL_cons {ρ1 : Sls} (h : bt d ρ = some ρ1) : forL bt g (d :: ds) ρ = (g ρ1).turn (forL bt g ds) := by
  simp only [forL, h]
  cases g ρ1 <;> rfl
@[simp] theorem compL_nil : compL bt t f ρ [] = .ok [] := nd rfl
theorem compL_name (i : Nat) (h : t (ρ.set i (.val d)) = .ok true) {y : PyData} (hy : f (ρ.set i (.val d)) = .ok y) {ys : List PyData} (hr : compL (bName i) t f ρ ds = .ok ys) : compL (bName i) t f ρ (d :: ds) = .ok (y :: ys) := by
  simp only [compL, bName, h, hy, hr, bind_ok]
theorem compL_skip (i : Nat) (h : t (ρ.set i (.val d)) = .ok false) : compL (bName i) t f ρ (d :: ds) = compL (bName i) t f ρ ds := by
  simp only [compL, bName, h]
/-- a comprehension without a test, by a property of what each place gives -/
theorem compL_all (i : Nat) {P : PyData → Prop} : ∀ (ds : List PyData) (h : ∀ d ∈ ds, ∃ y, f (ρ.set i (.val d)) = .ok y ∧ P y), ∃ ys, compL (bName i) tYesD f ρ ds = .ok ys ∧ ys.length = ds.length ∧ ∀ y ∈ ys, P y
  | [], _ => ⟨[], rfl, rfl, fun y h => by cases h⟩
  | d :: ds, h => by
    obtain ⟨y, h1, h2⟩ := h d List.mem_cons_self
    obtain ⟨ys, h3, h4, h5⟩ := compL_all i ds fun d' hd => h d' (List.mem_cons_of_mem _ hd)
    exact ⟨y :: ys, compL_name _ _ _ _ _ i rfl h1 h3, by rw [List.length_cons, List.length_cons, h4], fun z hz => by
      rcases List.mem_cons.mp hz with rfl | hz
      · exact h2
      · exact h5 z hz⟩
/-- a comprehension without a test is a map -/
theorem compL_map (i : Nat) {φ : PyData → PyData} : ∀ (ds : List PyData) (h : ∀ d ∈ ds, f (ρ.set i (.val d)) = .ok (φ d)), compL (bName i) tYesD f ρ ds = .ok (ds.map φ)
  | [], _ => rfl
  | d :: ds, h => compL_name _ _ _ _ _ i rfl (h d List.mem_cons_self) (compL_map i ds fun d' hd => h d' (List.mem_cons_of_mem _ hd))
end
theorem rangeD_zero (lo : Int) : rangeD lo 0 = [] := nd rfl
theorem rangeD_succ (lo : Int) (n : Nat) : rangeD lo (n + 1) = .int lo :: rangeD (lo + 1) n := by
  unfold rangeD
  rw [List.range_succ_eq_map, List.map_cons, List.map_map]
  have h : ∀ i : Nat, (PyData.int (lo + ((i + 1 : Nat) : Int))) = PyData.int (lo + 1 + (i : Nat)) := fun i => by congr 1; omega
  simp only [Function.comp_def, Nat.succ_eq_add_one, h]
  congr 2
  omega
theorem rangeD_length (lo : Int) (n : Nat) : (rangeD lo n).length = n := by unfold rangeD; simp
theorem rangeD_mem {lo : Int} {n : Nat} {d : PyData} (h : d ∈ rangeD lo n) : ∃ j : Nat, j < n ∧ d = .int (lo + j) := by
  unfold rangeD at h
  obtain ⟨j, h1, h2⟩ := List.mem_map.mp h
  exact ⟨j, List.mem_range.mp h1, h2.symm⟩
theorem rangeD_mem0 {n : Nat} {d : PyData} (h : d ∈ rangeD 0 n) : ∃ j : Nat, j < n ∧ d = .int j := by
  obtain ⟨j, h1, h2⟩ := rangeD_mem h
  exact ⟨j, h1, by rw [h2, Int.zero_add]⟩
theorem rng1_is (n : Int) (h1 : -(2 ^ 62) ≤ n) (h : n < 2 ^ 62) : rng1 [.int n] = some (rangeD 0 n.toNat) := by
  show (if -(2 ^ 62) ≤ n ∧ n < 2 ^ 62 then some (rangeD 0 n.toNat) else none) = _
  rw [if_pos ⟨h1, h⟩]
theorem rng1_nat (n : Nat) (h : n < 2 ^ 62) : rng1 [.int (n : Int)] = some (rangeD 0 n) := by
  rw [rng1_is _ (by omega) (by omega), Int.toNat_natCast]

/-! ### places -/
theorem atI_nat {α : Type} (xs : List α) (k : Nat) : atI xs (k : Int) = xs[k]? := by
  unfold atI ixN
  rw [if_pos (by omega)]
  by_cases h : k < xs.length
  · rw [if_pos (by omega)]
    simp
  · rw [if_neg (by omega)]
    simp only [Option.bind_none]
    rw [List.getElem?_eq_none (by omega)]
theorem atI_of {α : Type} {xs : List α} {i : Int} (h0 : 0 ≤ i) (h1 : i < xs.length) : ∃ x, atI xs i = some x ∧ xs[i.toNat]? = some x := by
  obtain ⟨k, rfl⟩ := Int.eq_ofNat_of_zero_le h0
  have hk : k < xs.length := by omega
  refine ⟨xs[k], ?_, ?_⟩
  · show atI xs (k : Int) = _
    rw [atI_nat, List.getElem?_eq_getElem hk]
  · show xs[k]? = _
    rw [List.getElem?_eq_getElem hk]
theorem atI_mem {α : Type} {xs : List α} {i : Int} (h0 : 0 ≤ i) (h1 : i < xs.length) : ∃ x, atI xs i = some x ∧ x ∈ xs := by
  obtain ⟨x, h, h2⟩ := atI_of h0 h1
  exact ⟨x, h, List.mem_of_getElem? h2⟩
@[simp] theorem atI_zero {α : Type} (xs : List α) : atI xs 0 = xs[0]? := atI_nat xs 0
@[simp] theorem atI_one {α : Type} (xs : List α) : atI xs 1 = xs[1]? := atI_nat xs 1
@[simp] theorem atI_2 {α : Type} (xs : List α) : atI xs 2 = xs[2]? := atI_nat xs 2
@[simp] theorem atI_3 {α : Type} (xs : List α) : atI xs 3 = xs[3]? := atI_nat xs 3
@[simp] theorem atI_4 {α : Type} (xs : List α) : atI xs 4 = xs[4]? := atI_nat xs 4
@[simp] theorem atI_5 {α : Type} (xs : List α) : atI xs 5 = xs[5]? := atI_nat xs 5
@[simp] theorem atI_6 {α : Type} (xs : List α) : atI xs 6 = xs[6]? := atI_nat xs 6
@[simp] theorem atI_7 {α : Type} (xs : List α) : atI xs 7 = xs[7]? := atI_nat xs 7
@[simp] theorem atI_8 {α : Type} (xs : List α) : atI xs 8 = xs[8]? := atI_nat xs 8
@[simp] theorem atI_9 {α : Type} (xs : List α) : atI xs 9 = xs[9]? := atI_nat xs 9
@[simp] theorem atI_10 {α : Type} (xs : List α) : atI xs 10 = xs[10]? := atI_nat xs 10
@[simp] theorem atI_11 {α : Type} (xs : List α) : atI xs 11 = xs[11]? := atI_nat xs 11
@[simp] theorem atI_12 {α : Type} (xs : List α) : atI xs 12 = xs[12]? := atI_nat xs 12
@[simp] theorem atI_13 {α : Type} (xs : List α) : atI xs 13 = xs[13]? := atI_nat xs 13
@[simp] theorem atI_14 {α : Type} (xs : List α) : atI xs 14 = xs[14]? := atI_nat xs 14
@[simp] theorem atI_15 {α : Type} (xs : List α) : atI xs 15 = xs[15]? := atI_nat xs 15
@[simp] theorem atI_16 {α : Type} (xs : List α) : atI xs 16 = xs[16]? := atI_nat xs 16
@[simp] theorem atI_17 {α : Type} (xs : List α) : atI xs 17 = xs[17]? := atI_nat xs 17
@[simp] theorem atI_18 {α : Type} (xs : List α) : atI xs 18 = xs[18]? := atI_nat xs 18
@[simp] theorem atI_19 {α : Type} (xs : List α) : atI xs 19 = xs[19]? := atI_nat xs 19
@[simp] theorem atI_20 {α : Type} (xs : List α) : atI xs 20 = xs[20]? := atI_nat xs 20
@[simp] theorem atI_21 {α : Type} (xs : List α) : atI xs 21 = xs[21]? := atI_nat xs 21
@[simp] theorem atI_22 {α : Type} (xs : List α) : atI xs 22 = xs[22]? := atI_nat xs 22
@[simp] theorem atI_23 {α : Type} (xs : List α) : atI xs 23 = xs[23]? := atI_nat xs 23
@[simp] theorem atI_24 {α : Type} (xs : List α) : atI xs 24 = xs[24]? := atI_nat xs 24
@[simp] theorem atI_25 {α : Type} (xs : List α) : atI xs 25 = xs[25]? := atI_nat xs 25
@[simp] theorem atI_26 {α : Type} (xs : List α) : atI xs 26 = xs[26]? := atI_nat xs 26
@[simp] theorem atI_27 {α : Type} (xs : List α) : atI xs 27 = xs[27]? := atI_nat xs 27
@[simp] theorem atI_28 {α : Type} (xs : List α) : atI xs 28 = xs[28]? := atI_nat xs 28
@[simp] theorem atI_29 {α : Type} (xs : List α) : atI xs 29 = xs[29]? := atI_nat xs 29
@[simp] theorem atI_30 {α : Type} (xs : List α) : atI xs 30 = xs[30]? := atI_nat xs 30
@[simp] theorem atI_31 {α : Type} (xs : List α) : atI xs 31 = xs[31]? := atI_nat xs 31
@[simp] theorem atI_32 {α : Type} (xs : List α) : atI xs 32 = xs[32]? := atI_nat xs 32
@[simp] theorem atI_33 {α : Type} (xs : List α) : atI xs 33 = xs[33]? := atI_nat xs 33
@[simp] theorem atI_34 {α : Type} (xs : List α) : atI xs 34 = xs[34]? := atI_nat xs 34
@[simp] theorem atI_35 {α : Type} (xs : List α) : atI xs 35 = xs[35]? := atI_nat xs 35
@[simp] theorem atI_36 {α : Type} (xs : List α) : atI xs 36 = xs[36]? := atI_nat xs 36
@[simp] theorem atI_37 {α : Type} (xs : List α) : atI xs 37 = xs[37]? := atI_nat xs 37
@[simp] theorem atI_38 {α : Type} (xs : List α) : atI xs 38 = xs[38]? := atI_nat xs 38
@[simp] theorem atI_39 {α : Type} (xs : List α) : atI xs 39 = xs[39]? := atI_nat xs 39
@[simp] theorem atI_40 {α : Type} (xs : List α) : atI xs 40 = xs[40]? := atI_nat xs 40
@[simp] theorem atI_41 {α : Type} (xs : List α) : atI xs 41 = xs[41]? := atI_nat xs 41
@[simp] theorem atI_42 {α : Type} (xs : List α) : atI xs 42 = xs[42]? := atI_nat xs 42
@[simp] theorem atI_43 {α : Type} (xs : List α) : atI xs 43 = xs[43]? := atI_nat xs 43
@[simp] theorem atI_44 {α : Type} (xs : List α) : atI xs 44 = xs[44]? := atI_nat xs 44
@[simp] theorem atI_45 {α : Type} (xs : List α) : atI xs 45 = xs[45]? := atI_nat xs 45
@[simp] theorem atI_46 {α : Type} (xs : List α) : atI xs 46 = xs[46]? := atI_nat xs 46
@[simp] theorem atI_47 {α : Type} (xs : List α) : atI xs 47 = xs[47]? := atI_nat xs 47
@[simp] theorem atI_48 {α : Type} (xs : List α) : atI xs 48 = xs[48]? := atI_nat xs 48
@[simp] theorem atI_49 {α : Type} (xs : List α) : atI xs 49 = xs[49]? := atI_nat xs 49
@[simp] theorem atI_50 {α : Type} (xs : List α) : atI xs 50 = xs[50]? := atI_nat xs 50
@[simp] theorem atI_51 {α : Type} (xs : List α) : atI xs 51 = xs[51]? := atI_nat xs 51
@[simp] theorem atI_52 {α : Type} (xs : List α) : atI xs 52 = xs[52]? := atI_nat xs 52
@[simp] theorem atI_53 {α : Type} (xs : List α) : atI xs 53 = xs[53]? := atI_nat xs 53
@[simp] theorem atI_54 {α : Type} (xs : List α) : atI xs 54 = xs[54]? := atI_nat xs 54
@[simp] theorem atI_55 {α : Type} (xs : List α) : atI xs 55 = xs[55]? := atI_nat xs 55
@[simp] theorem atI_56 {α : Type} (xs : List α) : atI xs 56 = xs[56]? := atI_nat xs 56
@[simp] theorem atI_57 {α : Type} (xs : List α) : atI xs 57 = xs[57]? := atI_nat xs 57
@[simp] theorem atI_58 {α : Type} (xs : List α) : atI xs 58 = xs[58]? := atI_nat xs 58
@[simp] theorem atI_59 {α : Type} (xs : List α) : atI xs 59 = xs[59]? := atI_nat xs 59
@[simp] theorem atI_60 {α : Type} (xs : List α) : atI xs 60 = xs[60]? := atI_nat xs 60
@[simp] theorem atI_61 {α : Type} (xs : List α) : atI xs 61 = xs[61]? := atI_nat xs 61
@[simp] theorem atI_62 {α : Type} (xs : List α) : atI xs 62 = xs[62]? := atI_nat xs 62
@[simp] theorem atI_63 {α : Type} (xs : List α) : atI xs 63 = xs[63]? := atI_nat xs 63
@[simp] theorem atI_64 {α : Type} (xs : List α) : atI xs 64 = xs[64]? := atI_nat xs 64
/-- a list of ints -/
theorem atI_ints {xs : List Int} {i : Int} (h0 : 0 ≤ i) (h1 : i < xs.length) : ∃ x, atI (xs.map PyData.int) i = some (.int x) ∧ x ∈ xs := by
  obtain ⟨d, h, hm⟩ := atI_mem (xs := xs.map PyData.int) h0 (by simpa using h1)
  obtain ⟨x, hx, rfl⟩ := List.mem_map.mp hm
  exact ⟨x, h, hx⟩
theorem fmod_bound {a b : Int} (h : 0 < b) : 0 ≤ a.fmod b ∧ a.fmod b < b := ⟨Int.fmod_nonneg_of_pos a h, Int.fmod_lt_of_pos a h⟩
@[simp] theorem frz0 (ds : List PyData) (ρ : Sls) : frz 0 (.own ds :: ρ) = .val (.list ds) :: ρ := nd rfl
@[simp] theorem frz0v (d : PyData) (ρ : Sls) : frz 0 (.val d :: ρ) = .val d :: ρ := nd rfl
@[simp] theorem frz0u (ρ : Sls) : frz 0 (.un :: ρ) = .un :: ρ := nd rfl
@[simp] theorem frz_succ (i : Nat) (s : Sl) (ρ : Sls) : frz (i + 1) (s :: ρ) = s :: frz i ρ := by
  unfold frz
  rw [List.getElem?_cons_succ]
  cases e : ρ[i]? with
  | none => rfl
  | some s' => cases s' <;> rfl
@[simp] theorem gApp_is (i : Nat) (f : Sls → Res PyData) (ρ : Sls) {ds : List PyData} (h : ρ[i]? = some (.own ds)) : gApp i f ρ = (f ρ).out (fun d ρ => if ds.length < 16777216 then .nx (ρ.set i (.own (ds ++ [d]))) else .bad) ρ := by
  unfold gApp
  rw [h]
  exact sE_is ..

/-! ### texts as lists of numbers -/
def tx (l : List Nat) : Str := ⟨l.toArray⟩
section
variable (a b l : List Nat) (c : Nat) (i : Int) (lo hi : Option Int)
@[simp] theorem tx_len : (tx l).length = l.length := by show l.toArray.size = _; simp
@[simp] theorem tx_app : tx a ++ tx b = tx (a ++ b) := by
  show (⟨a.toArray ++ b.toArray⟩ : Str) = ⟨(a ++ b).toArray⟩
  rw [List.append_toArray]
@[simp] theorem tx_cps : (tx l).cps.toList = l := by show l.toArray.toList = _; simp
theorem tx_of (z : Str) : ∃ l, z = tx l := ⟨z.cps.toList, by cases z; rfl⟩
@[simp] theorem tx_inj : (tx a = tx b) = (a = b) := propext ⟨fun h => by rw [← tx_cps a, h, tx_cps], fun h => by rw [h]⟩
@[simp] theorem ixD_tx : ixD (.str (tx l)) (.int i) = if l.length ≤ 16777216 then (atI l i).map fun c => .str (tx [c]) else none := by
  rw [ixD_str, tx_len, tx_cps]; rfl
/-- a part of a list -/
def cutL {α : Type} (xs : List α) (lo hi : Option Int) : List α := (xs.drop (HT.sIx xs.length 0 lo)).take (HT.sIx xs.length xs.length hi - HT.sIx xs.length 0 lo)
theorem cutD_is (xs : List PyData) : cutD xs lo hi = cutL xs lo hi := rfl
@[simp] theorem cutS_tx : cutS (tx l) lo hi = tx (cutL l lo hi) := by
  unfold cutS cutL tx
  have h : (⟨l.toArray⟩ : Str).length = l.length := tx_len l
  rw [h]
@[simp] theorem signsD_tx : signsD (tx l) = l.map fun c => .str (tx [c]) := by
  unfold signsD; rw [tx_cps]; rfl
@[simp] theorem intXD_int (i : Int) : intXD [.int i] = some (.int i) := nd rfl
@[simp] theorem intXD_bool (b : Bool) : intXD [.bool b] = some (.int (if b = true then 1 else 0)) := nd rfl
@[simp] theorem intXD_str (z : Str) : intXD [.str z] = if z.length ≤ 640 then (PySem.intText? z).map .int else none := nd rfl
@[simp] theorem ordD_tx : ordD [.str (tx [c])] = some (.int c) := nd rfl
@[simp] theorem inD_tx : inD (.str (tx [c])) (.str (tx l)) = some (.bool (decide (c ∈ l))) := by
  show some (PyData.bool (!(Builtin.Str.occurrences (tx l) (tx [c]) 0 (tx l).length 1).isEmpty)) = _
  rw [show tx [c] = (⟨#[c]⟩ : Str) from rfl, PySem.StrLaws.found_one, tx_cps]
@[simp] theorem notInD_tx : notInD (.str (tx [c])) (.str (tx l)) = some (.bool (!decide (c ∈ l))) := by
  show some (PyData.bool (!(!(Builtin.Str.occurrences (tx l) (tx [c]) 0 (tx l).length 1).isEmpty))) = _
  rw [show tx [c] = (⟨#[c]⟩ : Str) from rfl, PySem.StrLaws.found_one, tx_cps]
end
theorem list_choose {α β : Type} {f : α → β} {p : α → Prop} : ∀ {ys : List β}, (∀ y ∈ ys, ∃ c, y = f c ∧ p c) → ∃ cs : List α, ys = cs.map f ∧ ∀ c ∈ cs, p c
  | [], _ => ⟨[], rfl, fun c h => by cases h⟩
  | y :: ys, h => by
    obtain ⟨c, e, q⟩ := h y List.mem_cons_self
    obtain ⟨cs, e2, q2⟩ := list_choose (ys := ys) fun z hz => h z (List.mem_cons_of_mem _ hz)
    exact ⟨c :: cs, by rw [e, e2]; rfl, fun d hd => by
      rcases List.mem_cons.mp hd with rfl | hd
      · exact q
      · exact q2 d hd⟩
theorem join_one : ∀ cs : List Nat, Txt.join (tx []) (cs.map fun c => tx [c]) = tx cs := by
  have h : ∀ cs : List Nat, Str.join (tx []) (cs.map fun c => tx [c]) = tx cs := by
    intro cs
    induction cs with
    | nil => rfl
    | cons c cs ih =>
      cases cs with
      | nil => rfl
      | cons d ds =>
        show tx [c] ++ tx [] ++ Str.join (tx []) ((d :: ds).map fun c => tx [c]) = _
        rw [ih, tx_app, tx_app]; rfl
  intro cs
  show Builtin.Str.glued (tx []) (cs.map fun c => tx [c]) = _
  rw [PySem.StrLaws.glued_eq_join, h]
/-- ''.join(a list of signs) -/
theorem joinD_one (cs : List Nat) (h : cs.length ≤ 16777216) : joinD (.str (tx [])) [.list (cs.map fun c => .str (tx [c]))] = some (.str (tx cs)) := by
  show joinS (tx []) (cs.map fun c => .str (tx [c])) = _
  unfold joinS
  have e : cs.map (fun c => PyData.str (tx [c])) = (cs.map fun c => tx [c]).map PyData.str := by rw [List.map_map]; rfl
  rw [e, strsOf_map, Option.bind_some]
  have e2 : ((cs.map fun c => tx [c]).map (·.length)).sum = cs.length := by
    rw [List.map_map]
    induction cs with
    | nil => rfl
    | cons c cs ih =>
      rw [List.map_cons, List.sum_cons, ih (by rw [List.length_cons] at h; omega) (by rw [List.map_map]; rfl), List.length_cons]
      show (tx [c]).length + _ = _
      rw [tx_len, List.length_singleton]; omega
  rw [if_pos (by rw [e2, tx_len]; simpa using h), join_one]
theorem one_ltI (a b : Nat) : ([a] < [b]) ↔ a < b := by
  rw [List.cons_lt_cons_iff]
  simp
@[simp] theorem one_lt (a b : Nat) : ([a] < [b]) = (a < b) := propext (one_ltI a b)
@[simp] theorem one_le (a b : Nat) : ([a] ≤ [b]) = (a ≤ b) := by
  refine propext ⟨fun h => ?_, fun h => ?_⟩
  · exact Nat.not_lt.mp fun z => h ((one_ltI b a).mpr z)
  · exact fun z => Nat.not_lt.mpr h ((one_ltI b a).mp z)
/-! cuts -/
theorem cutL_from {α : Type} (xs : List α) (k : Nat) : cutL xs (some (k : Int)) none = xs.drop k := by
  unfold cutL
  rw [HT.sIx_nat, HT.sIx_none]
  by_cases h : k ≤ xs.length
  · rw [Nat.min_eq_left h, List.take_of_length_le (by rw [List.length_drop]; omega)]
  · rw [Nat.min_eq_right (by omega), List.drop_eq_nil_of_le (Nat.le_refl _), List.drop_eq_nil_of_le (by omega), List.take_nil]
theorem cutL_to {α : Type} (xs : List α) (k : Nat) : cutL xs none (some (k : Int)) = xs.take k := by
  unfold cutL
  rw [HT.sIx_nat, HT.sIx_none, List.drop_zero, Nat.sub_zero]
  by_cases h : k ≤ xs.length
  · rw [Nat.min_eq_left h]
  · rw [Nat.min_eq_right (by omega), List.take_of_length_le (Nat.le_refl _), List.take_of_length_le (by omega)]
theorem cutL_from1 {α : Type} (xs : List α) (k : Nat) : cutL xs (some ((k : Int) + 1)) none = xs.drop (k + 1) := cutL_from xs (k + 1)
theorem cutL_mem {α : Type} {xs : List α} {lo hi : Option Int} {x : α} (h : x ∈ cutL xs lo hi) : x ∈ xs := List.mem_of_mem_drop (List.mem_of_mem_take h)
theorem cutL_len {α : Type} (xs : List α) (lo hi : Option Int) : (cutL xs lo hi).length ≤ xs.length := by
  unfold cutL
  rw [List.length_take, List.length_drop]; omega
/-! ### == of sequences -/
/-- no dict, texts of real signs, at most n deep -/
def niceD (n : Nat) (d : PyData) : Bool := noDic d && (d.canLay0 && decide (d.depth ≤ n))
theorem niceD_iff {n : Nat} {d : PyData} : niceD n d = true ↔ noDic d = true ∧ d.canLay0 = true ∧ d.depth ≤ n := by
  unfold niceD
  rw [Bool.and_eq_true, Bool.and_eq_true, decide_eq_true_eq]
theorem nice_eqOk {a b : PyData} (ha : niceD 64 a = true) (hb : niceD 64 b = true) : eqOk a b = true := by
  obtain ⟨h1, h2, h3⟩ := niceD_iff.mp ha
  obtain ⟨k1, k2, k3⟩ := niceD_iff.mp hb
  unfold eqOk SeqAt.shaped
  rw [h1, k1, h2, k2, decide_eq_true h3, decide_eq_true k3]
  simp
theorem eqD_nice {a b : PyData} (ha : niceD 64 a = true) (hb : niceD 64 b = true) : eqD a b = some (.bool (PyData.eqv a b)) := by
  unfold eqD; rw [if_pos (nice_eqOk ha hb)]
theorem neD_nice {a b : PyData} (ha : niceD 64 a = true) (hb : niceD 64 b = true) : neD a b = some (.bool (!PyData.eqv a b)) := by
  unfold neD; rw [if_pos (nice_eqOk ha hb)]
theorem niceD_mono {n m : Nat} {d : PyData} (h : niceD n d = true) (l : n ≤ m) : niceD m d = true := by
  obtain ⟨h1, h2, h3⟩ := niceD_iff.mp h
  exact niceD_iff.mpr ⟨h1, h2, Nat.le_trans h3 l⟩
theorem nice_all {n : Nat} : ∀ {xs : List PyData}, (∀ x ∈ xs, niceD n x = true) → noDics xs = true ∧ PyData.canLayAll0 xs = true ∧ PyData.depthAll xs ≤ n
  | [], _ => ⟨rfl, rfl, Nat.zero_le _⟩
  | x :: xs, h => by
    obtain ⟨a1, a2, a3⟩ := nice_all fun y hy => h y (List.mem_cons_of_mem _ hy)
    obtain ⟨b1, b2, b3⟩ := niceD_iff.mp (h x List.mem_cons_self)
    refine ⟨by rw [noDics, b1, a1]; rfl, by rw [PyData.canLayAll0, b2, a2]; rfl, ?_⟩
    rw [PyData.depthAll]
    exact Nat.max_le.mpr ⟨b3, a3⟩
theorem nice_list {n : Nat} {xs : List PyData} (h : ∀ x ∈ xs, niceD n x = true) : niceD (n + 1) (.list xs) = true := by
  obtain ⟨a1, a2, a3⟩ := nice_all h
  exact niceD_iff.mpr ⟨by rw [noDic]; exact a1, by rw [PyData.canLay0]; exact a2, by rw [PyData.depth]; omega⟩
theorem nice_tuple {n : Nat} {xs : List PyData} (h : ∀ x ∈ xs, niceD n x = true) : niceD (n + 1) (.tuple xs) = true := by
  obtain ⟨a1, a2, a3⟩ := nice_all h
  exact niceD_iff.mpr ⟨by rw [noDic]; exact a1, by rw [PyData.canLay0]; exact a2, by rw [PyData.depth]; omega⟩
@[simp] theorem nice_none (n : Nat) : niceD n .none = true := niceD_iff.mpr ⟨by rw [noDic], by rw [PyData.canLay0], by rw [PyData.depth]; omega⟩
@[simp] theorem nice_bool (n : Nat) (b : Bool) : niceD n (.bool b) = true := niceD_iff.mpr ⟨by rw [noDic], by rw [PyData.canLay0], by rw [PyData.depth]; omega⟩
@[simp] theorem nice_int (n : Nat) (b : Int) : niceD n (.int b) = true := niceD_iff.mpr ⟨by rw [noDic], by rw [PyData.canLay0], by rw [PyData.depth]; omega⟩
theorem nice_tx (n : Nat) (l : List Nat) (h : ∀ c ∈ l, c < 1114112) : niceD n (.str (tx l)) = true := by
  refine niceD_iff.mpr ⟨by rw [noDic], ?_, by rw [PyData.depth]; omega⟩
  rw [PyData.canLay0]
  show (l.toArray).all _ = true
  simpa using h
theorem eqv_same {n : Nat} {d : PyData} (h : niceD n d = true) : PyData.eqv d d = true := SeqAt.eqv_refl d (niceD_iff.mp h).2.1
@[simp] theorem eqD_int_str (i : Int) (z : Str) : eqD (.int i) (.str z) = some (.bool false) := by simp [eqD, eqOk, scalD, PyData.eqv]
@[simp] theorem eqD_str_int (i : Int) (z : Str) : eqD (.str z) (.int i) = some (.bool false) := by simp [eqD, eqOk, scalD, PyData.eqv]
@[simp] theorem neD_int_str (i : Int) (z : Str) : neD (.int i) (.str z) = some (.bool true) := by simp [neD, eqOk, scalD, PyData.eqv]
@[simp] theorem neD_str_int (i : Int) (z : Str) : neD (.str z) (.int i) = some (.bool true) := by simp [neD, eqOk, scalD, PyData.eqv]
@[simp] theorem eqD_none_str (z : Str) : eqD .none (.str z) = some (.bool false) := by simp [eqD, eqOk, scalD, PyData.eqv]
@[simp] theorem eqD_bool_str (b : Bool) (z : Str) : eqD (.bool b) (.str z) = some (.bool false) := by simp [eqD, eqOk, scalD, PyData.eqv]
@[simp] theorem neD_bool_str (b : Bool) (z : Str) : neD (.bool b) (.str z) = some (.bool true) := by simp [neD, eqOk, scalD, PyData.eqv]
@[simp] theorem neD_none_str (z : Str) : neD .none (.str z) = some (.bool true) := by simp [neD, eqOk, scalD, PyData.eqv]
/-- a comprehension with a test -/
theorem compL_filter {t : Sls → Res Bool} {f : Sls → Res PyData} {ρ : Sls} (i : Nat) {p : PyData → Bool} {φ : PyData → PyData} : ∀ (ds : List PyData), (∀ d ∈ ds, t (ρ.set i (.val d)) = .ok (p d)) → (∀ d ∈ ds, p d = true → f (ρ.set i (.val d)) = .ok (φ d)) →
    compL (bName i) t f ρ ds = .ok ((ds.filter p).map φ)
  | [], _, _ => rfl
  | d :: ds, h1, h2 => by
    have ih := compL_filter i ds (fun x hx => h1 x (List.mem_cons_of_mem _ hx)) fun x hx => h2 x (List.mem_cons_of_mem _ hx)
    have hd := h1 d List.mem_cons_self
    cases hp : p d with
    | true => rw [List.filter_cons_of_pos hp]; exact compL_name _ _ _ _ _ i (by rw [hd, hp]) (h2 d List.mem_cons_self hp) ih
    | false => rw [List.filter_cons_of_neg (by rw [hp]; decide), compL_skip _ _ _ _ _ i (by rw [hd, hp])]; exact ih
@[simp] theorem minLD_map (ns : List Int) : minLD [.list (ns.map .int)] = (minI ns).map .int := by
  show (intsOf (ns.map PyData.int)).bind _ = _
  rw [intsOf_map, Option.bind_some]
@[simp] theorem maxLD_map (ns : List Int) : maxLD [.list (ns.map .int)] = (maxI ns).map .int := by
  show (intsOf (ns.map PyData.int)).bind _ = _
  rw [intsOf_map, Option.bind_some]
@[simp] theorem sumD_map (ns : List Int) : sumD [.list (ns.map .int)] = some (.int ns.sum) := by
  show (intsOf (ns.map PyData.int)).map _ = _
  rw [intsOf_map, Option.map_some]
@[simp] theorem gFrz_is (i : Nat) (g : Sls → Out) (ρ : Sls) : gFrz i g ρ = (g ρ).thn fun ρ' => .nx (frz i ρ') := by
  unfold gFrz Out.thn; cases g ρ <;> rfl
@[simp] theorem inD_tuple (x : PyData) (ds : List PyData) (h1 : flatD x = true) (h2 : ds.all flatD = true) : inD x (.tuple ds) = some (.bool (hasD x ds)) := by
  show (if flatD x = true ∧ ds.all flatD = true then _ else _) = _
  rw [if_pos ⟨h1, h2⟩]
@[simp] theorem inD_list (x : PyData) (ds : List PyData) (h1 : flatD x = true) (h2 : ds.all flatD = true) : inD x (.list ds) = some (.bool (hasD x ds)) := by
  show (if flatD x = true ∧ ds.all flatD = true then _ else _) = _
  rw [if_pos ⟨h1, h2⟩]
@[simp] theorem notInD_tuple (x : PyData) (ds : List PyData) (h1 : flatD x = true) (h2 : ds.all flatD = true) : notInD x (.tuple ds) = some (.bool (!hasD x ds)) := by
  show (if flatD x = true ∧ ds.all flatD = true then _ else _) = _
  rw [if_pos ⟨h1, h2⟩]
@[simp] theorem notInD_list (x : PyData) (ds : List PyData) (h1 : flatD x = true) (h2 : ds.all flatD = true) : notInD x (.list ds) = some (.bool (!hasD x ds)) := by
  show (if flatD x = true ∧ ds.all flatD = true then _ else _) = _
  rw [if_pos ⟨h1, h2⟩]
@[simp] theorem flat_none : flatD .none = true := nd rfl
@[simp] theorem flat_bool (b : Bool) : flatD (.bool b) = true := nd rfl
@[simp] theorem flat_int (b : Int) : flatD (.int b) = true := nd rfl
@[simp] theorem flat_str (b : Str) : flatD (.str b) = true := nd rfl
@[simp] theorem hasD_nil (x : PyData) : hasD x [] = false := nd rfl
@[simp] theorem hasD_cons (x y : PyData) (ds : List PyData) : hasD x (y :: ds) = (PyData.eqv y x || hasD x ds) := nd rfl
theorem eqv_int_int (i j : Int) : PyData.eqv (.int i) (.int j) = decide (i = j) := by simp only [PyData.eqv]; exact beq_dec i j
theorem eqv_str_str (i j : Str) : PyData.eqv (.str i) (.str j) = decide (i = j) := by simp only [PyData.eqv]; exact beq_dec i j
theorem eqv_bool_bool (i j : Bool) : PyData.eqv (.bool i) (.bool j) = decide (i = j) := by simp only [PyData.eqv]; exact beq_dec i j
def par2 (i j : Nat) (ds : List PyData) (ρ : Sls) : Out := match ds with
  | [x, y] => .nx ((ρ.set i (.val x)).set j (.val y))
  | _ => .bad
@[simp] theorem par2_is (i j : Nat) (x y : PyData) (ρ : Sls) : par2 i j [x, y] ρ = .nx ((ρ.set i (.val x)).set j (.val y)) := nd rfl
@[simp] theorem gPar_is (i j : Nat) (fs : Sls → Res (List PyData)) (ρ : Sls) : gPar i j fs ρ = (fs ρ).out (par2 i j) ρ := by
  unfold gPar
  rw [sE_is]
  rfl
theorem canLay_of {n : Nat} {d : PyData} (h : niceD n d = true) : d.canLay0 = true := (niceD_iff.mp h).2.1
/-- pairs of a number and something -/
theorem eq_pair {r r' : Int} {d d' : PyData} (h : niceD 62 d = true) (h' : niceD 62 d' = true) : eqD (.tuple [.int r, d]) (.tuple [.int r', d']) = some (.bool (decide (r = r') && PyData.eqv d d')) := by
  rw [eqD_nice (niceD_mono (nice_tuple (n := 62) (by simp [h])) (by decide)) (niceD_mono (nice_tuple (n := 62) (by simp [h'])) (by decide))]
  simp [PyData.eqv, PyData.eqvAll, beq_dec]
theorem lt_pair {r r' : Int} {d d' : PyData} (h : niceD 62 d = true) (h' : niceD 62 d' = true) : ltV (.tuple [.int r, d]) (.tuple [.int r', d']) = (if r = r' then (if PyData.eqv d d' = true then some false else lessD d d') else some (decide (r < r'))).map .bool := by
  obtain ⟨h1, h2, h3⟩ := niceD_iff.mp h
  obtain ⟨k1, k2, k3⟩ := niceD_iff.mp h'
  unfold ltV
  rw [if_pos (by simp [noDic, noDics, h1, k1, PyData.depth, PyData.depthAll]; omega)]
  simp [lessD, lessL, h2, k2, PyData.canLay0, PyData.eqv]
theorem less_int (i j : Int) : lessD (.int i) (.int j) = some (decide (i < j)) := by simp only [lessD]
theorem less_str (i j : Str) : lessD (.str i) (.str j) = some (decide (i.cps.toList < j.cps.toList)) := by simp only [lessD]
theorem less_bool (i j : Bool) : lessD (.bool i) (.bool j) = some (decide (b2i i < b2i j)) := by simp only [lessD]
theorem lt_lists {a b : List Nat} (h : ¬ a < b) (h2 : a ≠ b) : b < a := by
  by_cases h3 : b < a
  · exact h3
  · exact absurd (List.le_antisymm (List.not_lt.mp h3) (List.not_lt.mp h)) h2
/-! ### loops by what stays -/
theorem forL_inv {i : Nat} {g : Sls → Out} {P : Sls → Prop} : ∀ (ds : List PyData), (∀ d ∈ ds, ∀ ρ, P ρ → ∃ ρ2, g (ρ.set i (.val d)) = .nx ρ2 ∧ P ρ2) → ∀ ρ, P ρ → ∃ ρ', forL (bName i) g ds ρ = .nx ρ' ∧ P ρ'
  | [], _, ρ, h => ⟨ρ, rfl, h⟩
  | d :: ds, hs, ρ, h => by
    obtain ⟨ρ2, e, h2⟩ := hs d List.mem_cons_self ρ h
    obtain ⟨ρ', e', h'⟩ := forL_inv ds (fun x hx => hs x (List.mem_cons_of_mem _ hx)) ρ2 h2
    exact ⟨ρ', by rw [forL_name, e, turn_nx, e'], h'⟩
/-- with the number of turns done -/
theorem forL_invN {i : Nat} {g : Sls → Out} {P : Nat → Sls → Prop} : ∀ (ds : List PyData) (n : Nat), (∀ k d, ds[k]? = some d → ∀ ρ, P (n + k) ρ → ∃ ρ2, g (ρ.set i (.val d)) = .nx ρ2 ∧ P (n + k + 1) ρ2) → ∀ ρ, P n ρ → ∃ ρ', forL (bName i) g ds ρ = .nx ρ' ∧ P (n + ds.length) ρ'
  | [], n, _, ρ, h => ⟨ρ, rfl, h⟩
  | d :: ds, n, hs, ρ, h => by
    obtain ⟨ρ2, e, h2⟩ := hs 0 d rfl ρ h
    obtain ⟨ρ', e', h'⟩ := forL_invN ds (n + 1) (fun k x hx ρ3 h3 => by
      have := hs (k + 1) x (by simpa using hx) ρ3 (by rw [show n + (k + 1) = n + 1 + k by omega]; exact h3)
      rw [show n + (k + 1) + 1 = n + 1 + k + 1 by omega] at this
      exact this) ρ2 h2
    exact ⟨ρ', by rw [forL_name, e, turn_nx, e'], by rw [List.length_cons, show n + (ds.length + 1) = n + 1 + ds.length by omega]; exact h'⟩
theorem rangeD_at {lo : Int} {n k : Nat} {d : PyData} (h : (rangeD lo n)[k]? = some d) : d = .int (lo + k) := by
  unfold rangeD at h
  rw [List.getElem?_map] at h
  obtain ⟨j, h1, h2⟩ := Option.map_eq_some_iff.mp h
  have := (List.getElem?_eq_some_iff.mp h1).2
  rw [List.getElem_range] at this
  rw [← h2, this]
theorem cutL_nat {α : Type} (xs : List α) (a b : Nat) (h : a ≤ b) : cutL xs (some (a : Int)) (some (b : Int)) = (xs.drop a).take (b - a) := by
  unfold cutL
  rw [HT.sIx_nat, HT.sIx_nat]
  by_cases ha : a ≤ xs.length
  · rw [Nat.min_eq_left ha]
    by_cases hb : b ≤ xs.length
    · rw [Nat.min_eq_left hb]
    · rw [Nat.min_eq_right (by omega), List.take_of_length_le (by rw [List.length_drop]; omega), List.take_of_length_le (by rw [List.length_drop]; omega)]
  · rw [Nat.min_eq_right (a := a) (by omega), List.drop_eq_nil_of_le (Nat.le_refl _), List.drop_eq_nil_of_le (by omega), List.take_nil, List.take_nil]
theorem cut_ints (xs : List Int) (a b : Nat) (h : a ≤ b) : cutL (xs.map PyData.int) (some (a : Int)) (some (b : Int)) = ((xs.drop a).take (b - a)).map .int := by
  rw [cutL_nat _ _ _ h, List.map_take, List.map_drop]
@[simp] theorem findD_str (x y : Str) : findD (.str x) [.str y] = some (.int (Txt.find x y)) := nd rfl
@[simp] theorem upperD_str (x : Str) : upperD (.str x) [] = if x.length ≤ 5592405 then some (.str (Txt.upper x)) else none := nd rfl
@[simp] theorem lowerD_str (x : Str) : lowerD (.str x) [] = if x.length ≤ 5592405 then some (.str (Txt.lower x)) else none := nd rfl
@[simp] theorem startsD_str (x y : Str) : startsD (.str x) [.str y] = some (.bool (Txt.startswith x y)) := nd rfl
/-! upper and lower of plain texts -/
def upC (c : Nat) : Nat := if 97 ≤ c ∧ c ≤ 122 then c - 32 else c
def loC (c : Nat) : Nat := if 65 ≤ c ∧ c ≤ 90 then c + 32 else c
theorem upperOf_small : ((List.range 127).all fun c => decide (Unicode.upperOf c = [upC c])) = true := by decide +kernel
theorem lowerOf_small : ((List.range 127).all fun c => decide (Unicode.lowerOf c = [loC c])) = true := by decide +kernel
theorem placed_one {l : List Nat} {f : Nat → Nat → List Nat} {g : Nat → Nat} (h : ∀ i c, l[i]? = some c → f i c = [g c]) : placed (tx l) f = (l.map g).toArray := by
  have e1 : l.mapIdx (fun i c => (f i c).toArray) = l.map fun c => #[g c] := by
    refine List.ext_getElem? fun i => ?_
    rw [List.getElem?_mapIdx, List.getElem?_map]
    cases q : l[i]? with
    | none => rfl
    | some c => simp [h i c q]
  have e2 : (tx l).cps.mapIdx (fun i c => (f i c).toArray) = (l.map fun c => #[g c]).toArray := by
    rw [← e1]
    show l.toArray.mapIdx _ = _
    simp
  have e3 : ∀ l : List Nat, (l.map fun c => (#[g c] : Array Nat)).toArray.flatten = (l.map g).toArray := fun l => by
    apply Array.ext'
    rw [Array.toList_flatten]
    induction l with
    | nil => rfl
    | cons c l ih => simpa using ih
  unfold placed
  rw [e2, e3]
theorem upper_tx {l : List Nat} (h : ∀ c ∈ l, c < 127) : Txt.upper (tx l) = tx (l.map upC) := by
  unfold Txt.upper
  have e := placed_one (l := l) (f := fun _ c => Unicode.upperOf c) (g := upC) fun i c hc => by
    have := List.all_eq_true.mp upperOf_small c (List.mem_range.mpr (h c (List.mem_of_getElem? hc)))
    exact of_decide_eq_true this
  rw [e]
  rfl
theorem lower_tx {l : List Nat} (h : ∀ c ∈ l, c < 127) : Txt.lower (tx l) = tx (l.map loC) := by
  unfold Txt.lower
  have e := placed_one (l := l) (f := fun i _ => Unicode.lowerAt (tx l).cps i) (g := loC) fun i c hc => by
    have hlt := h c (List.mem_of_getElem? hc)
    have := List.all_eq_true.mp lowerOf_small c (List.mem_range.mpr hlt)
    have hg : (tx l).cps[i]? = some c := by show l.toArray[i]? = _; simpa using hc
    show Unicode.lowerAt (tx l).cps i = _
    unfold Unicode.lowerAt
    rw [hg]
    have hne : (c == 0x3A3) = false := by
      rw [beq_eq_false_iff_ne]
      omega
    simp only [hne, Bool.false_and]
    exact of_decide_eq_true this
  rw [e]
  rfl
/-- a method of a text -/
def onStr (r : Res PyData) (k : Str → Res PyData) : Res PyData := r >>= fun x => match x with
  | .str z => k z
  | _ => .bad
@[simp] theorem onStr_str (z : Str) (k : Str → Res PyData) : onStr (.ok (.str z)) k = k z := nd rfl
theorem dM_is (o : PyData → List PyData → Option PyData) (f : Sls → Res PyData) (fs : Sls → Res (List PyData)) (ρ : Sls) : dM o f fs ρ = onStr (f ρ) fun z => fs ρ >>= fun xs => ofO (o (.str z) xs) := by
  unfold dM onStr
  rfl
/-! a sign, so many times -/
@[simp] theorem mulVD_int (i j : Int) : mulVD (.int i) (.int j) = mulD (.int i) (.int j) := nd rfl
theorem mul_one_tx (c n : Nat) : Txt.mul (tx [c]) (n : Int) = tx (List.replicate n c) := by
  have go : ∀ (m : Nat) (acc : List Nat), (List.replicate m (tx [c]).cps).foldl (· ++ ·) acc.toArray = (acc ++ List.replicate m c).toArray := fun m => by
    induction m with
    | zero => intro acc; simp
    | succ m ih =>
      intro acc
      rw [List.replicate_succ, List.foldl_cons]
      have : acc.toArray ++ (tx [c]).cps = (acc ++ [c]).toArray := by show acc.toArray ++ [c].toArray = _; simp
      rw [this, ih, List.replicate_succ, List.append_assoc]
      rfl
  unfold Txt.mul
  by_cases h0 : n = 0
  · subst h0; rfl
  · rw [if_neg (by omega)]
    by_cases h1 : n = 1
    · subst h1; rfl
    · have hne : ((n : Int) == 1 || (tx [c]).length == 0) = false := by
        rw [tx_len]
        simp
        omega
      rw [hne, if_neg (by decide), Int.toNat_natCast]
      have := go n []
      show (⟨_⟩ : Str) = ⟨_⟩
      rw [show (#[] : Array Nat) = ([] : List Nat).toArray from rfl, this]
      rfl
@[simp] theorem mulVD_tx (c n : Nat) (h : n ≤ 1000) : mulVD (.str (tx [c])) (.int (n : Int)) = some (.str (tx (List.replicate n c))) := by
  show (if 0 ≤ (n : Int) ∧ (n : Int) ≤ 1000 ∧ (tx [c]).length = 1 then some (PyData.str (Txt.mul (tx [c]) n)) else none) = _
  rw [if_pos ⟨by omega, by omega, by rw [tx_len]; rfl⟩, mul_one_tx]
@[simp] theorem dBrw_is (i : Nat) (f : Sls → Res PyData) (ρ : Sls) : dBrw i f ρ = flatR (f (frz i ρ)) := nd rfl
@[simp] theorem tBrw_is (i : Nat) (f : Sls → Res Bool) (ρ : Sls) : tBrw i f ρ = boolR (f (frz i ρ)) := nd rfl
@[simp] theorem flatR_none : flatR (.ok .none) = .ok .none := nd rfl
@[simp] theorem flatR_bool (b : Bool) : flatR (.ok (.bool b)) = .ok (.bool b) := nd rfl
@[simp] theorem flatR_int (b : Int) : flatR (.ok (.int b)) = .ok (.int b) := nd rfl
@[simp] theorem flatR_str (b : Str) : flatR (.ok (.str b)) = .ok (.str b) := nd rfl
@[simp] theorem boolR_ok (b : Bool) : boolR (.ok b) = .ok b := nd rfl
/-! x op= e -/
@[simp] theorem gAug_is (i : Nat) (g : PyData → PyData → Option PyData) (f : Sls → Res PyData) (ρ : Sls) {x : PyData} (h : ρ[i]? = some (.val x)) : gAug i g f ρ = (f ρ).out (fun y ρ => match g x y with | some z => .nx (ρ.set i (.val z)) | none => .bad) ρ := by
  unfold gAug
  rw [h]
  exact sE_is ..
@[simp] theorem iaddD_int (i j : Int) : iaddD (.int i) (.int j) = some (.int (i + j)) := nd rfl
/-! methods of lists -/
def onL (d : PyData) (k : List PyData → Res PyData) : Res PyData := match d with
  | .list z => k z
  | _ => .bad
@[simp] theorem onL_list (z : List PyData) (k : List PyData → Res PyData) : onL (.list z) k = k z := nd rfl
@[simp] theorem dML_is (o : PyData → List PyData → Option PyData) (f : Sls → Res PyData) (fs : Sls → Res (List PyData)) (ρ : Sls) : dML o f fs ρ = (f ρ >>= fun d => onL d fun z => fs ρ >>= fun xs => ofO (o (.list z) xs)) := by
  unfold dML
  cases f ρ with
  | ok d => cases d <;> rfl
  | exc x => rfl
  | bad => rfl
/-! ### exceptions -/
@[simp] theorem turn_exc (x : Xn) (ρ : Sls) (k : Sls → Out) : (Out.exc x ρ).turn k = .exc x ρ := nd rfl
@[simp] theorem gRaise0_is (nm : Str) (ρ : Sls) : gRaise0 nm ρ = .exc ⟨nm, []⟩ ρ := nd rfl
@[simp] theorem gRaise1_is (nm : Str) (f : Sls → Res PyData) (ρ : Sls) : gRaise1 nm f ρ = (f ρ).out (fun d ρ => if flatD d = true then .exc ⟨nm, [("at", flatOf d)]⟩ ρ else .bad) ρ := sE_is ..
@[simp] theorem flatOf_int (i : Int) : flatOf (.int i) = .int i := nd rfl
@[simp] theorem flatOf_str (i : Str) : flatOf (.str i) = .str i := nd rfl
@[simp] theorem dOfV_int (i : Int) : dOfV (.int i) = .ok (.int i) := nd rfl
theorem gTryR_rt {tab : List (Str × Bool)} {i : Nat} {g1 : Sls → Out} {g2 : Addr → Xn → Sls → Out} {ρ ρ1 : Sls} {x : Xn} {d : PyData} (h1 : g1 ρ = .exc x ρ1) (h2 : tab.lookup x.nm = some true) (h3 : ∀ a, g2 a x (ρ1.set i (.adr a)) = .rt d) : gTryR tab i g1 g2 ρ = .rt d := by
  unfold gTryR
  rw [h1]
  simp only
  rw [h2]
  simp only
  have h : ∃ d, ∀ a, g2 a x (ρ1.set i (.adr a)) = .rt d := ⟨d, h3⟩
  rw [dif_pos h]
  have := (h.choose_spec 0).symm.trans (h3 0)
  exact this
theorem gTryR_nx {tab : List (Str × Bool)} {i : Nat} {g1 : Sls → Out} {g2 : Addr → Xn → Sls → Out} {ρ ρ1 : Sls} (h1 : g1 ρ = .nx ρ1) : gTryR tab i g1 g2 ρ = .nx ρ1 := by
  unfold gTryR
  rw [h1]
@[simp] theorem onAdr_zero (a : Addr) (r : Res PyData) (ρ : Sls) : onAdr 0 a r (.adr a :: ρ) = r := by unfold onAdr; simp
@[simp] theorem onAdr_succ (i : Nat) (a : Addr) (r : Res PyData) (s : Sl) (ρ : Sls) : onAdr (i + 1) a r (s :: ρ) = onAdr i a r ρ := by unfold onAdr; rw [List.getElem?_cons_succ]
def isRes (tab : List (Str × Bool)) (nm : Str) : Res PyData := match tab.lookup nm with
  | some b => .ok (.bool b)
  | none => .bad
@[simp] theorem dIsE_is (i : Nat) (a : Addr) (tab : List (Str × Bool)) (x : Xn) (ρ : Sls) : dIsE i a tab x ρ = onAdr i a (isRes tab x.nm) ρ := nd rfl
@[simp] theorem isRes_hit (nm : Str) (b : Bool) (tab : List (Str × Bool)) : isRes ((nm, b) :: tab) nm = .ok (.bool b) := by unfold isRes; simp
def atRes (tab : List Str) (x : Xn) : Res PyData := if x.nm ∈ tab then (match x.fs.lookup ("at" : Str) with
  | some v => dOfV v
  | none => .bad) else .bad
@[simp] theorem dAt_is (i : Nat) (a : Addr) (tab : List Str) (x : Xn) (ρ : Sls) : dAt i a tab x ρ = onAdr i a (atRes tab x) ρ := nd rfl
@[simp] theorem atRes_hit (nm : Str) (v : V) (tab : List Str) (fs : List (Str × V)) : atRes (nm :: tab) ⟨nm, ("at", v) :: fs⟩ = dOfV v := by unfold atRes; simp
end DL

namespace DL.Wk
noncomputable section
open PySem PySem.Spec PyProof.Rows L2 DL
def topS (i : Nat) : Stmt := PySem.Challenge.pw_peristyle_k15_schemas.main.body.getD i (.Pass ⟨0, 0, 0, 0⟩)
def inS (i j : Nat) : Stmt := match topS i with
  | .ClassDef _ _ _ body _ _ _ _ _ _ _ => body.getD j (.Pass ⟨0, 0, 0, 0⟩)
  | _ => .Pass ⟨0, 0, 0, 0⟩
/-! is_figure(sign): 0 sign -/
abbrev s_is_figure : Stmt := topS 7
abbrev n_is_figure : List Str := ["sign"]
theorem sc_is_figure : FnScope n_is_figure ["sign"] (defScope s_is_figure) := ⟨rfl, rfl, rfl, by decide +kernel, rfl, by decide +kernel, by decide +kernel⟩
theorem nd_is_figure : List.Nodup n_is_figure := sc_is_figure.nd
/-! is_reserved(word): 0 word -/
abbrev s_is_reserved : Stmt := topS 8
abbrev n_is_reserved : List Str := ["word"]
theorem sc_is_reserved : FnScope n_is_reserved ["word"] (defScope s_is_reserved) := ⟨rfl, rfl, rfl, by decide +kernel, rfl, by decide +kernel, by decide +kernel⟩
theorem nd_is_reserved : List.Nodup n_is_reserved := sc_is_reserved.nd
/-! is_name(x): 0 x 1 sign -/
abbrev s_is_name : Stmt := topS 9
abbrev n_is_name : List Str := ["x", "sign"]
theorem sc_is_name : FnScope n_is_name ["x"] (defScope s_is_name) := ⟨rfl, rfl, rfl, by decide +kernel, rfl, by decide +kernel, by decide +kernel⟩
theorem nd_is_name : List.Nodup n_is_name := sc_is_name.nd
/-! is_column(x): 0 x 1 name 2 kind 3 nullable -/
abbrev s_is_column : Stmt := topS 14
abbrev n_is_column : List Str := ["x", "name", "kind", "nullable"]
theorem sc_is_column : FnScope n_is_column ["x"] (defScope s_is_column) := ⟨rfl, rfl, rfl, by decide +kernel, rfl, by decide +kernel, by decide +kernel⟩
theorem nd_is_column : List.Nodup n_is_column := sc_is_column.nd
/-! are_columns(x): 0 x 1 column -/
abbrev s_are_columns : Stmt := topS 15
abbrev n_are_columns : List Str := ["x", "column"]
theorem sc_are_columns : FnScope n_are_columns ["x"] (defScope s_are_columns) := ⟨rfl, rfl, rfl, by decide +kernel, rfl, by decide +kernel, by decide +kernel⟩
theorem nd_are_columns : List.Nodup n_are_columns := sc_are_columns.nd
/-! is_key(x, columns): 0 x 1 columns 2 before 3 at -/
abbrev s_is_key : Stmt := topS 16
abbrev n_is_key : List Str := ["x", "columns", "before", "at"]
theorem sc_is_key : FnScope n_is_key ["x", "columns"] (defScope s_is_key) := ⟨rfl, rfl, rfl, by decide +kernel, rfl, by decide +kernel, by decide +kernel⟩
theorem nd_is_key : List.Nodup n_is_key := sc_is_key.nd
/-! are_keys(x, columns): 0 x 1 columns 2 key -/
abbrev s_are_keys : Stmt := topS 17
abbrev n_are_keys : List Str := ["x", "columns", "key"]
theorem sc_are_keys : FnScope n_are_keys ["x", "columns"] (defScope s_are_keys) := ⟨rfl, rfl, rfl, by decide +kernel, rfl, by decide +kernel, by decide +kernel⟩
theorem nd_are_keys : List.Nodup n_are_keys := sc_are_keys.nd
/-! check_schema(schema): 0 schema -/
abbrev s_check_schema : Stmt := topS 18
abbrev n_check_schema : List Str := ["schema"]
theorem sc_check_schema : FnScope n_check_schema ["schema"] (defScope s_check_schema) := ⟨rfl, rfl, rfl, by decide +kernel, rfl, by decide +kernel, by decide +kernel⟩
theorem nd_check_schema : List.Nodup n_check_schema := sc_check_schema.nd
/-! _law_cell(script, k): 0 script 1 k -/
abbrev s_law_cell : Stmt := topS 20
abbrev n_law_cell : List Str := ["script", "k"]
theorem sc_law_cell : FnScope n_law_cell ["script", "k"] (defScope s_law_cell) := ⟨rfl, rfl, rfl, by decide +kernel, rfl, by decide +kernel, by decide +kernel⟩
theorem nd_law_cell : List.Nodup n_law_cell := sc_law_cell.nd
/-! _law_mixed(cell, k): 0 cell 1 k 2 x -/
abbrev s_law_mixed : Stmt := topS 21
abbrev n_law_mixed : List Str := ["cell", "k", "x"]
theorem sc_law_mixed : FnScope n_law_mixed ["cell", "k"] (defScope s_law_mixed) := ⟨rfl, rfl, rfl, by decide +kernel, rfl, by decide +kernel, by decide +kernel⟩
theorem nd_law_mixed : List.Nodup n_law_mixed := sc_law_mixed.nd
/-! _law_draws(cell, many): 0 cell 1 many 2 draws 3 rest 4 large 5 k -/
abbrev s_law_draws : Stmt := topS 22
abbrev n_law_draws : List Str := ["cell", "many", "draws", "rest", "large", "k"]
theorem sc_law_draws : FnScope n_law_draws ["cell", "many"] (defScope s_law_draws) := ⟨rfl, rfl, rfl, by decide +kernel, rfl, by decide +kernel, by decide +kernel⟩
theorem nd_law_draws : List.Nodup n_law_draws := sc_law_draws.nd
/-! _law_words(): 0 words -/
abbrev s_law_words : Stmt := topS 24
abbrev n_law_words : List Str := ["words"]
theorem sc_law_words : FnScope n_law_words [] (defScope s_law_words) := ⟨rfl, rfl, rfl, by decide +kernel, rfl, by decide +kernel, by decide +kernel⟩
theorem nd_law_words : List.Nodup n_law_words := sc_law_words.nd
/-! _law_reserved(word): 0 word -/
abbrev s_law_reserved : Stmt := topS 25
abbrev n_law_reserved : List Str := ["word"]
theorem sc_law_reserved : FnScope n_law_reserved ["word"] (defScope s_law_reserved) := ⟨rfl, rfl, rfl, by decide +kernel, rfl, by decide +kernel, by decide +kernel⟩
theorem nd_law_reserved : List.Nodup n_law_reserved := sc_law_reserved.nd
/-! _law_name(draws): 0 draws 1 size 2 small 3 signs 4 out 5 k -/
abbrev s_law_name : Stmt := topS 23
abbrev n_law_name : List Str := ["draws", "size", "small", "signs", "out", "k"]
theorem sc_law_name : FnScope n_law_name ["draws"] (defScope s_law_name) := ⟨rfl, rfl, rfl, by decide +kernel, rfl, by decide +kernel, by decide +kernel⟩
theorem nd_law_name : List.Nodup n_law_name := sc_law_name.nd
/-! _law_columns(script, many): 0 script 1 many 2 columns 3 names 4 k 5 draws 6 name 7 near 8 sign 9 x -/
abbrev s_law_columns : Stmt := topS 26
abbrev n_law_columns : List Str := ["script", "many", "columns", "names", "k", "draws", "name", "near", "sign", "x"]
theorem sc_law_columns : FnScope n_law_columns ["script", "many"] (defScope s_law_columns) := ⟨rfl, rfl, rfl, by decide +kernel, rfl, by decide +kernel, by decide +kernel⟩
theorem nd_law_columns : List.Nodup n_law_columns := sc_law_columns.nd
/-! _law_keys(columns, draws): 0 columns 1 draws 2 free 3 keys 4 k 5 width 6 start 7 key -/
abbrev s_law_keys : Stmt := topS 27
abbrev n_law_keys : List Str := ["columns", "draws", "free", "keys", "k", "width", "start", "key"]
theorem sc_law_keys : FnScope n_law_keys ["columns", "draws"] (defScope s_law_keys) := ⟨rfl, rfl, rfl, by decide +kernel, rfl, by decide +kernel, by decide +kernel⟩
theorem nd_law_keys : List.Nodup n_law_keys := sc_law_keys.nd
/-! _law_bad_name(draws): 0 draws 1 bad -/
abbrev s_law_bad_name : Stmt := topS 28
abbrev n_law_bad_name : List Str := ["draws", "bad"]
theorem sc_law_bad_name : FnScope n_law_bad_name ["draws"] (defScope s_law_bad_name) := ⟨rfl, rfl, rfl, by decide +kernel, rfl, by decide +kernel, by decide +kernel⟩
theorem nd_law_bad_name : List.Nodup n_law_bad_name := sc_law_bad_name.nd
/-! _law_with(columns, at, column): 0 columns 1 at 2 column -/
abbrev s_law_with : Stmt := topS 29
abbrev n_law_with : List Str := ["columns", "at", "column"]
theorem sc_law_with : FnScope n_law_with ["columns", "at", "column"] (defScope s_law_with) := ⟨rfl, rfl, rfl, by decide +kernel, rfl, by decide +kernel, by decide +kernel⟩
theorem nd_law_with : List.Nodup n_law_with := sc_law_with.nd
/-! _law_bad_key(columns, keys, draws): 0 columns 1 keys 2 draws 3 free 4 closed 5 way 6 bad 7 lost 8 at 9 k -/
abbrev s_law_bad_key : Stmt := topS 30
abbrev n_law_bad_key : List Str := ["columns", "keys", "draws", "free", "closed", "way", "bad", "lost", "at", "k"]
theorem sc_law_bad_key : FnScope n_law_bad_key ["columns", "keys", "draws"] (defScope s_law_bad_key) := ⟨rfl, rfl, rfl, by decide +kernel, rfl, by decide +kernel, by decide +kernel⟩
theorem nd_law_bad_key : List.Nodup n_law_bad_key := sc_law_bad_key.nd
/-! _law_misshapen(name, columns, keys, at, way): 0 name 1 columns 2 keys 3 at 4 way 5 column -/
abbrev s_law_misshapen : Stmt := topS 31
abbrev n_law_misshapen : List Str := ["name", "columns", "keys", "at", "way", "column"]
theorem sc_law_misshapen : FnScope n_law_misshapen ["name", "columns", "keys", "at", "way"] (defScope s_law_misshapen) := ⟨rfl, rfl, rfl, by decide +kernel, rfl, by decide +kernel, by decide +kernel⟩
theorem nd_law_misshapen : List.Nodup n_law_misshapen := sc_law_misshapen.nd
/-! _law_changed(schema, draws): 0 schema 1 draws 2 name 3 columns 4 keys 5 at 6 column 7 way 8 bad 9 twin 10 sign 11 k -/
abbrev s_law_changed : Stmt := topS 32
abbrev n_law_changed : List Str := ["schema", "draws", "name", "columns", "keys", "at", "column", "way", "bad", "twin", "sign", "k"]
theorem sc_law_changed : FnScope n_law_changed ["schema", "draws"] (defScope s_law_changed) := ⟨rfl, rfl, rfl, by decide +kernel, rfl, by decide +kernel, by decide +kernel⟩
theorem nd_law_changed : List.Nodup n_law_changed := sc_law_changed.nd
/-! _law_refused(schema): 0 schema 1 e -/
abbrev s_law_refused : Stmt := topS 33
abbrev n_law_refused : List Str := ["schema", "e"]
theorem sc_law_refused : FnScope n_law_refused ["schema"] (defScope s_law_refused) := ⟨rfl, rfl, rfl, by decide +kernel, rfl, by decide +kernel, by decide +kernel⟩
theorem nd_law_refused : List.Nodup n_law_refused := sc_law_refused.nd
/-! law(script): 0 script 1 draws 2 many 3 columns 4 schema 5 k -/
abbrev s_law : Stmt := topS 34
abbrev n_law : List Str := ["script", "draws", "many", "columns", "schema", "k"]
theorem sc_law : FnScope n_law ["script"] (defScope s_law) := ⟨rfl, rfl, rfl, by decide +kernel, rfl, by decide +kernel, by decide +kernel⟩
theorem nd_law : List.Nodup n_law := sc_law.nd
def k_KINDS : PyData := (.tuple [(.str (Str.ofString "int")), (.str (Str.ofString "text")), (.str (Str.ofString "bool"))])
def k_RESERVED : PyData := (.tuple [(.str (Str.ofString "SELECT")), (.str (Str.ofString "DISTINCT")), (.str (Str.ofString "FROM")), (.str (Str.ofString "WHERE")), (.str (Str.ofString "GROUP")), (.str (Str.ofString "BY")), (.str (Str.ofString "HAVING")), (.str (Str.ofString "ORDER")), (.str (Str.ofString "LIMIT")), (.str (Str.ofString "OFFSET")), (.str (Str.ofString "AS")), (.str (Str.ofString "JOIN")), (.str (Str.ofString "INNER")), (.str (Str.ofString "LEFT")), (.str (Str.ofString "RIGHT")), (.str (Str.ofString "FULL")), (.str (Str.ofString "CROSS")), (.str (Str.ofString "ON")), (.str (Str.ofString "UNION")), (.str (Str.ofString "INTERSECT")), (.str (Str.ofString "EXCEPT")), (.str (Str.ofString "ALL")), (.str (Str.ofString "VALUES")), (.str (Str.ofString "WITH")), (.str (Str.ofString "AND")), (.str (Str.ofString "OR")), (.str (Str.ofString "NOT")), (.str (Str.ofString "IS")), (.str (Str.ofString "NULL")), (.str (Str.ofString "TRUE")), (.str (Str.ofString "FALSE")), (.str (Str.ofString "IN")), (.str (Str.ofString "EXISTS")), (.str (Str.ofString "BETWEEN")), (.str (Str.ofString "LIKE")), (.str (Str.ofString "CASE")), (.str (Str.ofString "WHEN")), (.str (Str.ofString "THEN")), (.str (Str.ofString "ELSE")), (.str (Str.ofString "END")), (.str (Str.ofString "ASC")), (.str (Str.ofString "DESC")), (.str (Str.ofString "NULLS")), (.str (Str.ofString "FIRST")), (.str (Str.ofString "LAST")), (.str (Str.ofString "OVER")), (.str (Str.ofString "PARTITION")), (.str (Str.ofString "ROWS")), (.str (Str.ofString "PRECEDING")), (.str (Str.ofString "FOLLOWING")), (.str (Str.ofString "UNBOUNDED")), (.str (Str.ofString "CURRENT")), (.str (Str.ofString "ROW"))])
structure Tx (w : World) (K : PySem.W.Frag) (mg : Str → Option Value) where
  a_is_figure : Addr
  d_is_figure : FuncData
  F_is_figure : Fun K "is_figure" "is_figure" s_is_figure a_is_figure d_is_figure
  g_is_figure : mg "is_figure" = some (.ref a_is_figure)
  b_is_figure : Binds K d_is_figure ["sign"] []
  a_is_reserved : Addr
  d_is_reserved : FuncData
  F_is_reserved : Fun K "is_reserved" "is_reserved" s_is_reserved a_is_reserved d_is_reserved
  g_is_reserved : mg "is_reserved" = some (.ref a_is_reserved)
  b_is_reserved : Binds K d_is_reserved ["word"] []
  a_is_name : Addr
  d_is_name : FuncData
  F_is_name : Fun K "is_name" "is_name" s_is_name a_is_name d_is_name
  g_is_name : mg "is_name" = some (.ref a_is_name)
  b_is_name : Binds K d_is_name ["x"] []
  a_is_column : Addr
  d_is_column : FuncData
  F_is_column : Fun K "is_column" "is_column" s_is_column a_is_column d_is_column
  g_is_column : mg "is_column" = some (.ref a_is_column)
  b_is_column : Binds K d_is_column ["x"] []
  a_are_columns : Addr
  d_are_columns : FuncData
  F_are_columns : Fun K "are_columns" "are_columns" s_are_columns a_are_columns d_are_columns
  g_are_columns : mg "are_columns" = some (.ref a_are_columns)
  b_are_columns : Binds K d_are_columns ["x"] []
  a_is_key : Addr
  d_is_key : FuncData
  F_is_key : Fun K "is_key" "is_key" s_is_key a_is_key d_is_key
  g_is_key : mg "is_key" = some (.ref a_is_key)
  b_is_key : Binds K d_is_key ["x", "columns"] []
  a_are_keys : Addr
  d_are_keys : FuncData
  F_are_keys : Fun K "are_keys" "are_keys" s_are_keys a_are_keys d_are_keys
  g_are_keys : mg "are_keys" = some (.ref a_are_keys)
  b_are_keys : Binds K d_are_keys ["x", "columns"] []
  a_check_schema : Addr
  d_check_schema : FuncData
  F_check_schema : Fun K "check_schema" "check_schema" s_check_schema a_check_schema d_check_schema
  g_check_schema : mg "check_schema" = some (.ref a_check_schema)
  b_check_schema : Binds K d_check_schema ["schema"] []
  a_law_cell : Addr
  d_law_cell : FuncData
  F_law_cell : Fun K "_law_cell" "_law_cell" s_law_cell a_law_cell d_law_cell
  g_law_cell : mg "_law_cell" = some (.ref a_law_cell)
  b_law_cell : Binds K d_law_cell ["script", "k"] []
  a_law_mixed : Addr
  d_law_mixed : FuncData
  F_law_mixed : Fun K "_law_mixed" "_law_mixed" s_law_mixed a_law_mixed d_law_mixed
  g_law_mixed : mg "_law_mixed" = some (.ref a_law_mixed)
  b_law_mixed : Binds K d_law_mixed ["cell", "k"] []
  a_law_draws : Addr
  d_law_draws : FuncData
  F_law_draws : Fun K "_law_draws" "_law_draws" s_law_draws a_law_draws d_law_draws
  g_law_draws : mg "_law_draws" = some (.ref a_law_draws)
  b_law_draws : Binds K d_law_draws ["cell", "many"] []
  a_law_words : Addr
  d_law_words : FuncData
  F_law_words : Fun K "_law_words" "_law_words" s_law_words a_law_words d_law_words
  g_law_words : mg "_law_words" = some (.ref a_law_words)
  b_law_words : Binds K d_law_words [] []
  a_law_reserved : Addr
  d_law_reserved : FuncData
  F_law_reserved : Fun K "_law_reserved" "_law_reserved" s_law_reserved a_law_reserved d_law_reserved
  g_law_reserved : mg "_law_reserved" = some (.ref a_law_reserved)
  b_law_reserved : Binds K d_law_reserved ["word"] []
  a_law_name : Addr
  d_law_name : FuncData
  F_law_name : Fun K "_law_name" "_law_name" s_law_name a_law_name d_law_name
  g_law_name : mg "_law_name" = some (.ref a_law_name)
  b_law_name : Binds K d_law_name ["draws"] []
  a_law_columns : Addr
  d_law_columns : FuncData
  F_law_columns : Fun K "_law_columns" "_law_columns" s_law_columns a_law_columns d_law_columns
  g_law_columns : mg "_law_columns" = some (.ref a_law_columns)
  b_law_columns : Binds K d_law_columns ["script", "many"] []
  a_law_keys : Addr
  d_law_keys : FuncData
  F_law_keys : Fun K "_law_keys" "_law_keys" s_law_keys a_law_keys d_law_keys
  g_law_keys : mg "_law_keys" = some (.ref a_law_keys)
  b_law_keys : Binds K d_law_keys ["columns", "draws"] []
  a_law_bad_name : Addr
  d_law_bad_name : FuncData
  F_law_bad_name : Fun K "_law_bad_name" "_law_bad_name" s_law_bad_name a_law_bad_name d_law_bad_name
  g_law_bad_name : mg "_law_bad_name" = some (.ref a_law_bad_name)
  b_law_bad_name : Binds K d_law_bad_name ["draws"] []
  a_law_with : Addr
  d_law_with : FuncData
  F_law_with : Fun K "_law_with" "_law_with" s_law_with a_law_with d_law_with
  g_law_with : mg "_law_with" = some (.ref a_law_with)
  b_law_with : Binds K d_law_with ["columns", "at", "column"] []
  a_law_bad_key : Addr
  d_law_bad_key : FuncData
  F_law_bad_key : Fun K "_law_bad_key" "_law_bad_key" s_law_bad_key a_law_bad_key d_law_bad_key
  g_law_bad_key : mg "_law_bad_key" = some (.ref a_law_bad_key)
  b_law_bad_key : Binds K d_law_bad_key ["columns", "keys", "draws"] []
  a_law_misshapen : Addr
  d_law_misshapen : FuncData
  F_law_misshapen : Fun K "_law_misshapen" "_law_misshapen" s_law_misshapen a_law_misshapen d_law_misshapen
  g_law_misshapen : mg "_law_misshapen" = some (.ref a_law_misshapen)
  b_law_misshapen : Binds K d_law_misshapen ["name", "columns", "keys", "at", "way"] []
  a_law_changed : Addr
  d_law_changed : FuncData
  F_law_changed : Fun K "_law_changed" "_law_changed" s_law_changed a_law_changed d_law_changed
  g_law_changed : mg "_law_changed" = some (.ref a_law_changed)
  b_law_changed : Binds K d_law_changed ["schema", "draws"] []
  a_law_refused : Addr
  d_law_refused : FuncData
  F_law_refused : Fun K "_law_refused" "_law_refused" s_law_refused a_law_refused d_law_refused
  g_law_refused : mg "_law_refused" = some (.ref a_law_refused)
  b_law_refused : Binds K d_law_refused ["schema"] []
  a_law : Addr
  d_law : FuncData
  F_law : Fun K "law" "law" s_law a_law d_law
  g_law : mg "law" = some (.ref a_law)
  b_law : Binds K d_law ["script"] []
  n_ValueError : mg "ValueError" = none
  n_abs : mg "abs" = none
  n_bool : mg "bool" = none
  n_int : mg "int" = none
  n_isinstance : mg "isinstance" = none
  n_len : mg "len" = none
  n_min : mg "min" = none
  n_range : mg "range" = none
  n_sorted : mg "sorted" = none
  n_str : mg "str" = none
  n_tuple : mg "tuple" = none
  xa_BadForm : Addr
  xg_BadForm : mg "BadForm" = some (.ref xa_BadForm)
  xp_BadForm : ExPl K mg "BadForm" xa_BadForm
  xa_BadName : Addr
  xg_BadName : mg "BadName" = some (.ref xa_BadName)
  xa_PeristyleError : Addr
  xg_PeristyleError : mg "PeristyleError" = some (.ref xa_PeristyleError)
  xk_BadForm : CatchT K mg xa_BadForm [("BadForm", true)]
  xi_BadName : IsT K mg (.ref xa_BadName) [("BadForm", false)]
  xi_PeristyleError : IsT K mg (.ref xa_PeristyleError) [("BadForm", true)]
  xi_ValueError : IsT K mg (.type "ValueError") [("BadForm", true)]
  c_KINDS : ∃ a, mg "KINDS" = some (.ref a) ∧ ∀ F, Den K F (.ref a) k_KINDS
  c_LONGEST_NAME : ∃ t, mg "LONGEST_NAME" = some (.int 20 t)
  c_MOST_COLUMNS : ∃ t, mg "MOST_COLUMNS" = some (.int 12 t)
  c_MOST_KEYS : ∃ t, mg "MOST_KEYS" = some (.int 4 t)
  c_RESERVED : ∃ a, mg "RESERVED" = some (.ref a) ∧ ∀ F, Den K F (.ref a) k_RESERVED
def g_is_figure : Sls → Out :=
    (gRet (dChain leD leD (fun _ => .ok (.str (Str.ofString "0"))) (dVar 0) (fun _ => .ok (.str (Str.ofString "9")))))
@[simp] theorem st_is_figure (x0 : PyData) : st0 n_is_figure [x0] = [.val x0] := rfl
def m_is_figure (ds : List PyData) : Res PyData := outR (g_is_figure (st0 n_is_figure ds))
theorem D_is_figure {P : Program} {w : World} {K : PySem.W.Frag} {mg : Str → Option Value} {base : Heap} (T : Tx w K mg) : FnD P w K mg base 1 T.a_is_figure T.d_is_figure ["sign"] m_is_figure :=
  fn_D (g := g_is_figure) T.F_is_figure sc_is_figure (by decide) (fun cdv A outer s H E Fz c =>
      (dss_one (ds_ret (de_chain op_leD op_leD de_str (de_var (pv 0)) de_str)))) fun ds _ => .inr rfl
def g_is_reserved : Sls → Out :=
    (gRet (d2 inX (dM upperD (dVar 0) dNil) (fun _ => .ok k_RESERVED)))
@[simp] theorem st_is_reserved (x0 : PyData) : st0 n_is_reserved [x0] = [.val x0] := rfl
def m_is_reserved (ds : List PyData) : Res PyData := outR (g_is_reserved (st0 n_is_reserved ds))
theorem D_is_reserved {P : Program} {w : World} {K : PySem.W.Frag} {mg : Str → Option Value} {base : Heap} (T : Tx w K mg) : FnD P w K mg base 1 T.a_is_reserved T.d_is_reserved ["word"] m_is_reserved :=
  fn_D (g := g_is_reserved) T.F_is_reserved sc_is_reserved (by decide) (fun cdv A outer s H E Fz c =>
      (dss_one (ds_ret (de_cmp (op_inX c.room.units) (de_sm0 PySem.F.slot_str_upper PySem.F.type_str_upper mt_upperD (de_var (pv 0))) (de_globR (by rfl) T.c_RESERVED) (by rfl))))) fun ds _ => .inr rfl
def b1_is_name : Sls → Out :=
    (gIf (dNot (dOr (dB (dChain leD leD (fun _ => .ok (.str (Str.ofString "a"))) (dVar 1) (fun _ => .ok (.str (Str.ofString "z"))))) (dOr (dTru (dCall m_is_figure (dCons (dVar 1) dNil))) (dB (d2 eqD (dVar 1) (fun _ => .ok (.str (Str.ofString "_"))))))))
    (gRet (fun _ => .ok (.bool false)))
    gNext)
def g_is_name : Sls → Out :=
    (gSeq (gIf (dOr (dNot (dTru (d1 (isi1 isStr) (dVar 0)))) (dNot (dB (dChain leD leD (fun _ => .ok (.int 1)) (dL lenD (dCons (dVar 0) dNil)) (fun _ => .ok (.int 20))))))
    (gRet (fun _ => .ok (.bool false)))
    gNext)
    (gSeq (gIf (dNot (dB (dChain leD leD (fun _ => .ok (.str (Str.ofString "a"))) (d2 ixD (dVar 0) (fun _ => .ok (.int 0))) (fun _ => .ok (.str (Str.ofString "z"))))))
    (gRet (fun _ => .ok (.bool false)))
    gNext)
    (gSeq (gFor (dItems (dVar 0)) (bName 1)
    b1_is_name)
    (gRet (d1 notD (dCall m_is_reserved (dCons (dVar 0) dNil)))))))
@[simp] theorem st_is_name (x0 : PyData) : st0 n_is_name [x0] = [.val x0, .un] := rfl
def m_is_name (ds : List PyData) : Res PyData := outR (g_is_name (st0 n_is_name ds))
theorem D_is_name {P : Program} {w : World} {K : PySem.W.Frag} {mg : Str → Option Value} {base : Heap} (T : Tx w K mg) : FnD P w K mg base 2 T.a_is_name T.d_is_name ["x"] m_is_name :=
  have D_is_figure := D_is_figure (P := P) (w := w) (base := base) T
  have D_is_reserved := D_is_reserved (P := P) (w := w) (base := base) T
  fn_D (g := g_is_name) T.F_is_name sc_is_name (by decide) (fun cdv A outer s H E Fz c =>
      (dss_cons (ds_if (DW.dt (dw_or (dt_not (dt_truth (de_isi isi_str (by rfl) T.n_isinstance (by decide +kernel) (by rfl) T.n_str (by decide +kernel) (de_var (pv 0))))) (dw_or1 (dt_not (dt_chain op_leD op_leD de_int (de_callB call_lenV (by rfl) T.n_len (by decide +kernel) (da_cons (de_var (pv 0)) da_nil)) (de_globI (by rfl) T.c_LONGEST_NAME)))))) (dss_one (ds_ret de_bl)) dss_nil)
      (dss_cons (ds_if (dt_not (dt_chain op_leD op_leD de_str (de_ix ix_D (de_var (pv 0)) de_int (fun _ _ => rfl)) de_str)) (dss_one (ds_ret de_bl)) dss_nil)
      (dss_cons (ds_for c (di_any (de_var (pv 0))) (dg_name nd_is_name (i := 1) rfl (by first | exact .inl rfl | exact .inr rfl)) (dss_one (ds_if (dt_not (DW.dt (dw_or (dt_chain op_leD op_leD de_str (de_var (pv 1)) de_str) (dw_or (dt_truth (de_call D_is_figure c (by decide) (by rfl) T.g_is_figure T.F_is_figure.kp T.b_is_figure (da_cons (de_var (pv 1)) da_nil) (dCons_len nil_len))) (dw_or1 (dt_cmp (op_eqV c.room.units) (de_var (pv 1)) de_str (nomark _))))))) (dss_one (ds_ret de_bl)) dss_nil)))
      (dss_one (ds_ret (de_not (de_call D_is_reserved c (by decide) (by rfl) T.g_is_reserved T.F_is_reserved.kp T.b_is_reserved (da_cons (de_var (pv 0)) da_nil) (dCons_len nil_len))))))))) fun ds _ => .inr rfl
def g_is_column : Sls → Out :=
    (gSeq (gIf (dOr (dNot (dTru (d1 (isi1 isTuple) (dVar 0)))) (dB (d2 neD (dL lenD (dCons (dVar 0) dNil)) (fun _ => .ok (.int 3)))))
    (gRet (fun _ => .ok (.bool false)))
    gNext)
    (gSeq (gAsg (dVar 0) (bTup 3 (bCons (bName 1) (bCons (bName 2) (bCons (bName 3) bNil)))))
    (gRet (dAndV (dCall m_is_name (dCons (dVar 1) dNil)) (dAndV (d1 (isi1 isStr) (dVar 2)) (dAndV (d2 inX (dVar 2) (fun _ => .ok k_KINDS)) (d1 (isi1 isBool) (dVar 3))))))))
@[simp] theorem st_is_column (x0 : PyData) : st0 n_is_column [x0] = [.val x0, .un, .un, .un] := rfl
def m_is_column (ds : List PyData) : Res PyData := outR (g_is_column (st0 n_is_column ds))
theorem D_is_column {P : Program} {w : World} {K : PySem.W.Frag} {mg : Str → Option Value} {base : Heap} (T : Tx w K mg) : FnD P w K mg base 3 T.a_is_column T.d_is_column ["x"] m_is_column :=
  have D_is_name := D_is_name (P := P) (w := w) (base := base) T
  fn_D (g := g_is_column) T.F_is_column sc_is_column (by decide) (fun cdv A outer s H E Fz c =>
      (dss_cons (ds_if (DW.dt (dw_or (dt_not (dt_truth (de_isi isi_tuple (by rfl) T.n_isinstance (by decide +kernel) (by rfl) T.n_tuple (by decide +kernel) (de_var (pv 0))))) (dw_or1 (dt_cmp (op_neV c.room.units) (de_callB call_lenV (by rfl) T.n_len (by decide +kernel) (da_cons (de_var (pv 0)) da_nil)) de_int (nomark _))))) (dss_one (ds_ret de_bl)) dss_nil)
      (dss_cons (ds_asg (de_var (pv 0)) (dg_tup c.calm (dgs_cons (dg_name nd_is_column (i := 1) rfl (by first | exact .inl rfl | exact .inr rfl)) (dgs_cons (dg_name nd_is_column (i := 2) rfl (by first | exact .inl rfl | exact .inr rfl)) (dgs_cons (dg_name nd_is_column (i := 3) rfl (by first | exact .inl rfl | exact .inr rfl)) dgs_nil)))))
      (dss_one (ds_ret (de_and (de_call D_is_name c (by decide) (by rfl) T.g_is_name T.F_is_name.kp T.b_is_name (da_cons (de_var (pv 1)) da_nil) (dCons_len nil_len)) (de_and (de_isi isi_str (by rfl) T.n_isinstance (by decide +kernel) (by rfl) T.n_str (by decide +kernel) (de_var (pv 2))) (de_and (de_cmp (op_inX c.room.units) (de_var (pv 2)) (de_globR (by rfl) T.c_KINDS) (by rfl)) (de_one (de_isi isi_bool (by rfl) T.n_isinstance (by decide +kernel) (by rfl) T.n_bool (by decide +kernel) (de_var (pv 3)))))))))))) fun ds _ => .inr rfl
def b1_are_columns : Sls → Out :=
    (gIf (dNot (dTru (dCall m_is_column (dCons (dVar 1) dNil))))
    (gRet (fun _ => .ok (.bool false)))
    gNext)
def e2_are_columns : Sls → Res PyData :=
    (d2 ixD (dVar 1) (fun _ => .ok (.int 0)))
def g_are_columns : Sls → Out :=
    (gSeq (gIf (dOr (dNot (dTru (d1 (isi1 isTuple) (dVar 0)))) (dNot (dB (dChain leD leD (fun _ => .ok (.int 1)) (dL lenD (dCons (dVar 0) dNil)) (fun _ => .ok (.int 12))))))
    (gRet (fun _ => .ok (.bool false)))
    gNext)
    (gSeq (gFor (dItems (dVar 0)) (bName 1)
    b1_are_columns)
    (gRet (d2 eqD (dLenSt (dItems (dVar 0)) (bName 1) e2_are_columns [1]) (dL lenD (dCons (dVar 0) dNil))))))
@[simp] theorem st_are_columns (x0 : PyData) : st0 n_are_columns [x0] = [.val x0, .un] := rfl
def m_are_columns (ds : List PyData) : Res PyData := outR (g_are_columns (st0 n_are_columns ds))
theorem D_are_columns {P : Program} {w : World} {K : PySem.W.Frag} {mg : Str → Option Value} {base : Heap} (T : Tx w K mg) : FnD P w K mg base 4 T.a_are_columns T.d_are_columns ["x"] m_are_columns :=
  have D_is_column := D_is_column (P := P) (w := w) (base := base) T
  fn_D (g := g_are_columns) T.F_are_columns sc_are_columns (by decide) (fun cdv A outer s H E Fz c =>
      (dss_cons (ds_if (DW.dt (dw_or (dt_not (dt_truth (de_isi isi_tuple (by rfl) T.n_isinstance (by decide +kernel) (by rfl) T.n_tuple (by decide +kernel) (de_var (pv 0))))) (dw_or1 (dt_not (dt_chain op_leD op_leD de_int (de_callB call_lenV (by rfl) T.n_len (by decide +kernel) (da_cons (de_var (pv 0)) da_nil)) (de_globI (by rfl) T.c_MOST_COLUMNS)))))) (dss_one (ds_ret de_bl)) dss_nil)
      (dss_cons (ds_for c (di_any (de_var (pv 0))) (dg_name nd_are_columns (i := 1) rfl (by first | exact .inl rfl | exact .inr rfl)) (dss_one (ds_if (dt_not (dt_truth (de_call D_is_column c (by decide) (by rfl) T.g_is_column T.F_is_column.kp T.b_is_column (da_cons (de_var (pv 1)) da_nil) (dCons_len nil_len)))) (dss_one (ds_ret de_bl)) dss_nil)))
      (dss_one (ds_ret (de_cmp (op_eqV c.room.units) (de_lenSt (own := [("column", 1)]) c nd_are_columns (by rfl) T.n_len (di_any (de_var (pv 0))) (blkOk_by (N := n_are_columns) (sc := defScope s_are_columns) (by decide +kernel)) (by decide) (fun _ _ _ _ _ c => (dg_name nd_are_columns (i := 1) rfl (by first | exact .inl rfl | exact .inr rfl))) (fun _ _ _ _ _ c => (de_ix ix_D (de_var (pv 1)) de_int (fun _ _ => rfl)))) (de_callB call_lenV (by rfl) T.n_len (by decide +kernel) (da_cons (de_var (pv 0)) da_nil)) (nomark _))))))) fun ds _ => .inr rfl
def b1_is_key : Sls → Out :=
    (gSeq (gIf (dOr (dNot (dTru (d1 (isi1 isInt) (dVar 3)))) (dOr (dTru (d1 (isi1 isBool) (dVar 3))) (dNot (dB (dChain ltV ltV (dVar 2) (dVar 3) (dL lenD (dCons (dVar 1) dNil)))))))
    (gRet (fun _ => .ok (.bool false)))
    gNext)
    (gSeq (gIf (dTru (d2 ixD (d2 ixD (dVar 1) (dVar 3)) (fun _ => .ok (.int 2))))
    (gRet (fun _ => .ok (.bool false)))
    gNext)
    (gSet 2 (dVar 3))))
def g_is_key : Sls → Out :=
    (gSeq (gIf (dOr (dNot (dTru (d1 (isi1 isTuple) (dVar 0)))) (dNot (dTru (dVar 0))))
    (gRet (fun _ => .ok (.bool false)))
    gNext)
    (gSeq (gSet 2 (d1 negD (fun _ => .ok (.int 1))))
    (gSeq (gFor (dItems (dVar 0)) (bName 3)
    b1_is_key)
    (gRet (fun _ => .ok (.bool true))))))
@[simp] theorem st_is_key (x0 x1 : PyData) : st0 n_is_key [x0, x1] = [.val x0, .val x1, .un, .un] := rfl
def m_is_key (ds : List PyData) : Res PyData := outR (g_is_key (st0 n_is_key ds))
theorem D_is_key {P : Program} {w : World} {K : PySem.W.Frag} {mg : Str → Option Value} {base : Heap} (T : Tx w K mg) : FnD P w K mg base 1 T.a_is_key T.d_is_key ["x", "columns"] m_is_key :=
  fn_D (g := g_is_key) T.F_is_key sc_is_key (by decide) (fun cdv A outer s H E Fz c =>
      (dss_cons (ds_if (DW.dt (dw_or (dt_not (dt_truth (de_isi isi_tuple (by rfl) T.n_isinstance (by decide +kernel) (by rfl) T.n_tuple (by decide +kernel) (de_var (pv 0))))) (dw_or1 (dt_not (dt_truth (de_var (pv 0))))))) (dss_one (ds_ret de_bl)) dss_nil)
      (dss_cons (ds_set nd_is_key (i := 2) rfl (by first | exact .inl rfl | exact .inr rfl) (de_un un_negD de_int))
      (dss_cons (ds_for c (di_any (de_var (pv 0))) (dg_name nd_is_key (i := 3) rfl (by first | exact .inl rfl | exact .inr rfl)) (dss_cons (ds_if (DW.dt (dw_or (dt_not (dt_truth (de_isi isi_int (by rfl) T.n_isinstance (by decide +kernel) (by rfl) T.n_int (by decide +kernel) (de_var (pv 3))))) (dw_or (dt_truth (de_isi isi_bool (by rfl) T.n_isinstance (by decide +kernel) (by rfl) T.n_bool (by decide +kernel) (de_var (pv 3)))) (dw_or1 (dt_not (dt_chain (op_ltV c.room.units) (op_ltV c.room.units) (de_var (pv 2)) (de_var (pv 3)) (de_callB call_lenV (by rfl) T.n_len (by decide +kernel) (da_cons (de_var (pv 1)) da_nil)))))))) (dss_one (ds_ret de_bl)) dss_nil)
      (dss_cons (ds_if (dt_truth (de_ix ix_D (de_ix ix_D (de_var (pv 1)) (de_var (pv 3)) (fun _ _ => rfl)) de_int (fun _ _ => rfl))) (dss_one (ds_ret de_bl)) dss_nil)
      (dss_one (ds_set nd_is_key (i := 2) rfl (by first | exact .inl rfl | exact .inr rfl) (de_var (pv 3)))))))
      (dss_one (ds_ret de_bl)))))) fun ds _ => .inr rfl
def b1_are_keys : Sls → Out :=
    (gIf (dNot (dTru (dCall m_is_key (dCons (dVar 2) (dCons (dVar 1) dNil)))))
    (gRet (fun _ => .ok (.bool false)))
    gNext)
def e2_are_keys : Sls → Res PyData :=
    (dVar 2)
def g_are_keys : Sls → Out :=
    (gSeq (gIf (dOr (dNot (dTru (d1 (isi1 isTuple) (dVar 0)))) (dB (d2 gtV (dL lenD (dCons (dVar 0) dNil)) (fun _ => .ok (.int 4)))))
    (gRet (fun _ => .ok (.bool false)))
    gNext)
    (gSeq (gFor (dItems (dVar 0)) (bName 2)
    b1_are_keys)
    (gRet (d2 eqD (dLenSt (dItems (dVar 0)) (bName 2) e2_are_keys [2]) (dL lenD (dCons (dVar 0) dNil))))))
@[simp] theorem st_are_keys (x0 x1 : PyData) : st0 n_are_keys [x0, x1] = [.val x0, .val x1, .un] := rfl
def m_are_keys (ds : List PyData) : Res PyData := outR (g_are_keys (st0 n_are_keys ds))
theorem D_are_keys {P : Program} {w : World} {K : PySem.W.Frag} {mg : Str → Option Value} {base : Heap} (T : Tx w K mg) : FnD P w K mg base 2 T.a_are_keys T.d_are_keys ["x", "columns"] m_are_keys :=
  have D_is_key := D_is_key (P := P) (w := w) (base := base) T
  fn_D (g := g_are_keys) T.F_are_keys sc_are_keys (by decide) (fun cdv A outer s H E Fz c =>
      (dss_cons (ds_if (DW.dt (dw_or (dt_not (dt_truth (de_isi isi_tuple (by rfl) T.n_isinstance (by decide +kernel) (by rfl) T.n_tuple (by decide +kernel) (de_var (pv 0))))) (dw_or1 (dt_cmp (op_gtV c.room.units) (de_callB call_lenV (by rfl) T.n_len (by decide +kernel) (da_cons (de_var (pv 0)) da_nil)) (de_globI (by rfl) T.c_MOST_KEYS) (nomark _))))) (dss_one (ds_ret de_bl)) dss_nil)
      (dss_cons (ds_for c (di_any (de_var (pv 0))) (dg_name nd_are_keys (i := 2) rfl (by first | exact .inl rfl | exact .inr rfl)) (dss_one (ds_if (dt_not (dt_truth (de_call D_is_key c (by decide) (by rfl) T.g_is_key T.F_is_key.kp T.b_is_key (da_cons (de_var (pv 2)) (da_cons (de_var (pv 1)) da_nil)) (dCons_len (dCons_len nil_len))))) (dss_one (ds_ret de_bl)) dss_nil)))
      (dss_one (ds_ret (de_cmp (op_eqV c.room.units) (de_lenSt (own := [("key", 2)]) c nd_are_keys (by rfl) T.n_len (di_any (de_var (pv 0))) (blkOk_by (N := n_are_keys) (sc := defScope s_are_keys) (by decide +kernel)) (by decide) (fun _ _ _ _ _ c => (dg_name nd_are_keys (i := 2) rfl (by first | exact .inl rfl | exact .inr rfl))) (fun _ _ _ _ _ c => (de_var (pv 2)))) (de_callB call_lenV (by rfl) T.n_len (by decide +kernel) (da_cons (de_var (pv 0)) da_nil)) (nomark _))))))) fun ds _ => .inr rfl
def g_check_schema : Sls → Out :=
    (gSeq (gIf (dOr (dNot (dTru (d1 (isi1 isTuple) (dVar 0)))) (dOr (dB (d2 neD (dL lenD (dCons (dVar 0) dNil)) (fun _ => .ok (.int 3)))) (dNot (dTru (dCall m_is_name (dCons (d2 ixD (dVar 0) (fun _ => .ok (.int 0))) dNil))))))
    (gRaise0 "BadForm")
    gNext)
    (gIf (dOr (dNot (dTru (dCall m_are_columns (dCons (d2 ixD (dVar 0) (fun _ => .ok (.int 1))) dNil)))) (dNot (dTru (dCall m_are_keys (dCons (d2 ixD (dVar 0) (fun _ => .ok (.int 2))) (dCons (d2 ixD (dVar 0) (fun _ => .ok (.int 1))) dNil))))))
    (gRaise0 "BadForm")
    gNext))
@[simp] theorem st_check_schema (x0 : PyData) : st0 n_check_schema [x0] = [.val x0] := rfl
def m_check_schema (ds : List PyData) : Res PyData := outR (g_check_schema (st0 n_check_schema ds))
theorem D_check_schema {P : Program} {w : World} {K : PySem.W.Frag} {mg : Str → Option Value} {base : Heap} (T : Tx w K mg) : FnD P w K mg base 5 T.a_check_schema T.d_check_schema ["schema"] m_check_schema :=
  have D_is_name := D_is_name (P := P) (w := w) (base := base) T
  have D_are_columns := D_are_columns (P := P) (w := w) (base := base) T
  have D_are_keys := D_are_keys (P := P) (w := w) (base := base) T
  fn_D (g := g_check_schema) T.F_check_schema sc_check_schema (by decide) (fun cdv A outer s H E Fz c =>
      (dss_cons (ds_if (DW.dt (dw_or (dt_not (dt_truth (de_isi isi_tuple (by rfl) T.n_isinstance (by decide +kernel) (by rfl) T.n_tuple (by decide +kernel) (de_var (pv 0))))) (dw_or (dt_cmp (op_neV c.room.units) (de_callB call_lenV (by rfl) T.n_len (by decide +kernel) (da_cons (de_var (pv 0)) da_nil)) de_int (nomark _)) (dw_or1 (dt_not (dt_truth (de_call D_is_name c (by decide) (by rfl) T.g_is_name T.F_is_name.kp T.b_is_name (da_cons (de_ix ix_D (de_var (pv 0)) de_int (fun _ _ => rfl)) da_nil) (dCons_len nil_len)))))))) (dss_one (ds_raise0 T.xp_BadForm c (by rfl))) dss_nil)
      (dss_one (ds_if (DW.dt (dw_or (dt_not (dt_truth (de_call D_are_columns c (by decide) (by rfl) T.g_are_columns T.F_are_columns.kp T.b_are_columns (da_cons (de_ix ix_D (de_var (pv 0)) de_int (fun _ _ => rfl)) da_nil) (dCons_len nil_len)))) (dw_or1 (dt_not (dt_truth (de_call D_are_keys c (by decide) (by rfl) T.g_are_keys T.F_are_keys.kp T.b_are_keys (da_cons (de_ix ix_D (de_var (pv 0)) de_int (fun _ _ => rfl)) (da_cons (de_ix ix_D (de_var (pv 0)) de_int (fun _ _ => rfl)) da_nil)) (dCons_len (dCons_len nil_len)))))))) (dss_one (ds_raise0 T.xp_BadForm c (by rfl))) dss_nil)))) fun ds _ => .inr rfl
def g_law_cell : Sls → Out :=
    (gSeq (gIf (dB (d2 ltV (dVar 1) (dL lenD (dCons (dVar 0) dNil))))
    (gRet (d2 ixD (dVar 0) (dVar 1)))
    gNext)
    (gRet (fun _ => .ok (.int 0))))
@[simp] theorem st_law_cell (x0 x1 : PyData) : st0 n_law_cell [x0, x1] = [.val x0, .val x1] := rfl
def m_law_cell (ds : List PyData) : Res PyData := outR (g_law_cell (st0 n_law_cell ds))
theorem D_law_cell {P : Program} {w : World} {K : PySem.W.Frag} {mg : Str → Option Value} {base : Heap} (T : Tx w K mg) : FnD P w K mg base 1 T.a_law_cell T.d_law_cell ["script", "k"] m_law_cell :=
  fn_D (g := g_law_cell) T.F_law_cell sc_law_cell (by decide) (fun cdv A outer s H E Fz c =>
      (dss_cons (ds_if (dt_cmp (op_ltV c.room.units) (de_var (pv 1)) (de_callB call_lenV (by rfl) T.n_len (by decide +kernel) (da_cons (de_var (pv 0)) da_nil)) (nomark _)) (dss_one (ds_ret (de_ix ix_D (de_var (pv 0)) (de_var (pv 1)) (fun _ _ => rfl)))) dss_nil)
      (dss_one (ds_ret de_int)))) fun ds _ => .inr rfl
def g_law_mixed : Sls → Out :=
    (gSeq (gSet 2 (d2 modD (dL intXD (dCons (d2 addD (d2 addD (d2 mulVD (dVar 0) (fun _ => .ok (.int 48271))) (d2 mulVD (dVar 1) (fun _ => .ok (.int 69621)))) (fun _ => .ok (.int 11))) dNil)) (fun _ => .ok (.int 2147483647))))
    (gRet (d2 modD (dL intXD (dCons (d2 addD (d2 addD (d2 mulVD (dVar 2) (fun _ => .ok (.int 16807))) (d2 mulVD (dVar 1) (fun _ => .ok (.int 7919)))) (d2 fdivD (dVar 2) (fun _ => .ok (.int 127773)))) dNil)) (fun _ => .ok (.int 2147483629)))))
@[simp] theorem st_law_mixed (x0 x1 : PyData) : st0 n_law_mixed [x0, x1] = [.val x0, .val x1, .un] := rfl
def m_law_mixed (ds : List PyData) : Res PyData := outR (g_law_mixed (st0 n_law_mixed ds))
theorem D_law_mixed {P : Program} {w : World} {K : PySem.W.Frag} {mg : Str → Option Value} {base : Heap} (T : Tx w K mg) : FnD P w K mg base 1 T.a_law_mixed T.d_law_mixed ["cell", "k"] m_law_mixed :=
  fn_D (g := g_law_mixed) T.F_law_mixed sc_law_mixed (by decide) (fun cdv A outer s H E Fz c =>
      (dss_cons (ds_set nd_law_mixed (i := 2) rfl (by first | exact .inl rfl | exact .inr rfl) (de_bin op_modD (de_callTy call_intX (by rfl) T.n_int (by decide +kernel) (da_cons (de_bin op_addD (de_bin op_addD (de_bin op_mulV (de_var (pv 0)) de_int) (de_bin op_mulV (de_var (pv 1)) de_int)) de_int) da_nil)) de_int))
      (dss_one (ds_ret (de_bin op_modD (de_callTy call_intX (by rfl) T.n_int (by decide +kernel) (da_cons (de_bin op_addD (de_bin op_addD (de_bin op_mulV (de_var (pv 2)) de_int) (de_bin op_mulV (de_var (pv 1)) de_int)) (de_bin op_fdivD (de_var (pv 2)) de_int)) da_nil)) de_int))))) fun ds _ => .inr rfl
def b1_law_draws : Sls → Out :=
    (gIf (dAnd (dTru (dVar 4)) (dB (d2 gtV (dVar 3) (fun _ => .ok (.int 0)))))
    (gSeq (gApp 2 (d2 modD (dL intXD (dCons (dVar 3) dNil)) (d2 powD (fun _ => .ok (.int 10)) (fun _ => .ok (.int 7)))))
    (gSet 3 (d2 fdivD (dVar 3) (d2 powD (fun _ => .ok (.int 10)) (fun _ => .ok (.int 7))))))
    (gApp 2 (dCall m_law_mixed (dCons (dVar 0) (dCons (dVar 5) dNil)))))
def g_law_draws : Sls → Out :=
    (gSeq (gSetN 2 (dDisp dNil))
    (gSeq (gSet 3 (dL absD (dCons (dVar 0) dNil)))
    (gSeq (gSet 4 (d2 geD (dVar 3) (d2 powD (fun _ => .ok (.int 10)) (fun _ => .ok (.int 18)))))
    (gSeq (gFor (dRng rng1 (dCons (dVar 1) dNil)) (bName 5)
    b1_law_draws)
    (gBefore 2 (gRet (dVar 2)))))))
@[simp] theorem st_law_draws (x0 x1 : PyData) : st0 n_law_draws [x0, x1] = [.val x0, .val x1, .un, .un, .un, .un] := rfl
def m_law_draws (ds : List PyData) : Res PyData := outR (g_law_draws (st0 n_law_draws ds))
theorem D_law_draws {P : Program} {w : World} {K : PySem.W.Frag} {mg : Str → Option Value} {base : Heap} (T : Tx w K mg) : FnD P w K mg base 2 T.a_law_draws T.d_law_draws ["cell", "many"] m_law_draws :=
  have D_law_mixed := D_law_mixed (P := P) (w := w) (base := base) T
  fn_D (g := g_law_draws) T.F_law_draws sc_law_draws (by decide) (fun cdv A outer s H E Fz c =>
      (dss_cons (ds_setN nd_law_draws (i := 2) rfl (by first | exact .inl rfl | exact .inr rfl) (dn_lst da_nil))
      (dss_cons (ds_set nd_law_draws (i := 3) rfl (by first | exact .inl rfl | exact .inr rfl) (de_callB call_absV (by rfl) T.n_abs (by decide +kernel) (da_cons (de_var (pv 0)) da_nil)))
      (dss_cons (ds_set nd_law_draws (i := 4) rfl (by first | exact .inl rfl | exact .inr rfl) (de_cmp op_geD (de_var (pv 3)) (de_bin op_powD de_int de_int) (nomark _)))
      (dss_cons (ds_for c (di_range1 (by rfl) T.n_range (da_cons (de_var (pv 1)) da_nil)) (dg_name nd_law_draws (i := 5) rfl (by first | exact .inl rfl | exact .inr rfl)) (dss_one (ds_if (DW.dt (dw_and (dt_truth (de_var (pv 4))) (dw_and1 (dt_cmp (op_gtV c.room.units) (de_var (pv 3)) de_int (nomark _))))) (dss_cons (ds_append (pv 2) (de_bin op_modD (de_callTy call_intX (by rfl) T.n_int (by decide +kernel) (da_cons (de_var (pv 3)) da_nil)) (de_bin op_powD de_int de_int)))
      (dss_one (ds_set nd_law_draws (i := 3) rfl (by first | exact .inl rfl | exact .inr rfl) (de_bin op_fdivD (de_var (pv 3)) (de_bin op_powD de_int de_int))))) (dss_one (ds_append (pv 2) (de_call D_law_mixed c (by decide) (by rfl) T.g_law_mixed T.F_law_mixed.kp T.b_law_mixed (da_cons (de_var (pv 0)) (da_cons (de_var (pv 5)) da_nil)) (dCons_len (dCons_len nil_len))))))))
      (dss_one (DS.frz 2 (ds_ret (de_var (pv 2)))))))))) fun ds _ => .inr rfl
def g_law_words : Sls → Out :=
    (gSeq (gSet 0 (fun _ => .ok (.str (Str.ofString "select distinct from where group by having order limit offset as join inner left right full cross on union"))))
    (gSeq (gSet 0 (d2 addD (dVar 0) (fun _ => .ok (.str (Str.ofString " intersect except all values with and or not is null true false in exists between like case when")))))
    (gSeq (gSet 0 (d2 addD (dVar 0) (fun _ => .ok (.str (Str.ofString " then else end asc desc nulls first last over partition rows preceding following unbounded current")))))
    (gRet (d2 addD (dM splitD (dVar 0) (dCons (fun _ => .ok (.str (Str.ofString " "))) dNil)) (dFr (dDisp (dCons (fun _ => .ok (.str (Str.ofString "row"))) dNil))))))))
@[simp] theorem st_law_words  : st0 n_law_words [] = [.un] := rfl
def m_law_words (ds : List PyData) : Res PyData := outR (g_law_words (st0 n_law_words ds))
theorem D_law_words {P : Program} {w : World} {K : PySem.W.Frag} {mg : Str → Option Value} {base : Heap} (T : Tx w K mg) : FnD P w K mg base 1 T.a_law_words T.d_law_words [] m_law_words :=
  fn_D (g := g_law_words) T.F_law_words sc_law_words (by decide) (fun cdv A outer s H E Fz c =>
      (dss_cons (ds_set nd_law_words (i := 0) rfl (by first | exact .inl rfl | exact .inr rfl) de_str)
      (dss_cons (ds_set nd_law_words (i := 0) rfl (by first | exact .inl rfl | exact .inr rfl) (de_bin op_addD (de_var (pv 0)) de_str))
      (dss_cons (ds_set nd_law_words (i := 0) rfl (by first | exact .inl rfl | exact .inr rfl) (de_bin op_addD (de_var (pv 0)) de_str))
      (dss_one (ds_ret (de_bin op_addD (de_sm PySem.F.slot_str_split PySem.F.type_str_split mt_splitD (de_var (pv 0)) (da_cons de_str da_nil)) (DN.de (dn_lst (da_cons de_str da_nil)))))))))) fun ds _ => .inr rfl
def g_law_reserved : Sls → Out :=
    (gRet (d2 inX (dM lowerD (dVar 0) dNil) (fun _ => m_law_words [])))
@[simp] theorem st_law_reserved (x0 : PyData) : st0 n_law_reserved [x0] = [.val x0] := rfl
def m_law_reserved (ds : List PyData) : Res PyData := outR (g_law_reserved (st0 n_law_reserved ds))
theorem D_law_reserved {P : Program} {w : World} {K : PySem.W.Frag} {mg : Str → Option Value} {base : Heap} (T : Tx w K mg) : FnD P w K mg base 2 T.a_law_reserved T.d_law_reserved ["word"] m_law_reserved :=
  have D_law_words := D_law_words (P := P) (w := w) (base := base) T
  fn_D (g := g_law_reserved) T.F_law_reserved sc_law_reserved (by decide) (fun cdv A outer s H E Fz c =>
      (dss_one (ds_ret (de_cmp (op_inX c.room.units) (de_sm0 PySem.F.slot_str_lower PySem.F.type_str_lower mt_lowerD (de_var (pv 0))) (de_call0 D_law_words c (by decide) (by rfl) T.g_law_words T.F_law_words.kp T.b_law_words) (by rfl))))) fun ds _ => .inr rfl
def b1_law_name : Sls → Out :=
    (gSet 4 (d2 addD (dVar 4) (d2 ixD (dVar 3) (d2 modD (dL intXD (dCons (d2 addD (d2 ixD (dVar 0) (d2 addD (fun _ => .ok (.int 3)) (d2 modD (dVar 5) (fun _ => .ok (.int 5))))) (d2 mulVD (d2 fdivD (dVar 5) (fun _ => .ok (.int 5))) (fun _ => .ok (.int 7)))) dNil)) (fun _ => .ok (.int 63))))))
def g_law_name : Sls → Out :=
    (gSeq (gIf (dB (d2 eqD (d2 modD (dL intXD (dCons (d2 ixD (dVar 0) (fun _ => .ok (.int 1))) dNil)) (fun _ => .ok (.int 11))) (fun _ => .ok (.int 0))))
    (gRet (d2 addD (d2 ixD (fun _ => m_law_words []) (d2 modD (dL intXD (dCons (d2 ixD (dVar 0) (fun _ => .ok (.int 0))) dNil)) (fun _ => .ok (.int 53)))) (d2 ixD (dFr (dDisp (dCons (fun _ => .ok (.str (Str.ofString "_"))) (dCons (fun _ => .ok (.str (Str.ofString "1"))) (dCons (fun _ => .ok (.str (Str.ofString "x"))) dNil))))) (d2 modD (dL intXD (dCons (d2 ixD (dVar 0) (fun _ => .ok (.int 2))) dNil)) (fun _ => .ok (.int 3))))))
    gNext)
    (gSeq (gSet 1 (d2 addD (fun _ => .ok (.int 1)) (d2 modD (dL intXD (dCons (d2 ixD (dVar 0) (fun _ => .ok (.int 0))) dNil)) (fun _ => .ok (.int 6)))))
    (gSeq (gIf (dB (d2 eqD (d2 modD (dL intXD (dCons (d2 ixD (dVar 0) (fun _ => .ok (.int 1))) dNil)) (fun _ => .ok (.int 7))) (fun _ => .ok (.int 0))))
    (gSet 1 (d2 addD (fun _ => .ok (.int 19)) (d2 modD (dL intXD (dCons (d2 ixD (dVar 0) (fun _ => .ok (.int 0))) dNil)) (fun _ => .ok (.int 2)))))
    gNext)
    (gSeq (gSet 2 (fun _ => .ok (.str (Str.ofString "abcdefghijklmnopqrstuvwxyz"))))
    (gSeq (gSet 3 (d2 addD (d2 addD (dVar 2) (fun _ => .ok (.str (Str.ofString "_0123456789")))) (dVar 2)))
    (gSeq (gSet 4 (d2 ixD (dVar 2) (d2 modD (dL intXD (dCons (d2 ixD (dVar 0) (fun _ => .ok (.int 2))) dNil)) (fun _ => .ok (.int 26)))))
    (gSeq (gFor (dRng rng1 (dCons (d2 subD (dVar 1) (fun _ => .ok (.int 1))) dNil)) (bName 5)
    b1_law_name)
    (gSeq (gIf (dTru (dCall m_law_reserved (dCons (dVar 4) dNil)))
    (gRet (d2 addD (dVar 4) (fun _ => .ok (.str (Str.ofString "_")))))
    gNext)
    (gRet (dVar 4))))))))))
@[simp] theorem st_law_name (x0 : PyData) : st0 n_law_name [x0] = [.val x0, .un, .un, .un, .un, .un] := rfl
def m_law_name (ds : List PyData) : Res PyData := outR (g_law_name (st0 n_law_name ds))
theorem D_law_name {P : Program} {w : World} {K : PySem.W.Frag} {mg : Str → Option Value} {base : Heap} (T : Tx w K mg) : FnD P w K mg base 3 T.a_law_name T.d_law_name ["draws"] m_law_name :=
  have D_law_words := D_law_words (P := P) (w := w) (base := base) T
  have D_law_reserved := D_law_reserved (P := P) (w := w) (base := base) T
  fn_D (g := g_law_name) T.F_law_name sc_law_name (by decide) (fun cdv A outer s H E Fz c =>
      (dss_cons (ds_if (dt_cmp (op_eqV c.room.units) (de_bin op_modD (de_callTy call_intX (by rfl) T.n_int (by decide +kernel) (da_cons (de_ix ix_D (de_var (pv 0)) de_int (fun _ _ => rfl)) da_nil)) de_int) de_int (nomark _)) (dss_one (ds_ret (de_bin op_addD (de_ix ix_D (de_call0 D_law_words c (by decide) (by rfl) T.g_law_words T.F_law_words.kp T.b_law_words) (de_bin op_modD (de_callTy call_intX (by rfl) T.n_int (by decide +kernel) (da_cons (de_ix ix_D (de_var (pv 0)) de_int (fun _ _ => rfl)) da_nil)) de_int) (fun _ _ => rfl)) (de_ix ix_D (DN.de (dn_lst (da_cons de_str (da_cons de_str (da_cons de_str da_nil))))) (de_bin op_modD (de_callTy call_intX (by rfl) T.n_int (by decide +kernel) (da_cons (de_ix ix_D (de_var (pv 0)) de_int (fun _ _ => rfl)) da_nil)) de_int) (fun _ _ => rfl))))) dss_nil)
      (dss_cons (ds_set nd_law_name (i := 1) rfl (by first | exact .inl rfl | exact .inr rfl) (de_bin op_addD de_int (de_bin op_modD (de_callTy call_intX (by rfl) T.n_int (by decide +kernel) (da_cons (de_ix ix_D (de_var (pv 0)) de_int (fun _ _ => rfl)) da_nil)) de_int)))
      (dss_cons (ds_if (dt_cmp (op_eqV c.room.units) (de_bin op_modD (de_callTy call_intX (by rfl) T.n_int (by decide +kernel) (da_cons (de_ix ix_D (de_var (pv 0)) de_int (fun _ _ => rfl)) da_nil)) de_int) de_int (nomark _)) (dss_one (ds_set nd_law_name (i := 1) rfl (by first | exact .inl rfl | exact .inr rfl) (de_bin op_addD de_int (de_bin op_modD (de_callTy call_intX (by rfl) T.n_int (by decide +kernel) (da_cons (de_ix ix_D (de_var (pv 0)) de_int (fun _ _ => rfl)) da_nil)) de_int)))) dss_nil)
      (dss_cons (ds_set nd_law_name (i := 2) rfl (by first | exact .inl rfl | exact .inr rfl) de_str)
      (dss_cons (ds_set nd_law_name (i := 3) rfl (by first | exact .inl rfl | exact .inr rfl) (de_bin op_addD (de_bin op_addD (de_var (pv 2)) de_str) (de_var (pv 2))))
      (dss_cons (ds_set nd_law_name (i := 4) rfl (by first | exact .inl rfl | exact .inr rfl) (de_ix ix_D (de_var (pv 2)) (de_bin op_modD (de_callTy call_intX (by rfl) T.n_int (by decide +kernel) (da_cons (de_ix ix_D (de_var (pv 0)) de_int (fun _ _ => rfl)) da_nil)) de_int) (fun _ _ => rfl)))
      (dss_cons (ds_for c (di_range1 (by rfl) T.n_range (da_cons (de_bin op_subD (de_var (pv 1)) de_int) da_nil)) (dg_name nd_law_name (i := 5) rfl (by first | exact .inl rfl | exact .inr rfl)) (dss_one (ds_set nd_law_name (i := 4) rfl (by first | exact .inl rfl | exact .inr rfl) (de_bin op_addD (de_var (pv 4)) (de_ix ix_D (de_var (pv 3)) (de_bin op_modD (de_callTy call_intX (by rfl) T.n_int (by decide +kernel) (da_cons (de_bin op_addD (de_ix ix_D (de_var (pv 0)) (de_bin op_addD de_int (de_bin op_modD (de_var (pv 5)) de_int)) (fun _ _ => rfl)) (de_bin op_mulV (de_bin op_fdivD (de_var (pv 5)) de_int) de_int)) da_nil)) de_int) (fun _ _ => rfl))))))
      (dss_cons (ds_if (dt_truth (de_call D_law_reserved c (by decide) (by rfl) T.g_law_reserved T.F_law_reserved.kp T.b_law_reserved (da_cons (de_var (pv 4)) da_nil) (dCons_len nil_len))) (dss_one (ds_ret (de_bin op_addD (de_var (pv 4)) de_str))) dss_nil)
      (dss_one (ds_ret (de_var (pv 4))))))))))))) fun ds _ => .inr rfl
def e1_law_columns : Sls → Res PyData :=
    (d2 addD (dSl slD (dVar 6) (fun _ => .ok none) (dPart (fun _ => .ok (.int 19)))) (dVar 8))
def e2_law_columns : Sls → Res PyData :=
    (dVar 9)
def u3_law_columns : Sls → Res Bool :=
    (dAnd (dB (d2 notInX (dVar 9) (dVar 3))) (dNot (dTru (dCall m_law_reserved (dCons (dVar 9) dNil)))))
def b4_law_columns : Sls → Out :=
    (gSeq (gSet 5 (dCall m_law_draws (dCons (dCall m_law_cell (dCons (dVar 0) (dCons (d2 addD (fun _ => .ok (.int 2)) (dVar 4)) dNil))) (dCons (fun _ => .ok (.int 12)) dNil))))
    (gSeq (gSet 6 (dCall m_law_name (dCons (dVar 5) dNil)))
    (gSeq (gSet 7 (d2 addD (dFr (dDisp (dCons (dVar 6) dNil))) (dFr (dLc (dItems (fun _ => .ok (.str (Str.ofString "abcdefghijklmnopqrstuvwxyz")))) (bName 8) tYesD e1_law_columns [8]))))
    (gSeq (gSet 6 (dBrw 3 (d2 ixD (dFr (dLc (dItems (dVar 7)) (bName 9) u3_law_columns e2_law_columns [9])) (fun _ => .ok (.int 0)))))
    (gSeq (gApp 3 (dVar 6))
    (gApp 2 (dL tupD (dCons (dVar 6) (dCons (d2 ixD (dFr (dDisp (dCons (fun _ => .ok (.str (Str.ofString "int"))) (dCons (fun _ => .ok (.str (Str.ofString "text"))) (dCons (fun _ => .ok (.str (Str.ofString "bool"))) dNil))))) (d2 modD (dL intXD (dCons (d2 ixD (dVar 5) (fun _ => .ok (.int 10))) dNil)) (fun _ => .ok (.int 3)))) (dCons (d2 eqD (d2 modD (dL intXD (dCons (d2 ixD (dVar 5) (fun _ => .ok (.int 11))) dNil)) (fun _ => .ok (.int 2))) (fun _ => .ok (.int 0))) dNil))))))))))
def g_law_columns : Sls → Out :=
    (gSeq (gSetN 2 (dDisp dNil))
    (gSeq (gSetN 3 (dDisp dNil))
    (gSeq (gFor (dRng rng1 (dCons (dVar 1) dNil)) (bName 4)
    b4_law_columns)
    (gBefore 2 (gRet (dL tupleD (dCons (dVar 2) dNil)))))))
@[simp] theorem st_law_columns (x0 x1 : PyData) : st0 n_law_columns [x0, x1] = [.val x0, .val x1, .un, .un, .un, .un, .un, .un, .un, .un] := rfl
def m_law_columns (ds : List PyData) : Res PyData := outR (g_law_columns (st0 n_law_columns ds))
theorem D_law_columns {P : Program} {w : World} {K : PySem.W.Frag} {mg : Str → Option Value} {base : Heap} (T : Tx w K mg) : FnD P w K mg base 4 T.a_law_columns T.d_law_columns ["script", "many"] m_law_columns :=
  have D_law_draws := D_law_draws (P := P) (w := w) (base := base) T
  have D_law_cell := D_law_cell (P := P) (w := w) (base := base) T
  have D_law_name := D_law_name (P := P) (w := w) (base := base) T
  have D_law_reserved := D_law_reserved (P := P) (w := w) (base := base) T
  fn_D (g := g_law_columns) T.F_law_columns sc_law_columns (by decide) (fun cdv A outer s H E Fz c =>
      (dss_cons (ds_setN nd_law_columns (i := 2) rfl (by first | exact .inl rfl | exact .inr rfl) (dn_lst da_nil))
      (dss_cons (ds_setN nd_law_columns (i := 3) rfl (by first | exact .inl rfl | exact .inr rfl) (dn_lst da_nil))
      (dss_cons (ds_for c (di_range1 (by rfl) T.n_range (da_cons (de_var (pv 1)) da_nil)) (dg_name nd_law_columns (i := 4) rfl (by first | exact .inl rfl | exact .inr rfl)) (dss_cons (ds_set nd_law_columns (i := 5) rfl (by first | exact .inl rfl | exact .inr rfl) (de_call D_law_draws c (by decide) (by rfl) T.g_law_draws T.F_law_draws.kp T.b_law_draws (da_cons (de_call D_law_cell c (by decide) (by rfl) T.g_law_cell T.F_law_cell.kp T.b_law_cell (da_cons (de_var (pv 0)) (da_cons (de_bin op_addD de_int (de_var (pv 4))) da_nil)) (dCons_len (dCons_len nil_len))) (da_cons de_int da_nil)) (dCons_len (dCons_len nil_len))))
      (dss_cons (ds_set nd_law_columns (i := 6) rfl (by first | exact .inl rfl | exact .inr rfl) (de_call D_law_name c (by decide) (by rfl) T.g_law_name T.F_law_name.kp T.b_law_name (da_cons (de_var (pv 5)) da_nil) (dCons_len nil_len)))
      (dss_cons (ds_set nd_law_columns (i := 7) rfl (by first | exact .inl rfl | exact .inr rfl) (de_bin op_addD (DN.de (dn_lst (da_cons (de_var (pv 6)) da_nil))) (DN.de (dn_lc (own := [("sign", 8)]) c nd_law_columns (di_any de_str) (blkOk_by (N := n_law_columns) (sc := defScope s_law_columns) (by decide +kernel)) (by decide) (fun _ _ _ _ _ c => (dg_name nd_law_columns (i := 8) rfl (by first | exact .inl rfl | exact .inr rfl))) (fun _ _ _ _ _ c => dts_nil) (fun _ _ _ _ _ c => (de_bin op_addD (de_slice sl_D (de_var (pv 6)) do_none (do_some de_int)) (de_var (pv 8))))))))
      (dss_cons (ds_set nd_law_columns (i := 6) rfl (by first | exact .inl rfl | exact .inr rfl) (DE.brw 3 (de_ix ix_D (DN.de (dn_lc (own := [("x", 9)]) c nd_law_columns (di_any (de_var (pv 7))) (blkOk_by (N := n_law_columns) (sc := defScope s_law_columns) (by decide +kernel)) (by decide) (fun _ _ _ _ _ c => (dg_name nd_law_columns (i := 9) rfl (by first | exact .inl rfl | exact .inr rfl))) (fun _ _ _ _ _ c => (dts_one (DW.dt (dw_and (dt_cmp (op_notInX c.room.units) (de_var (pv 9)) (de_var (pv 3)) (by rfl)) (dw_and1 (dt_not (dt_truth (de_call D_law_reserved c (by decide) (by rfl) T.g_law_reserved T.F_law_reserved.kp T.b_law_reserved (da_cons (de_var (pv 9)) da_nil) (dCons_len nil_len))))))))) (fun _ _ _ _ _ c => (de_var (pv 9))))) de_int (fun _ _ => rfl))))
      (dss_cons (ds_append (pv 3) (de_var (pv 6)))
      (dss_one (ds_append (pv 2) (de_tup (da_cons (de_var (pv 6)) (da_cons (de_ix ix_D (DN.de (dn_lst (da_cons de_str (da_cons de_str (da_cons de_str da_nil))))) (de_bin op_modD (de_callTy call_intX (by rfl) T.n_int (by decide +kernel) (da_cons (de_ix ix_D (de_var (pv 5)) de_int (fun _ _ => rfl)) da_nil)) de_int) (fun _ _ => rfl)) (da_cons (de_cmp (op_eqV c.room.units) (de_bin op_modD (de_callTy call_intX (by rfl) T.n_int (by decide +kernel) (da_cons (de_ix ix_D (de_var (pv 5)) de_int (fun _ _ => rfl)) da_nil)) de_int) de_int (nomark _)) da_nil))))))))))))
      (dss_one (DS.frz 2 (ds_ret (de_callTy call_tupleV (by rfl) T.n_tuple (by decide +kernel) (da_cons (de_var (pv 2)) da_nil))))))))) fun ds _ => .inr rfl
def e1_law_keys : Sls → Res PyData :=
    (dVar 4)
def u2_law_keys : Sls → Res Bool :=
    (dNot (dTru (d2 ixD (d2 ixD (dVar 0) (dVar 4)) (fun _ => .ok (.int 2)))))
def b3_law_keys : Sls → Out :=
    (gSeq (gSet 5 (d2 addD (fun _ => .ok (.int 1)) (d2 modD (dL intXD (dCons (d2 ixD (dVar 1) (d2 addD (fun _ => .ok (.int 1)) (dVar 4))) dNil)) (fun _ => .ok (.int 4)))))
    (gSeq (gSet 6 (d2 modD (d2 fdivD (dL intXD (dCons (d2 ixD (dVar 1) (d2 addD (fun _ => .ok (.int 1)) (dVar 4))) dNil)) (fun _ => .ok (.int 3))) (d2 addD (dL lenD (dCons (dVar 2) dNil)) (fun _ => .ok (.int 1)))))
    (gSeq (gSet 7 (dL tupleD (dCons (dSl slD (dVar 2) (dPart (dVar 6)) (dPart (d2 addD (dVar 6) (dVar 5)))) dNil)))
    (gIf (tBrw 3 (dAnd (dB (d2 neD (dVar 7) (dL tupD dNil))) (dB (d2 notInX (dVar 7) (dVar 3)))))
    (gApp 3 (dVar 7))
    gNext))))
def g_law_keys : Sls → Out :=
    (gSeq (gFrz 2 (gSetN 2 (dLc (dRng rng1 (dCons (dL lenD (dCons (dVar 0) dNil)) dNil)) (bName 4) u2_law_keys e1_law_keys [4])))
    (gSeq (gSetN 3 (dDisp dNil))
    (gSeq (gFor (dRng rng1 (dCons (d2 modD (dL intXD (dCons (d2 ixD (dVar 1) (fun _ => .ok (.int 0))) dNil)) (fun _ => .ok (.int 5))) dNil)) (bName 4)
    b3_law_keys)
    (gBefore 3 (gRet (dL tupleD (dCons (dVar 3) dNil)))))))
@[simp] theorem st_law_keys (x0 x1 : PyData) : st0 n_law_keys [x0, x1] = [.val x0, .val x1, .un, .un, .un, .un, .un, .un] := rfl
def m_law_keys (ds : List PyData) : Res PyData := outR (g_law_keys (st0 n_law_keys ds))
theorem D_law_keys {P : Program} {w : World} {K : PySem.W.Frag} {mg : Str → Option Value} {base : Heap} (T : Tx w K mg) : FnD P w K mg base 1 T.a_law_keys T.d_law_keys ["columns", "draws"] m_law_keys :=
  fn_D (g := g_law_keys) T.F_law_keys sc_law_keys (by decide) (fun cdv A outer s H E Fz c =>
      (dss_cons (DS.post 2 (ds_lcN (own := [("k", 4)]) c nd_law_keys (i := 2) rfl rfl (sw_true rfl rfl rfl (by decide +kernel)) (di_range1 (by rfl) T.n_range (da_cons (de_callB call_lenV (by rfl) T.n_len (by decide +kernel) (da_cons (de_var (pv 0)) da_nil)) da_nil)) (blkOk_by (N := n_law_keys) (sc := defScope s_law_keys) (by decide +kernel)) (by decide) (fun _ _ _ _ _ c => (dg_name nd_law_keys (i := 4) rfl (by first | exact .inl rfl | exact .inr rfl))) (fun _ _ _ _ _ c => (dts_one (dt_not (dt_truth (de_ix ix_D (de_ix ix_D (de_var (pv 0)) (de_var (pv 4)) (fun _ _ => rfl)) de_int (fun _ _ => rfl)))))) (fun _ _ _ _ _ c => (de_var (pv 4)))))
      (dss_cons (ds_setN nd_law_keys (i := 3) rfl (by first | exact .inl rfl | exact .inr rfl) (dn_lst da_nil))
      (dss_cons (ds_for c (di_range1 (by rfl) T.n_range (da_cons (de_bin op_modD (de_callTy call_intX (by rfl) T.n_int (by decide +kernel) (da_cons (de_ix ix_D (de_var (pv 1)) de_int (fun _ _ => rfl)) da_nil)) de_int) da_nil)) (dg_name nd_law_keys (i := 4) rfl (by first | exact .inl rfl | exact .inr rfl)) (dss_cons (ds_set nd_law_keys (i := 5) rfl (by first | exact .inl rfl | exact .inr rfl) (de_bin op_addD de_int (de_bin op_modD (de_callTy call_intX (by rfl) T.n_int (by decide +kernel) (da_cons (de_ix ix_D (de_var (pv 1)) (de_bin op_addD de_int (de_var (pv 4))) (fun _ _ => rfl)) da_nil)) de_int)))
      (dss_cons (ds_set nd_law_keys (i := 6) rfl (by first | exact .inl rfl | exact .inr rfl) (de_bin op_modD (de_bin op_fdivD (de_callTy call_intX (by rfl) T.n_int (by decide +kernel) (da_cons (de_ix ix_D (de_var (pv 1)) (de_bin op_addD de_int (de_var (pv 4))) (fun _ _ => rfl)) da_nil)) de_int) (de_bin op_addD (de_callB call_lenV (by rfl) T.n_len (by decide +kernel) (da_cons (de_var (pv 2)) da_nil)) de_int)))
      (dss_cons (ds_set nd_law_keys (i := 7) rfl (by first | exact .inl rfl | exact .inr rfl) (de_callTy call_tupleV (by rfl) T.n_tuple (by decide +kernel) (da_cons (de_slice sl_D (de_var (pv 2)) (do_some (de_var (pv 6))) (do_some (de_bin op_addD (de_var (pv 6)) (de_var (pv 5))))) da_nil)))
      (dss_one (ds_if (DT.brw 3 (DW.dt (dw_and (dt_cmp (op_neV c.room.units) (de_var (pv 7)) (de_tup da_nil) (nomark _)) (dw_and1 (dt_cmp (op_notInX c.room.units) (de_var (pv 7)) (de_var (pv 3)) (by rfl)))))) (dss_one (ds_append (pv 3) (de_var (pv 7)))) dss_nil))))))
      (dss_one (DS.frz 3 (ds_ret (de_callTy call_tupleV (by rfl) T.n_tuple (by decide +kernel) (da_cons (de_var (pv 3)) da_nil))))))))) fun ds _ => .inr rfl
def g_law_bad_name : Sls → Out :=
    (gSeq (gSet 1 (dFr (dDisp (dCons (fun _ => .ok (.str (Str.ofString ""))) (dCons (fun _ => .ok (.str (Str.ofString "A"))) (dCons (fun _ => .ok (.str (Str.ofString "1a"))) (dCons (fun _ => .ok (.str (Str.ofString "_a"))) (dCons (fun _ => .ok (.str (Str.ofString "a b"))) (dCons (fun _ => .ok (.str (Str.ofString "aB"))) (dCons (fun _ => .ok (.str (Str.ofString "a-b"))) (dCons (d2 mulVD (fun _ => .ok (.str (Str.ofString "a"))) (fun _ => .ok (.int 21))) (dCons (fun _ => .ok (.str (Str.ofString "select"))) (dCons (fun _ => .ok (.str (Str.ofString "row"))) (dCons (fun _ => .ok (.str (Str.ofString "rows"))) (dCons (fun _ => .ok (.str (Str.ofString "a.b"))) (dCons (fun _ => .ok (.int 7)) (dCons (fun _ => .ok .none) (dCons (d2 addD (d2 mulVD (fun _ => .ok (.str (Str.ofString "a"))) (fun _ => .ok (.int 20))) (fun _ => .ok (.str (Str.ofString "_")))) dNil))))))))))))))))))
    (gSeq (gIf (dB (d2 eqD (d2 modD (dL intXD (dCons (d2 ixD (dVar 0) (fun _ => .ok (.int 4))) dNil)) (fun _ => .ok (.int 2))) (fun _ => .ok (.int 0))))
    (gRet (d2 ixD (fun _ => m_law_words []) (d2 modD (dL intXD (dCons (d2 ixD (dVar 0) (fun _ => .ok (.int 1))) dNil)) (fun _ => .ok (.int 53)))))
    gNext)
    (gRet (d2 ixD (dVar 1) (d2 modD (dL intXD (dCons (d2 ixD (dVar 0) (fun _ => .ok (.int 1))) dNil)) (fun _ => .ok (.int 15)))))))
@[simp] theorem st_law_bad_name (x0 : PyData) : st0 n_law_bad_name [x0] = [.val x0, .un] := rfl
def m_law_bad_name (ds : List PyData) : Res PyData := outR (g_law_bad_name (st0 n_law_bad_name ds))
theorem D_law_bad_name {P : Program} {w : World} {K : PySem.W.Frag} {mg : Str → Option Value} {base : Heap} (T : Tx w K mg) : FnD P w K mg base 2 T.a_law_bad_name T.d_law_bad_name ["draws"] m_law_bad_name :=
  have D_law_words := D_law_words (P := P) (w := w) (base := base) T
  fn_D (g := g_law_bad_name) T.F_law_bad_name sc_law_bad_name (by decide) (fun cdv A outer s H E Fz c =>
      (dss_cons (ds_set nd_law_bad_name (i := 1) rfl (by first | exact .inl rfl | exact .inr rfl) (DN.de (dn_lst (da_cons de_str (da_cons de_str (da_cons de_str (da_cons de_str (da_cons de_str (da_cons de_str (da_cons de_str (da_cons (de_bin op_mulV de_str de_int) (da_cons de_str (da_cons de_str (da_cons de_str (da_cons de_str (da_cons de_int (da_cons de_non (da_cons (de_bin op_addD (de_bin op_mulV de_str de_int) de_str) da_nil))))))))))))))))))
      (dss_cons (ds_if (dt_cmp (op_eqV c.room.units) (de_bin op_modD (de_callTy call_intX (by rfl) T.n_int (by decide +kernel) (da_cons (de_ix ix_D (de_var (pv 0)) de_int (fun _ _ => rfl)) da_nil)) de_int) de_int (nomark _)) (dss_one (ds_ret (de_ix ix_D (de_call0 D_law_words c (by decide) (by rfl) T.g_law_words T.F_law_words.kp T.b_law_words) (de_bin op_modD (de_callTy call_intX (by rfl) T.n_int (by decide +kernel) (da_cons (de_ix ix_D (de_var (pv 0)) de_int (fun _ _ => rfl)) da_nil)) de_int) (fun _ _ => rfl)))) dss_nil)
      (dss_one (ds_ret (de_ix ix_D (de_var (pv 1)) (de_bin op_modD (de_callTy call_intX (by rfl) T.n_int (by decide +kernel) (da_cons (de_ix ix_D (de_var (pv 0)) de_int (fun _ _ => rfl)) da_nil)) de_int) (fun _ _ => rfl))))))) fun ds _ => .inr rfl
def g_law_with : Sls → Out :=
    (gRet (d2 addD (d2 addD (dSl slD (dVar 0) (fun _ => .ok none) (dPart (dVar 1))) (dL tupD (dCons (dVar 2) dNil))) (dSl slD (dVar 0) (dPart (d2 addD (dVar 1) (fun _ => .ok (.int 1)))) (fun _ => .ok none))))
@[simp] theorem st_law_with (x0 x1 x2 : PyData) : st0 n_law_with [x0, x1, x2] = [.val x0, .val x1, .val x2] := rfl
def m_law_with (ds : List PyData) : Res PyData := outR (g_law_with (st0 n_law_with ds))
theorem D_law_with {P : Program} {w : World} {K : PySem.W.Frag} {mg : Str → Option Value} {base : Heap} (T : Tx w K mg) : FnD P w K mg base 1 T.a_law_with T.d_law_with ["columns", "at", "column"] m_law_with :=
  fn_D (g := g_law_with) T.F_law_with sc_law_with (by decide) (fun cdv A outer s H E Fz c =>
      (dss_one (ds_ret (de_bin op_addD (de_bin op_addD (de_slice sl_D (de_var (pv 0)) do_none (do_some (de_var (pv 1)))) (de_tup (da_cons (de_var (pv 2)) da_nil))) (de_slice sl_D (de_var (pv 0)) (do_some (de_bin op_addD (de_var (pv 1)) de_int)) do_none))))) fun ds _ => .inr rfl
def e1_law_bad_key : Sls → Res PyData :=
    (dVar 9)
def u2_law_bad_key : Sls → Res Bool :=
    (dNot (dTru (d2 ixD (d2 ixD (dVar 0) (dVar 9)) (fun _ => .ok (.int 2)))))
def e3_law_bad_key : Sls → Res PyData :=
    (dVar 9)
def u4_law_bad_key : Sls → Res Bool :=
    (dTru (d2 ixD (d2 ixD (dVar 0) (dVar 9)) (fun _ => .ok (.int 2))))
def g_law_bad_key : Sls → Out :=
    (gSeq (gFrz 3 (gSetN 3 (dLc (dRng rng1 (dCons (dL lenD (dCons (dVar 0) dNil)) dNil)) (bName 9) u2_law_bad_key e1_law_bad_key [9])))
    (gSeq (gFrz 4 (gSetN 4 (dLc (dRng rng1 (dCons (dL lenD (dCons (dVar 0) dNil)) dNil)) (bName 9) u4_law_bad_key e3_law_bad_key [9])))
    (gSeq (gSet 5 (d2 modD (dL intXD (dCons (d2 ixD (dVar 2) (fun _ => .ok (.int 2))) dNil)) (fun _ => .ok (.int 8))))
    (gSeq (gSet 6 (dL tupD dNil))
    (gSeq (gIf (dAnd (dB (d2 inX (dVar 5) (dL tupD (dCons (fun _ => .ok (.int 1)) (dCons (fun _ => .ok (.int 6)) (dCons (fun _ => .ok (.int 7)) dNil)))))) (dB (d2 neD (dVar 4) (dFr (dDisp dNil)))))
    (gSeq (gSet 7 (d2 ixD (dVar 4) (d2 modD (dL intXD (dCons (d2 ixD (dVar 2) (fun _ => .ok (.int 3))) dNil)) (dL lenD (dCons (dVar 4) dNil)))))
    (gSeq (gSet 6 (dL tupD (dCons (dVar 7) dNil)))
    (gIf (dB (d2 gtV (dVar 5) (fun _ => .ok (.int 1))))
    (gSet 6 (dL tupleD (dCons (dFr (dSortF (dCons (d2 addD (dFr (dDisp (dCons (dVar 7) dNil))) (dSl slD (dSl slD (dVar 3) (dPart (d2 modD (dL intXD (dCons (d2 ixD (dVar 2) (fun _ => .ok (.int 1))) dNil)) (fun _ => .ok (.int 2)))) (fun _ => .ok none)) (fun _ => .ok none) (dPart (d2 addD (fun _ => .ok (.int 1)) (d2 modD (dL intXD (dCons (d2 ixD (dVar 2) (fun _ => .ok (.int 0))) dNil)) (fun _ => .ok (.int 3))))))) dNil))) dNil)))
    gNext)))
    gNext)
    (gSeq (gIf (dB (d2 eqD (dVar 5) (fun _ => .ok (.int 2))))
    (gSet 6 (d2 addD (dL tupleD (dCons (dSl slD (dVar 3) (fun _ => .ok none) (dPart (d2 modD (dL intXD (dCons (d2 ixD (dVar 2) (fun _ => .ok (.int 3))) dNil)) (fun _ => .ok (.int 3))))) dNil)) (dL tupD (dCons (dL lenD (dCons (dVar 0) dNil)) dNil))))
    gNext)
    (gSeq (gIf (dB (d2 eqD (dVar 5) (fun _ => .ok (.int 3))))
    (gSet 6 (d2 addD (dL tupD (dCons (d1 negD (fun _ => .ok (.int 1))) dNil)) (dL tupleD (dCons (dSl slD (dVar 3) (fun _ => .ok none) (dPart (d2 modD (dL intXD (dCons (d2 ixD (dVar 2) (fun _ => .ok (.int 3))) dNil)) (fun _ => .ok (.int 3))))) dNil))))
    gNext)
    (gSeq (gIf (dAnd (dB (d2 eqD (dVar 5) (fun _ => .ok (.int 4)))) (dB (d2 neD (dVar 3) (dFr (dDisp dNil)))))
    (gSet 6 (dL tupD (dCons (d2 ixD (dVar 3) (fun _ => .ok (.int 0))) (dCons (d2 ixD (dVar 3) (fun _ => .ok (.int 0))) dNil))))
    gNext)
    (gSeq (gIf (dAnd (dB (d2 eqD (dVar 5) (fun _ => .ok (.int 5)))) (dB (d2 gtV (dL lenD (dCons (dVar 3) dNil)) (fun _ => .ok (.int 1)))))
    (gSet 6 (dL tupD (dCons (d2 ixD (dVar 3) (fun _ => .ok (.int 1))) (dCons (d2 ixD (dVar 3) (fun _ => .ok (.int 0))) dNil))))
    gNext)
    (gSeq (gSet 8 (d2 modD (dL intXD (dCons (d2 ixD (dVar 2) (fun _ => .ok (.int 4))) dNil)) (d2 addD (dL lenD (dCons (dVar 1) dNil)) (fun _ => .ok (.int 1)))))
    (gRet (d2 addD (d2 addD (dSl slD (dSl slD (dVar 1) (fun _ => .ok none) (dPart (dVar 8))) (fun _ => .ok none) (dPart (fun _ => .ok (.int 3)))) (dL tupD (dCons (dVar 6) dNil))) (dSl slD (dSl slD (dVar 1) (dPart (dVar 8)) (fun _ => .ok none)) (fun _ => .ok none) (dPart (fun _ => .ok (.int 3))))))))))))))))
@[simp] theorem st_law_bad_key (x0 x1 x2 : PyData) : st0 n_law_bad_key [x0, x1, x2] = [.val x0, .val x1, .val x2, .un, .un, .un, .un, .un, .un, .un] := rfl
def m_law_bad_key (ds : List PyData) : Res PyData := outR (g_law_bad_key (st0 n_law_bad_key ds))
theorem D_law_bad_key {P : Program} {w : World} {K : PySem.W.Frag} {mg : Str → Option Value} {base : Heap} (T : Tx w K mg) : FnD P w K mg base 1 T.a_law_bad_key T.d_law_bad_key ["columns", "keys", "draws"] m_law_bad_key :=
  fn_D (g := g_law_bad_key) T.F_law_bad_key sc_law_bad_key (by decide) (fun cdv A outer s H E Fz c =>
      (dss_cons (DS.post 3 (ds_lcN (own := [("k", 9)]) c nd_law_bad_key (i := 3) rfl rfl (sw_true rfl rfl rfl (by decide +kernel)) (di_range1 (by rfl) T.n_range (da_cons (de_callB call_lenV (by rfl) T.n_len (by decide +kernel) (da_cons (de_var (pv 0)) da_nil)) da_nil)) (blkOk_by (N := n_law_bad_key) (sc := defScope s_law_bad_key) (by decide +kernel)) (by decide) (fun _ _ _ _ _ c => (dg_name nd_law_bad_key (i := 9) rfl (by first | exact .inl rfl | exact .inr rfl))) (fun _ _ _ _ _ c => (dts_one (dt_not (dt_truth (de_ix ix_D (de_ix ix_D (de_var (pv 0)) (de_var (pv 9)) (fun _ _ => rfl)) de_int (fun _ _ => rfl)))))) (fun _ _ _ _ _ c => (de_var (pv 9)))))
      (dss_cons (DS.post 4 (ds_lcN (own := [("k", 9)]) c nd_law_bad_key (i := 4) rfl rfl (sw_true rfl rfl rfl (by decide +kernel)) (di_range1 (by rfl) T.n_range (da_cons (de_callB call_lenV (by rfl) T.n_len (by decide +kernel) (da_cons (de_var (pv 0)) da_nil)) da_nil)) (blkOk_by (N := n_law_bad_key) (sc := defScope s_law_bad_key) (by decide +kernel)) (by decide) (fun _ _ _ _ _ c => (dg_name nd_law_bad_key (i := 9) rfl (by first | exact .inl rfl | exact .inr rfl))) (fun _ _ _ _ _ c => (dts_one (dt_truth (de_ix ix_D (de_ix ix_D (de_var (pv 0)) (de_var (pv 9)) (fun _ _ => rfl)) de_int (fun _ _ => rfl))))) (fun _ _ _ _ _ c => (de_var (pv 9)))))
      (dss_cons (ds_set nd_law_bad_key (i := 5) rfl (by first | exact .inl rfl | exact .inr rfl) (de_bin op_modD (de_callTy call_intX (by rfl) T.n_int (by decide +kernel) (da_cons (de_ix ix_D (de_var (pv 2)) de_int (fun _ _ => rfl)) da_nil)) de_int))
      (dss_cons (ds_set nd_law_bad_key (i := 6) rfl (by first | exact .inl rfl | exact .inr rfl) (de_tup da_nil))
      (dss_cons (ds_if (DW.dt (dw_and (dt_cmp (op_inX c.room.units) (de_var (pv 5)) (de_tup (da_cons de_int (da_cons de_int (da_cons de_int da_nil)))) (by rfl)) (dw_and1 (dt_cmp (op_neV c.room.units) (de_var (pv 4)) (DN.de (dn_lst da_nil)) (nomark _))))) (dss_cons (ds_set nd_law_bad_key (i := 7) rfl (by first | exact .inl rfl | exact .inr rfl) (de_ix ix_D (de_var (pv 4)) (de_bin op_modD (de_callTy call_intX (by rfl) T.n_int (by decide +kernel) (da_cons (de_ix ix_D (de_var (pv 2)) de_int (fun _ _ => rfl)) da_nil)) (de_callB call_lenV (by rfl) T.n_len (by decide +kernel) (da_cons (de_var (pv 4)) da_nil))) (fun _ _ => rfl)))
      (dss_cons (ds_set nd_law_bad_key (i := 6) rfl (by first | exact .inl rfl | exact .inr rfl) (de_tup (da_cons (de_var (pv 7)) da_nil)))
      (dss_one (ds_if (dt_cmp (op_gtV c.room.units) (de_var (pv 5)) de_int (nomark _)) (dss_one (ds_set nd_law_bad_key (i := 6) rfl (by first | exact .inl rfl | exact .inr rfl) (de_callTy call_tupleV (by rfl) T.n_tuple (by decide +kernel) (da_cons (DN.de (dn_sortF c (by rfl) T.n_sorted (da_cons (de_bin op_addD (DN.de (dn_lst (da_cons (de_var (pv 7)) da_nil))) (de_slice sl_D (de_slice sl_D (de_var (pv 3)) (do_some (de_bin op_modD (de_callTy call_intX (by rfl) T.n_int (by decide +kernel) (da_cons (de_ix ix_D (de_var (pv 2)) de_int (fun _ _ => rfl)) da_nil)) de_int)) do_none) do_none (do_some (de_bin op_addD de_int (de_bin op_modD (de_callTy call_intX (by rfl) T.n_int (by decide +kernel) (da_cons (de_ix ix_D (de_var (pv 2)) de_int (fun _ _ => rfl)) da_nil)) de_int))))) da_nil))) da_nil)))) dss_nil)))) dss_nil)
      (dss_cons (ds_if (dt_cmp (op_eqV c.room.units) (de_var (pv 5)) de_int (nomark _)) (dss_one (ds_set nd_law_bad_key (i := 6) rfl (by first | exact .inl rfl | exact .inr rfl) (de_bin op_addD (de_callTy call_tupleV (by rfl) T.n_tuple (by decide +kernel) (da_cons (de_slice sl_D (de_var (pv 3)) do_none (do_some (de_bin op_modD (de_callTy call_intX (by rfl) T.n_int (by decide +kernel) (da_cons (de_ix ix_D (de_var (pv 2)) de_int (fun _ _ => rfl)) da_nil)) de_int))) da_nil)) (de_tup (da_cons (de_callB call_lenV (by rfl) T.n_len (by decide +kernel) (da_cons (de_var (pv 0)) da_nil)) da_nil))))) dss_nil)
      (dss_cons (ds_if (dt_cmp (op_eqV c.room.units) (de_var (pv 5)) de_int (nomark _)) (dss_one (ds_set nd_law_bad_key (i := 6) rfl (by first | exact .inl rfl | exact .inr rfl) (de_bin op_addD (de_tup (da_cons (de_un un_negD de_int) da_nil)) (de_callTy call_tupleV (by rfl) T.n_tuple (by decide +kernel) (da_cons (de_slice sl_D (de_var (pv 3)) do_none (do_some (de_bin op_modD (de_callTy call_intX (by rfl) T.n_int (by decide +kernel) (da_cons (de_ix ix_D (de_var (pv 2)) de_int (fun _ _ => rfl)) da_nil)) de_int))) da_nil))))) dss_nil)
      (dss_cons (ds_if (DW.dt (dw_and (dt_cmp (op_eqV c.room.units) (de_var (pv 5)) de_int (nomark _)) (dw_and1 (dt_cmp (op_neV c.room.units) (de_var (pv 3)) (DN.de (dn_lst da_nil)) (nomark _))))) (dss_one (ds_set nd_law_bad_key (i := 6) rfl (by first | exact .inl rfl | exact .inr rfl) (de_tup (da_cons (de_ix ix_D (de_var (pv 3)) de_int (fun _ _ => rfl)) (da_cons (de_ix ix_D (de_var (pv 3)) de_int (fun _ _ => rfl)) da_nil))))) dss_nil)
      (dss_cons (ds_if (DW.dt (dw_and (dt_cmp (op_eqV c.room.units) (de_var (pv 5)) de_int (nomark _)) (dw_and1 (dt_cmp (op_gtV c.room.units) (de_callB call_lenV (by rfl) T.n_len (by decide +kernel) (da_cons (de_var (pv 3)) da_nil)) de_int (nomark _))))) (dss_one (ds_set nd_law_bad_key (i := 6) rfl (by first | exact .inl rfl | exact .inr rfl) (de_tup (da_cons (de_ix ix_D (de_var (pv 3)) de_int (fun _ _ => rfl)) (da_cons (de_ix ix_D (de_var (pv 3)) de_int (fun _ _ => rfl)) da_nil))))) dss_nil)
      (dss_cons (ds_set nd_law_bad_key (i := 8) rfl (by first | exact .inl rfl | exact .inr rfl) (de_bin op_modD (de_callTy call_intX (by rfl) T.n_int (by decide +kernel) (da_cons (de_ix ix_D (de_var (pv 2)) de_int (fun _ _ => rfl)) da_nil)) (de_bin op_addD (de_callB call_lenV (by rfl) T.n_len (by decide +kernel) (da_cons (de_var (pv 1)) da_nil)) de_int)))
      (dss_one (ds_ret (de_bin op_addD (de_bin op_addD (de_slice sl_D (de_slice sl_D (de_var (pv 1)) do_none (do_some (de_var (pv 8)))) do_none (do_some de_int)) (de_tup (da_cons (de_var (pv 6)) da_nil))) (de_slice sl_D (de_slice sl_D (de_var (pv 1)) (do_some (de_var (pv 8))) do_none) do_none (do_some de_int)))))))))))))))) fun ds _ => .inr rfl
def g_law_misshapen : Sls → Out :=
    (gSeq (gSet 5 (d2 ixD (dVar 1) (dVar 3)))
    (gSeq (gIf (dB (d2 eqD (dVar 4) (fun _ => .ok (.int 0))))
    (gRet (dL tupD (dCons (dVar 0) (dCons (dVar 1) dNil))))
    gNext)
    (gSeq (gIf (dB (d2 eqD (dVar 4) (fun _ => .ok (.int 1))))
    (gRet (dL tupD (dCons (dVar 0) (dCons (dVar 1) (dCons (dVar 2) (dCons (dL tupD dNil) dNil))))))
    gNext)
    (gSeq (gIf (dB (d2 eqD (dVar 4) (fun _ => .ok (.int 2))))
    (gRet (dL tupD (dCons (dVar 0) (dCons (dCall m_law_with (dCons (dVar 1) (dCons (dVar 3) (dCons (dSl slD (dVar 5) (fun _ => .ok none) (dPart (fun _ => .ok (.int 2)))) dNil)))) (dCons (dL tupD dNil) dNil)))))
    gNext)
    (gSeq (gIf (dB (d2 eqD (dVar 4) (fun _ => .ok (.int 3))))
    (gRet (dL tupD (dCons (dVar 0) (dCons (dCall m_law_with (dCons (dVar 1) (dCons (dVar 3) (dCons (d2 addD (dVar 5) (dL tupD (dCons (fun _ => .ok (.bool true)) dNil))) dNil)))) (dCons (dL tupD dNil) dNil)))))
    gNext)
    (gSeq (gIf (dB (d2 eqD (dVar 4) (fun _ => .ok (.int 4))))
    (gRet (dL tupD (dCons (dVar 0) (dCons (dCall m_law_with (dCons (dVar 1) (dCons (dVar 3) (dCons (d2 ixD (dVar 5) (fun _ => .ok (.int 0))) dNil)))) (dCons (dL tupD dNil) dNil)))))
    gNext)
    (gSeq (gIf (dB (d2 eqD (dVar 4) (fun _ => .ok (.int 5))))
    (gRet (dL tupD (dCons (dVar 0) (dCons (dVar 1) (dCons (dL tupD (dCons (fun _ => .ok (.int 0)) dNil)) dNil)))))
    gNext)
    (gRet (d2 ixD (dFr (dDisp (dCons (fun _ => .ok .none) (dCons (fun _ => .ok (.int 7)) (dCons (fun _ => .ok (.str (Str.ofString "t"))) (dCons (dL tupD dNil) (dCons (dL tupD (dCons (dVar 0) (dCons (fun _ => .ok .none) (dCons (dL tupD dNil) dNil)))) (dCons (dL tupD (dCons (dVar 0) (dCons (dVar 1) (dCons (fun _ => .ok .none) dNil)))) dNil)))))))) (d2 subD (dVar 4) (fun _ => .ok (.int 6))))))))))))
@[simp] theorem st_law_misshapen (x0 x1 x2 x3 x4 : PyData) : st0 n_law_misshapen [x0, x1, x2, x3, x4] = [.val x0, .val x1, .val x2, .val x3, .val x4, .un] := rfl
def m_law_misshapen (ds : List PyData) : Res PyData := outR (g_law_misshapen (st0 n_law_misshapen ds))
theorem D_law_misshapen {P : Program} {w : World} {K : PySem.W.Frag} {mg : Str → Option Value} {base : Heap} (T : Tx w K mg) : FnD P w K mg base 2 T.a_law_misshapen T.d_law_misshapen ["name", "columns", "keys", "at", "way"] m_law_misshapen :=
  have D_law_with := D_law_with (P := P) (w := w) (base := base) T
  fn_D (g := g_law_misshapen) T.F_law_misshapen sc_law_misshapen (by decide) (fun cdv A outer s H E Fz c =>
      (dss_cons (ds_set nd_law_misshapen (i := 5) rfl (by first | exact .inl rfl | exact .inr rfl) (de_ix ix_D (de_var (pv 1)) (de_var (pv 3)) (fun _ _ => rfl)))
      (dss_cons (ds_if (dt_cmp (op_eqV c.room.units) (de_var (pv 4)) de_int (nomark _)) (dss_one (ds_ret (de_tup (da_cons (de_var (pv 0)) (da_cons (de_var (pv 1)) da_nil))))) dss_nil)
      (dss_cons (ds_if (dt_cmp (op_eqV c.room.units) (de_var (pv 4)) de_int (nomark _)) (dss_one (ds_ret (de_tup (da_cons (de_var (pv 0)) (da_cons (de_var (pv 1)) (da_cons (de_var (pv 2)) (da_cons (de_tup da_nil) da_nil))))))) dss_nil)
      (dss_cons (ds_if (dt_cmp (op_eqV c.room.units) (de_var (pv 4)) de_int (nomark _)) (dss_one (ds_ret (de_tup (da_cons (de_var (pv 0)) (da_cons (de_call D_law_with c (by decide) (by rfl) T.g_law_with T.F_law_with.kp T.b_law_with (da_cons (de_var (pv 1)) (da_cons (de_var (pv 3)) (da_cons (de_slice sl_D (de_var (pv 5)) do_none (do_some de_int)) da_nil))) (dCons_len (dCons_len (dCons_len nil_len)))) (da_cons (de_tup da_nil) da_nil)))))) dss_nil)
      (dss_cons (ds_if (dt_cmp (op_eqV c.room.units) (de_var (pv 4)) de_int (nomark _)) (dss_one (ds_ret (de_tup (da_cons (de_var (pv 0)) (da_cons (de_call D_law_with c (by decide) (by rfl) T.g_law_with T.F_law_with.kp T.b_law_with (da_cons (de_var (pv 1)) (da_cons (de_var (pv 3)) (da_cons (de_bin op_addD (de_var (pv 5)) (de_tup (da_cons de_bl da_nil))) da_nil))) (dCons_len (dCons_len (dCons_len nil_len)))) (da_cons (de_tup da_nil) da_nil)))))) dss_nil)
      (dss_cons (ds_if (dt_cmp (op_eqV c.room.units) (de_var (pv 4)) de_int (nomark _)) (dss_one (ds_ret (de_tup (da_cons (de_var (pv 0)) (da_cons (de_call D_law_with c (by decide) (by rfl) T.g_law_with T.F_law_with.kp T.b_law_with (da_cons (de_var (pv 1)) (da_cons (de_var (pv 3)) (da_cons (de_ix ix_D (de_var (pv 5)) de_int (fun _ _ => rfl)) da_nil))) (dCons_len (dCons_len (dCons_len nil_len)))) (da_cons (de_tup da_nil) da_nil)))))) dss_nil)
      (dss_cons (ds_if (dt_cmp (op_eqV c.room.units) (de_var (pv 4)) de_int (nomark _)) (dss_one (ds_ret (de_tup (da_cons (de_var (pv 0)) (da_cons (de_var (pv 1)) (da_cons (de_tup (da_cons de_int da_nil)) da_nil)))))) dss_nil)
      (dss_one (ds_ret (de_ix ix_D (DN.de (dn_lst (da_cons de_non (da_cons de_int (da_cons de_str (da_cons (de_tup da_nil) (da_cons (de_tup (da_cons (de_var (pv 0)) (da_cons de_non (da_cons (de_tup da_nil) da_nil)))) (da_cons (de_tup (da_cons (de_var (pv 0)) (da_cons (de_var (pv 1)) (da_cons de_non da_nil)))) da_nil)))))))) (de_bin op_subD (de_var (pv 4)) de_int) (fun _ _ => rfl)))))))))))) fun ds _ => .inr rfl
def e1_law_changed : Sls → Res PyData :=
    (dL tupD (dCons (d2 addD (fun _ => .ok (.str (Str.ofString "k"))) (dVar 10)) (dCons (fun _ => .ok (.str (Str.ofString "int"))) (dCons (fun _ => .ok (.bool false)) dNil))))
def e2_law_changed : Sls → Res PyData :=
    (dL tupD (dCons (d2 addD (fun _ => .ok (.str (Str.ofString "c"))) (d2 ixD (fun _ => .ok (.str (Str.ofString "abcdefghijklm"))) (dVar 11))) (dCons (fun _ => .ok (.str (Str.ofString "int"))) (dCons (fun _ => .ok (.bool true)) dNil))))
def g_law_changed : Sls → Out :=
    (gSeq (gSet 2 (d2 ixD (dVar 0) (fun _ => .ok (.int 0))))
    (gSeq (gSet 3 (d2 ixD (dVar 0) (fun _ => .ok (.int 1))))
    (gSeq (gSet 4 (d2 ixD (dVar 0) (fun _ => .ok (.int 2))))
    (gSeq (gSet 5 (d2 modD (dL intXD (dCons (d2 ixD (dVar 1) (fun _ => .ok (.int 5))) dNil)) (dL lenD (dCons (dVar 3) dNil))))
    (gSeq (gSet 6 (d2 ixD (dVar 3) (dVar 5)))
    (gSeq (gSet 7 (d2 modD (dL intXD (dCons (d2 ixD (dVar 1) (fun _ => .ok (.int 0))) dNil)) (fun _ => .ok (.int 12))))
    (gSeq (gIf (dB (d2 eqD (dVar 7) (fun _ => .ok (.int 9))))
    (gRet (dL tupD (dCons (dVar 2) (dCons (dL tupleD (dCons (dFr (dLc (dItems (fun _ => .ok (.str (Str.ofString "abcde")))) (bName 10) tYesD e1_law_changed [10])) dNil)) (dCons (dL tupD (dCons (dL tupD (dCons (fun _ => .ok (.int 0)) dNil)) (dCons (dL tupD (dCons (fun _ => .ok (.int 1)) dNil)) (dCons (dL tupD (dCons (fun _ => .ok (.int 2)) dNil)) (dCons (dL tupD (dCons (fun _ => .ok (.int 3)) dNil)) (dCons (dL tupD (dCons (fun _ => .ok (.int 4)) dNil)) dNil)))))) dNil)))))
    gNext)
    (gSeq (gIf (dB (d2 eqD (dVar 7) (fun _ => .ok (.int 10))))
    (gSeq (gSet 8 (d2 ixD (dFr (dDisp (dCons (dL tupD (dCons (dL tupD (dCons (fun _ => .ok (.bool false)) dNil)) dNil)) (dCons (dL tupD (dCons (dL tupD (dCons (fun _ => .ok (.bool true)) dNil)) dNil)) (dCons (dL tupD (dCons (dL tupD (dCons (fun _ => .ok (.int 0)) (dCons (fun _ => .ok (.bool true)) dNil))) dNil)) (dCons (dL tupD (dCons (dL tupD (dCons (fun _ => .ok (.int 1)) dNil)) (dCons (dL tupD (dCons (fun _ => .ok (.bool false)) (dCons (fun _ => .ok (.int 1)) dNil))) dNil))) dNil)))))) (d2 modD (dL intXD (dCons (d2 ixD (dVar 1) (fun _ => .ok (.int 1))) dNil)) (fun _ => .ok (.int 4)))))
    (gRet (dL tupD (dCons (dVar 2) (dCons (dL tupD (dCons (dL tupD (dCons (fun _ => .ok (.str (Str.ofString "k"))) (dCons (fun _ => .ok (.str (Str.ofString "int"))) (dCons (fun _ => .ok (.bool false)) dNil)))) (dCons (dL tupD (dCons (fun _ => .ok (.str (Str.ofString "n"))) (dCons (fun _ => .ok (.str (Str.ofString "text"))) (dCons (fun _ => .ok (.bool false)) dNil)))) dNil))) (dCons (dVar 8) dNil))))))
    gNext)
    (gSeq (gIf (dB (d2 eqD (dVar 7) (fun _ => .ok (.int 11))))
    (gRet (dCall m_law_misshapen (dCons (dVar 2) (dCons (dVar 3) (dCons (dVar 4) (dCons (dVar 5) (dCons (d2 modD (dL intXD (dCons (d2 ixD (dVar 1) (fun _ => .ok (.int 1))) dNil)) (fun _ => .ok (.int 12))) dNil)))))))
    gNext)
    (gSeq (gIf (dB (d2 eqD (dVar 7) (fun _ => .ok (.int 0))))
    (gRet (dL tupD (dCons (dCall m_law_bad_name (dCons (dVar 1) dNil)) (dCons (dVar 3) (dCons (dVar 4) dNil)))))
    gNext)
    (gSeq (gIf (dB (d2 eqD (dVar 7) (fun _ => .ok (.int 1))))
    (gRet (dL tupD (dCons (dVar 2) (dCons (dCall m_law_with (dCons (dVar 3) (dCons (dVar 5) (dCons (dL tupD (dCons (dCall m_law_bad_name (dCons (dVar 1) dNil)) (dCons (d2 ixD (dVar 6) (fun _ => .ok (.int 1))) (dCons (d2 ixD (dVar 6) (fun _ => .ok (.int 2))) dNil)))) dNil)))) (dCons (dVar 4) dNil)))))
    gNext)
    (gSeq (gIf (dB (d2 eqD (dVar 7) (fun _ => .ok (.int 2))))
    (gRet (dL tupD (dCons (dVar 2) (dCons (dL tupD dNil) (dCons (dL tupD dNil) dNil)))))
    gNext)
    (gSeq (gIf (dB (d2 eqD (dVar 7) (fun _ => .ok (.int 3))))
    (gRet (dL tupD (dCons (dVar 2) (dCons (dL tupleD (dCons (dFr (dLc (dRng rng1 (dCons (fun _ => .ok (.int 13)) dNil)) (bName 11) tYesD e2_law_changed [11])) dNil)) (dCons (dL tupD dNil) dNil)))))
    gNext)
    (gSeq (gIf (dAnd (dB (d2 eqD (dVar 7) (fun _ => .ok (.int 4)))) (dAnd (dB (d2 gtV (dL lenD (dCons (dVar 3) dNil)) (fun _ => .ok (.int 1)))) (dB (d2 eqD (d2 modD (dL intXD (dCons (d2 ixD (dVar 1) (fun _ => .ok (.int 1))) dNil)) (fun _ => .ok (.int 2))) (fun _ => .ok (.int 0))))))
    (gSeq (gSet 9 (d2 ixD (dVar 3) (d2 modD (d2 addD (d2 addD (dVar 5) (fun _ => .ok (.int 1))) (d2 modD (dL intXD (dCons (d2 ixD (dVar 1) (fun _ => .ok (.int 2))) dNil)) (d2 subD (dL lenD (dCons (dVar 3) dNil)) (fun _ => .ok (.int 1))))) (dL lenD (dCons (dVar 3) dNil)))))
    (gRet (dL tupD (dCons (dVar 2) (dCons (dCall m_law_with (dCons (dVar 3) (dCons (dVar 5) (dCons (dL tupD (dCons (d2 ixD (dVar 9) (fun _ => .ok (.int 0))) (dCons (d2 ixD (dVar 6) (fun _ => .ok (.int 1))) (dCons (d2 ixD (dVar 6) (fun _ => .ok (.int 2))) dNil)))) dNil)))) (dCons (dL tupD dNil) dNil))))))
    gNext)
    (gSeq (gIf (dB (d2 eqD (dVar 7) (fun _ => .ok (.int 4))))
    (gRet (dL tupD (dCons (dVar 2) (dCons (d2 addD (dSl slD (dVar 3) (fun _ => .ok none) (dPart (fun _ => .ok (.int 11)))) (dL tupD (dCons (d2 addD (dSl slD (d2 ixD (dVar 3) (d2 modD (dL intXD (dCons (d2 ixD (dVar 1) (fun _ => .ok (.int 5))) dNil)) (dL min2D (dCons (fun _ => .ok (.int 11)) (dCons (dL lenD (dCons (dVar 3) dNil)) dNil))))) (fun _ => .ok none) (dPart (fun _ => .ok (.int 2)))) (dL tupD (dCons (fun _ => .ok (.bool true)) dNil))) dNil))) (dCons (dL tupD dNil) dNil)))))
    gNext)
    (gSeq (gIf (dB (d2 eqD (dVar 7) (fun _ => .ok (.int 5))))
    (gRet (dL tupD (dCons (dVar 2) (dCons (dCall m_law_with (dCons (dVar 3) (dCons (dVar 5) (dCons (dL tupD (dCons (d2 ixD (dVar 6) (fun _ => .ok (.int 0))) (dCons (d2 ixD (dFr (dDisp (dCons (fun _ => .ok (.str (Str.ofString "float"))) (dCons (fun _ => .ok (.str (Str.ofString ""))) (dCons (fun _ => .ok .none) (dCons (fun _ => .ok (.str (Str.ofString "Int"))) dNil)))))) (d2 modD (dL intXD (dCons (d2 ixD (dVar 1) (fun _ => .ok (.int 1))) dNil)) (fun _ => .ok (.int 4)))) (dCons (d2 ixD (dVar 6) (fun _ => .ok (.int 2))) dNil)))) dNil)))) (dCons (dL tupD dNil) dNil)))))
    gNext)
    (gSeq (gIf (dB (d2 eqD (dVar 7) (fun _ => .ok (.int 6))))
    (gRet (dL tupD (dCons (dVar 2) (dCons (dCall m_law_with (dCons (dVar 3) (dCons (dVar 5) (dCons (dL tupD (dCons (d2 ixD (dVar 6) (fun _ => .ok (.int 0))) (dCons (d2 ixD (dVar 6) (fun _ => .ok (.int 1))) (dCons (d2 ixD (dFr (dDisp (dCons (fun _ => .ok .none) (dCons (fun _ => .ok (.int 2)) (dCons (fun _ => .ok (.str (Str.ofString ""))) (dCons (fun _ => .ok (.str (Str.ofString "yes"))) dNil)))))) (d2 modD (dL intXD (dCons (d2 ixD (dVar 1) (fun _ => .ok (.int 1))) dNil)) (fun _ => .ok (.int 4)))) dNil)))) dNil)))) (dCons (dL tupD dNil) dNil)))))
    gNext)
    (gSeq (gIf (dAnd (dB (d2 eqD (dVar 7) (fun _ => .ok (.int 7)))) (dB (d2 neD (dVar 4) (dL tupD dNil))))
    (gSeq (gSet 9 (dL tupD (dCons (d2 ixD (dVar 4) (d2 modD (dL intXD (dCons (d2 ixD (dVar 1) (fun _ => .ok (.int 1))) dNil)) (dL lenD (dCons (dVar 4) dNil)))) dNil)))
    (gRet (dL tupD (dCons (dVar 2) (dCons (dVar 3) (dCons (d2 ixD (dFr (dDisp (dCons (d2 addD (dVar 4) (dVar 9)) (dCons (d2 addD (dVar 9) (dVar 4)) dNil)))) (d2 modD (dL intXD (dCons (d2 ixD (dVar 1) (fun _ => .ok (.int 2))) dNil)) (fun _ => .ok (.int 2)))) dNil))))))
    gNext)
    (gRet (dL tupD (dCons (dVar 2) (dCons (dVar 3) (dCons (dCall m_law_bad_key (dCons (dVar 3) (dCons (dVar 4) (dCons (dVar 1) dNil)))) dNil)))))))))))))))))))))))
@[simp] theorem st_law_changed (x0 x1 : PyData) : st0 n_law_changed [x0, x1] = [.val x0, .val x1, .un, .un, .un, .un, .un, .un, .un, .un, .un, .un] := rfl
def m_law_changed (ds : List PyData) : Res PyData := outR (g_law_changed (st0 n_law_changed ds))
theorem D_law_changed {P : Program} {w : World} {K : PySem.W.Frag} {mg : Str → Option Value} {base : Heap} (T : Tx w K mg) : FnD P w K mg base 3 T.a_law_changed T.d_law_changed ["schema", "draws"] m_law_changed :=
  have D_law_misshapen := D_law_misshapen (P := P) (w := w) (base := base) T
  have D_law_bad_name := D_law_bad_name (P := P) (w := w) (base := base) T
  have D_law_with := D_law_with (P := P) (w := w) (base := base) T
  have D_law_bad_key := D_law_bad_key (P := P) (w := w) (base := base) T
  fn_D (g := g_law_changed) T.F_law_changed sc_law_changed (by decide) (fun cdv A outer s H E Fz c =>
      (dss_cons (ds_set nd_law_changed (i := 2) rfl (by first | exact .inl rfl | exact .inr rfl) (de_ix ix_D (de_var (pv 0)) de_int (fun _ _ => rfl)))
      (dss_cons (ds_set nd_law_changed (i := 3) rfl (by first | exact .inl rfl | exact .inr rfl) (de_ix ix_D (de_var (pv 0)) de_int (fun _ _ => rfl)))
      (dss_cons (ds_set nd_law_changed (i := 4) rfl (by first | exact .inl rfl | exact .inr rfl) (de_ix ix_D (de_var (pv 0)) de_int (fun _ _ => rfl)))
      (dss_cons (ds_set nd_law_changed (i := 5) rfl (by first | exact .inl rfl | exact .inr rfl) (de_bin op_modD (de_callTy call_intX (by rfl) T.n_int (by decide +kernel) (da_cons (de_ix ix_D (de_var (pv 1)) de_int (fun _ _ => rfl)) da_nil)) (de_callB call_lenV (by rfl) T.n_len (by decide +kernel) (da_cons (de_var (pv 3)) da_nil))))
      (dss_cons (ds_set nd_law_changed (i := 6) rfl (by first | exact .inl rfl | exact .inr rfl) (de_ix ix_D (de_var (pv 3)) (de_var (pv 5)) (fun _ _ => rfl)))
      (dss_cons (ds_set nd_law_changed (i := 7) rfl (by first | exact .inl rfl | exact .inr rfl) (de_bin op_modD (de_callTy call_intX (by rfl) T.n_int (by decide +kernel) (da_cons (de_ix ix_D (de_var (pv 1)) de_int (fun _ _ => rfl)) da_nil)) de_int))
      (dss_cons (ds_if (dt_cmp (op_eqV c.room.units) (de_var (pv 7)) de_int (nomark _)) (dss_one (ds_ret (de_tup (da_cons (de_var (pv 2)) (da_cons (de_callTy call_tupleV (by rfl) T.n_tuple (by decide +kernel) (da_cons (DN.de (dn_lc (own := [("sign", 10)]) c nd_law_changed (di_any de_str) (blkOk_by (N := n_law_changed) (sc := defScope s_law_changed) (by decide +kernel)) (by decide) (fun _ _ _ _ _ c => (dg_name nd_law_changed (i := 10) rfl (by first | exact .inl rfl | exact .inr rfl))) (fun _ _ _ _ _ c => dts_nil) (fun _ _ _ _ _ c => (de_tup (da_cons (de_bin op_addD de_str (de_var (pv 10))) (da_cons de_str (da_cons de_bl da_nil))))))) da_nil)) (da_cons (de_tup (da_cons (de_tup (da_cons de_int da_nil)) (da_cons (de_tup (da_cons de_int da_nil)) (da_cons (de_tup (da_cons de_int da_nil)) (da_cons (de_tup (da_cons de_int da_nil)) (da_cons (de_tup (da_cons de_int da_nil)) da_nil)))))) da_nil)))))) dss_nil)
      (dss_cons (ds_if (dt_cmp (op_eqV c.room.units) (de_var (pv 7)) de_int (nomark _)) (dss_cons (ds_set nd_law_changed (i := 8) rfl (by first | exact .inl rfl | exact .inr rfl) (de_ix ix_D (DN.de (dn_lst (da_cons (de_tup (da_cons (de_tup (da_cons de_bl da_nil)) da_nil)) (da_cons (de_tup (da_cons (de_tup (da_cons de_bl da_nil)) da_nil)) (da_cons (de_tup (da_cons (de_tup (da_cons de_int (da_cons de_bl da_nil))) da_nil)) (da_cons (de_tup (da_cons (de_tup (da_cons de_int da_nil)) (da_cons (de_tup (da_cons de_bl (da_cons de_int da_nil))) da_nil))) da_nil)))))) (de_bin op_modD (de_callTy call_intX (by rfl) T.n_int (by decide +kernel) (da_cons (de_ix ix_D (de_var (pv 1)) de_int (fun _ _ => rfl)) da_nil)) de_int) (fun _ _ => rfl)))
      (dss_one (ds_ret (de_tup (da_cons (de_var (pv 2)) (da_cons (de_tup (da_cons (de_tup (da_cons de_str (da_cons de_str (da_cons de_bl da_nil)))) (da_cons (de_tup (da_cons de_str (da_cons de_str (da_cons de_bl da_nil)))) da_nil))) (da_cons (de_var (pv 8)) da_nil))))))) dss_nil)
      (dss_cons (ds_if (dt_cmp (op_eqV c.room.units) (de_var (pv 7)) de_int (nomark _)) (dss_one (ds_ret (de_call D_law_misshapen c (by decide) (by rfl) T.g_law_misshapen T.F_law_misshapen.kp T.b_law_misshapen (da_cons (de_var (pv 2)) (da_cons (de_var (pv 3)) (da_cons (de_var (pv 4)) (da_cons (de_var (pv 5)) (da_cons (de_bin op_modD (de_callTy call_intX (by rfl) T.n_int (by decide +kernel) (da_cons (de_ix ix_D (de_var (pv 1)) de_int (fun _ _ => rfl)) da_nil)) de_int) da_nil))))) (dCons_len (dCons_len (dCons_len (dCons_len (dCons_len nil_len)))))))) dss_nil)
      (dss_cons (ds_if (dt_cmp (op_eqV c.room.units) (de_var (pv 7)) de_int (nomark _)) (dss_one (ds_ret (de_tup (da_cons (de_call D_law_bad_name c (by decide) (by rfl) T.g_law_bad_name T.F_law_bad_name.kp T.b_law_bad_name (da_cons (de_var (pv 1)) da_nil) (dCons_len nil_len)) (da_cons (de_var (pv 3)) (da_cons (de_var (pv 4)) da_nil)))))) dss_nil)
      (dss_cons (ds_if (dt_cmp (op_eqV c.room.units) (de_var (pv 7)) de_int (nomark _)) (dss_one (ds_ret (de_tup (da_cons (de_var (pv 2)) (da_cons (de_call D_law_with c (by decide) (by rfl) T.g_law_with T.F_law_with.kp T.b_law_with (da_cons (de_var (pv 3)) (da_cons (de_var (pv 5)) (da_cons (de_tup (da_cons (de_call D_law_bad_name c (by decide) (by rfl) T.g_law_bad_name T.F_law_bad_name.kp T.b_law_bad_name (da_cons (de_var (pv 1)) da_nil) (dCons_len nil_len)) (da_cons (de_ix ix_D (de_var (pv 6)) de_int (fun _ _ => rfl)) (da_cons (de_ix ix_D (de_var (pv 6)) de_int (fun _ _ => rfl)) da_nil)))) da_nil))) (dCons_len (dCons_len (dCons_len nil_len)))) (da_cons (de_var (pv 4)) da_nil)))))) dss_nil)
      (dss_cons (ds_if (dt_cmp (op_eqV c.room.units) (de_var (pv 7)) de_int (nomark _)) (dss_one (ds_ret (de_tup (da_cons (de_var (pv 2)) (da_cons (de_tup da_nil) (da_cons (de_tup da_nil) da_nil)))))) dss_nil)
      (dss_cons (ds_if (dt_cmp (op_eqV c.room.units) (de_var (pv 7)) de_int (nomark _)) (dss_one (ds_ret (de_tup (da_cons (de_var (pv 2)) (da_cons (de_callTy call_tupleV (by rfl) T.n_tuple (by decide +kernel) (da_cons (DN.de (dn_lc (own := [("k", 11)]) c nd_law_changed (di_range1 (by rfl) T.n_range (da_cons de_int da_nil)) (blkOk_by (N := n_law_changed) (sc := defScope s_law_changed) (by decide +kernel)) (by decide) (fun _ _ _ _ _ c => (dg_name nd_law_changed (i := 11) rfl (by first | exact .inl rfl | exact .inr rfl))) (fun _ _ _ _ _ c => dts_nil) (fun _ _ _ _ _ c => (de_tup (da_cons (de_bin op_addD de_str (de_ix ix_D de_str (de_var (pv 11)) (fun _ _ => rfl))) (da_cons de_str (da_cons de_bl da_nil))))))) da_nil)) (da_cons (de_tup da_nil) da_nil)))))) dss_nil)
      (dss_cons (ds_if (DW.dt (dw_and (dt_cmp (op_eqV c.room.units) (de_var (pv 7)) de_int (nomark _)) (dw_and (dt_cmp (op_gtV c.room.units) (de_callB call_lenV (by rfl) T.n_len (by decide +kernel) (da_cons (de_var (pv 3)) da_nil)) de_int (nomark _)) (dw_and1 (dt_cmp (op_eqV c.room.units) (de_bin op_modD (de_callTy call_intX (by rfl) T.n_int (by decide +kernel) (da_cons (de_ix ix_D (de_var (pv 1)) de_int (fun _ _ => rfl)) da_nil)) de_int) de_int (nomark _)))))) (dss_cons (ds_set nd_law_changed (i := 9) rfl (by first | exact .inl rfl | exact .inr rfl) (de_ix ix_D (de_var (pv 3)) (de_bin op_modD (de_bin op_addD (de_bin op_addD (de_var (pv 5)) de_int) (de_bin op_modD (de_callTy call_intX (by rfl) T.n_int (by decide +kernel) (da_cons (de_ix ix_D (de_var (pv 1)) de_int (fun _ _ => rfl)) da_nil)) (de_bin op_subD (de_callB call_lenV (by rfl) T.n_len (by decide +kernel) (da_cons (de_var (pv 3)) da_nil)) de_int))) (de_callB call_lenV (by rfl) T.n_len (by decide +kernel) (da_cons (de_var (pv 3)) da_nil))) (fun _ _ => rfl)))
      (dss_one (ds_ret (de_tup (da_cons (de_var (pv 2)) (da_cons (de_call D_law_with c (by decide) (by rfl) T.g_law_with T.F_law_with.kp T.b_law_with (da_cons (de_var (pv 3)) (da_cons (de_var (pv 5)) (da_cons (de_tup (da_cons (de_ix ix_D (de_var (pv 9)) de_int (fun _ _ => rfl)) (da_cons (de_ix ix_D (de_var (pv 6)) de_int (fun _ _ => rfl)) (da_cons (de_ix ix_D (de_var (pv 6)) de_int (fun _ _ => rfl)) da_nil)))) da_nil))) (dCons_len (dCons_len (dCons_len nil_len)))) (da_cons (de_tup da_nil) da_nil))))))) dss_nil)
      (dss_cons (ds_if (dt_cmp (op_eqV c.room.units) (de_var (pv 7)) de_int (nomark _)) (dss_one (ds_ret (de_tup (da_cons (de_var (pv 2)) (da_cons (de_bin op_addD (de_slice sl_D (de_var (pv 3)) do_none (do_some de_int)) (de_tup (da_cons (de_bin op_addD (de_slice sl_D (de_ix ix_D (de_var (pv 3)) (de_bin op_modD (de_callTy call_intX (by rfl) T.n_int (by decide +kernel) (da_cons (de_ix ix_D (de_var (pv 1)) de_int (fun _ _ => rfl)) da_nil)) (de_callB (call_min2W c.calm) (by rfl) T.n_min (by decide +kernel) (da_cons de_int (da_cons (de_callB call_lenV (by rfl) T.n_len (by decide +kernel) (da_cons (de_var (pv 3)) da_nil)) da_nil)))) (fun _ _ => rfl)) do_none (do_some de_int)) (de_tup (da_cons de_bl da_nil))) da_nil))) (da_cons (de_tup da_nil) da_nil)))))) dss_nil)
      (dss_cons (ds_if (dt_cmp (op_eqV c.room.units) (de_var (pv 7)) de_int (nomark _)) (dss_one (ds_ret (de_tup (da_cons (de_var (pv 2)) (da_cons (de_call D_law_with c (by decide) (by rfl) T.g_law_with T.F_law_with.kp T.b_law_with (da_cons (de_var (pv 3)) (da_cons (de_var (pv 5)) (da_cons (de_tup (da_cons (de_ix ix_D (de_var (pv 6)) de_int (fun _ _ => rfl)) (da_cons (de_ix ix_D (DN.de (dn_lst (da_cons de_str (da_cons de_str (da_cons de_non (da_cons de_str da_nil)))))) (de_bin op_modD (de_callTy call_intX (by rfl) T.n_int (by decide +kernel) (da_cons (de_ix ix_D (de_var (pv 1)) de_int (fun _ _ => rfl)) da_nil)) de_int) (fun _ _ => rfl)) (da_cons (de_ix ix_D (de_var (pv 6)) de_int (fun _ _ => rfl)) da_nil)))) da_nil))) (dCons_len (dCons_len (dCons_len nil_len)))) (da_cons (de_tup da_nil) da_nil)))))) dss_nil)
      (dss_cons (ds_if (dt_cmp (op_eqV c.room.units) (de_var (pv 7)) de_int (nomark _)) (dss_one (ds_ret (de_tup (da_cons (de_var (pv 2)) (da_cons (de_call D_law_with c (by decide) (by rfl) T.g_law_with T.F_law_with.kp T.b_law_with (da_cons (de_var (pv 3)) (da_cons (de_var (pv 5)) (da_cons (de_tup (da_cons (de_ix ix_D (de_var (pv 6)) de_int (fun _ _ => rfl)) (da_cons (de_ix ix_D (de_var (pv 6)) de_int (fun _ _ => rfl)) (da_cons (de_ix ix_D (DN.de (dn_lst (da_cons de_non (da_cons de_int (da_cons de_str (da_cons de_str da_nil)))))) (de_bin op_modD (de_callTy call_intX (by rfl) T.n_int (by decide +kernel) (da_cons (de_ix ix_D (de_var (pv 1)) de_int (fun _ _ => rfl)) da_nil)) de_int) (fun _ _ => rfl)) da_nil)))) da_nil))) (dCons_len (dCons_len (dCons_len nil_len)))) (da_cons (de_tup da_nil) da_nil)))))) dss_nil)
      (dss_cons (ds_if (DW.dt (dw_and (dt_cmp (op_eqV c.room.units) (de_var (pv 7)) de_int (nomark _)) (dw_and1 (dt_cmp (op_neV c.room.units) (de_var (pv 4)) (de_tup da_nil) (nomark _))))) (dss_cons (ds_set nd_law_changed (i := 9) rfl (by first | exact .inl rfl | exact .inr rfl) (de_tup (da_cons (de_ix ix_D (de_var (pv 4)) (de_bin op_modD (de_callTy call_intX (by rfl) T.n_int (by decide +kernel) (da_cons (de_ix ix_D (de_var (pv 1)) de_int (fun _ _ => rfl)) da_nil)) (de_callB call_lenV (by rfl) T.n_len (by decide +kernel) (da_cons (de_var (pv 4)) da_nil))) (fun _ _ => rfl)) da_nil)))
      (dss_one (ds_ret (de_tup (da_cons (de_var (pv 2)) (da_cons (de_var (pv 3)) (da_cons (de_ix ix_D (DN.de (dn_lst (da_cons (de_bin op_addD (de_var (pv 4)) (de_var (pv 9))) (da_cons (de_bin op_addD (de_var (pv 9)) (de_var (pv 4))) da_nil)))) (de_bin op_modD (de_callTy call_intX (by rfl) T.n_int (by decide +kernel) (da_cons (de_ix ix_D (de_var (pv 1)) de_int (fun _ _ => rfl)) da_nil)) de_int) (fun _ _ => rfl)) da_nil))))))) dss_nil)
      (dss_one (ds_ret (de_tup (da_cons (de_var (pv 2)) (da_cons (de_var (pv 3)) (da_cons (de_call D_law_bad_key c (by decide) (by rfl) T.g_law_bad_key T.F_law_bad_key.kp T.b_law_bad_key (da_cons (de_var (pv 3)) (da_cons (de_var (pv 4)) (da_cons (de_var (pv 1)) da_nil))) (dCons_len (dCons_len (dCons_len nil_len)))) da_nil))))))))))))))))))))))))) fun ds _ => .inr rfl
def b1_law_refused : Sls → Out :=
    (gDrop (dCall m_check_schema (dCons (dVar 0) dNil)))
def h2_law_refused (a : Addr) (x : Xn) : Sls → Out :=
    (gRet (dAndV (dIsE 1 a [("BadForm", true)] x) (dAndV (dIsE 1 a [("BadForm", true)] x) (d1 notD (dIsE 1 a [("BadForm", false)] x)))))
def g_law_refused : Sls → Out :=
    (gSeq (gTryR [("BadForm", true)] 1
    b1_law_refused
    h2_law_refused)
    (gRet (fun _ => .ok (.bool false))))
@[simp] theorem st_law_refused (x0 : PyData) : st0 n_law_refused [x0] = [.val x0, .un] := rfl
def m_law_refused (ds : List PyData) : Res PyData := outR (g_law_refused (st0 n_law_refused ds))
theorem D_law_refused {P : Program} {w : World} {K : PySem.W.Frag} {mg : Str → Option Value} {base : Heap} (T : Tx w K mg) : FnD P w K mg base 6 T.a_law_refused T.d_law_refused ["schema"] m_law_refused :=
  have D_check_schema := D_check_schema (P := P) (w := w) (base := base) T
  fn_D (g := g_law_refused) T.F_law_refused sc_law_refused (by decide) (fun cdv A outer s H E Fz c =>
      (dss_cons (ds_tryR (i := 1) c nd_law_refused rfl (by rfl) T.xg_BadForm T.xk_BadForm (fun W2 pn xe c => (dss_one (ds_expr (de_call D_check_schema c (by decide) (by rfl) T.g_check_schema T.F_check_schema.kp T.b_check_schema (da_cons (de_var (pv 0)) da_nil) (dCons_len nil_len))))) (fun a oe cls d pn x H1 hz hf hx xd => (dss_one (ds_ret (de_and (de_isE (i := 1) (vc := .ref T.xa_PeristyleError) T.xi_PeristyleError hz hf hx xd (pv 1) (pe_glob (by rfl) T.xg_PeristyleError rfl) (fun _ r => r) (by rfl) T.n_isinstance) (de_and (de_isE (i := 1) (vc := .ty "ValueError") T.xi_ValueError hz hf hx xd (pv 1) (pe_bltn (v := .ty "ValueError") (by rfl) T.n_ValueError (by decide +kernel) rfl) (fun _ r => r) (by rfl) T.n_isinstance) (de_one (de_not (de_isE (i := 1) (vc := .ref T.xa_BadName) T.xi_BadName hz hf hx xd (pv 1) (pe_glob (by rfl) T.xg_BadName rfl) (fun _ r => r) (by rfl) T.n_isinstance)))))))))
      (dss_one (ds_ret de_bl)))) fun ds _ => .inr rfl
def b1_law : Sls → Out :=
    (gSeq (gIf (dB (d2 isNotD (dCall m_check_schema (dCons (dVar 4) dNil)) (fun _ => .ok .none)))
    (gRet (fun _ => .ok (.bool false)))
    gNext)
    (gIf (dNot (dTru (dCall m_law_refused (dCons (dCall m_law_changed (dCons (dVar 4) (dCons (dCall m_law_draws (dCons (dCall m_law_cell (dCons (dVar 0) (dCons (d2 addD (fun _ => .ok (.int 15)) (dVar 5)) dNil))) (dCons (fun _ => .ok (.int 6)) dNil))) dNil))) dNil))))
    (gRet (fun _ => .ok (.bool false)))
    gNext))
def g_law : Sls → Out :=
    (gSeq (gSet 1 (dCall m_law_draws (dCons (dCall m_law_cell (dCons (dVar 0) (dCons (fun _ => .ok (.int 0)) dNil))) (dCons (fun _ => .ok (.int 20)) dNil))))
    (gSeq (gSet 2 (d2 addD (fun _ => .ok (.int 1)) (d2 modD (dL intXD (dCons (d2 ixD (dVar 1) (fun _ => .ok (.int 6))) dNil)) (fun _ => .ok (.int 6)))))
    (gSeq (gIf (dB (d2 eqD (d2 modD (dL intXD (dCons (d2 ixD (dVar 1) (fun _ => .ok (.int 7))) dNil)) (fun _ => .ok (.int 6))) (fun _ => .ok (.int 0))))
    (gSet 2 (fun _ => .ok (.int 12)))
    gNext)
    (gSeq (gSet 3 (dCall m_law_columns (dCons (dVar 0) (dCons (dVar 2) dNil))))
    (gSeq (gSet 4 (dL tupD (dCons (dCall m_law_name (dCons (dSl slD (dVar 1) (dPart (fun _ => .ok (.int 8))) (fun _ => .ok none)) dNil)) (dCons (dVar 3) (dCons (dCall m_law_keys (dCons (dVar 3) (dCons (dCall m_law_draws (dCons (dCall m_law_cell (dCons (dVar 0) (dCons (fun _ => .ok (.int 1)) dNil))) (dCons (fun _ => .ok (.int 6)) dNil))) dNil))) dNil)))))
    (gSeq (gFor (dRng rng1 (dCons (fun _ => .ok (.int 3)) dNil)) (bName 5)
    b1_law)
    (gRet (d2 isD (dCall m_check_schema (dCons (dVar 4) dNil)) (fun _ => .ok .none)))))))))
@[simp] theorem st_law (x0 : PyData) : st0 n_law [x0] = [.val x0, .un, .un, .un, .un, .un] := rfl
def m_law (ds : List PyData) : Res PyData := outR (g_law (st0 n_law ds))
theorem D_law {P : Program} {w : World} {K : PySem.W.Frag} {mg : Str → Option Value} {base : Heap} (T : Tx w K mg) : FnD P w K mg base 7 T.a_law T.d_law ["script"] m_law :=
  have D_law_draws := D_law_draws (P := P) (w := w) (base := base) T
  have D_law_cell := D_law_cell (P := P) (w := w) (base := base) T
  have D_law_columns := D_law_columns (P := P) (w := w) (base := base) T
  have D_law_keys := D_law_keys (P := P) (w := w) (base := base) T
  have D_law_name := D_law_name (P := P) (w := w) (base := base) T
  have D_check_schema := D_check_schema (P := P) (w := w) (base := base) T
  have D_law_refused := D_law_refused (P := P) (w := w) (base := base) T
  have D_law_changed := D_law_changed (P := P) (w := w) (base := base) T
  fn_D (g := g_law) T.F_law sc_law (by decide) (fun cdv A outer s H E Fz c =>
      (dss_cons (ds_set nd_law (i := 1) rfl (by first | exact .inl rfl | exact .inr rfl) (de_call D_law_draws c (by decide) (by rfl) T.g_law_draws T.F_law_draws.kp T.b_law_draws (da_cons (de_call D_law_cell c (by decide) (by rfl) T.g_law_cell T.F_law_cell.kp T.b_law_cell (da_cons (de_var (pv 0)) (da_cons de_int da_nil)) (dCons_len (dCons_len nil_len))) (da_cons de_int da_nil)) (dCons_len (dCons_len nil_len))))
      (dss_cons (ds_set nd_law (i := 2) rfl (by first | exact .inl rfl | exact .inr rfl) (de_bin op_addD de_int (de_bin op_modD (de_callTy call_intX (by rfl) T.n_int (by decide +kernel) (da_cons (de_ix ix_D (de_var (pv 1)) de_int (fun _ _ => rfl)) da_nil)) de_int)))
      (dss_cons (ds_if (dt_cmp (op_eqV c.room.units) (de_bin op_modD (de_callTy call_intX (by rfl) T.n_int (by decide +kernel) (da_cons (de_ix ix_D (de_var (pv 1)) de_int (fun _ _ => rfl)) da_nil)) de_int) de_int (nomark _)) (dss_one (ds_set nd_law (i := 2) rfl (by first | exact .inl rfl | exact .inr rfl) de_int)) dss_nil)
      (dss_cons (ds_set nd_law (i := 3) rfl (by first | exact .inl rfl | exact .inr rfl) (de_call D_law_columns c (by decide) (by rfl) T.g_law_columns T.F_law_columns.kp T.b_law_columns (da_cons (de_var (pv 0)) (da_cons (de_var (pv 2)) da_nil)) (dCons_len (dCons_len nil_len))))
      (dss_cons (ds_set nd_law (i := 4) rfl (by first | exact .inl rfl | exact .inr rfl) (de_tup (da_cons (de_call D_law_name c (by decide) (by rfl) T.g_law_name T.F_law_name.kp T.b_law_name (da_cons (de_slice sl_D (de_var (pv 1)) (do_some de_int) do_none) da_nil) (dCons_len nil_len)) (da_cons (de_var (pv 3)) (da_cons (de_call D_law_keys c (by decide) (by rfl) T.g_law_keys T.F_law_keys.kp T.b_law_keys (da_cons (de_var (pv 3)) (da_cons (de_call D_law_draws c (by decide) (by rfl) T.g_law_draws T.F_law_draws.kp T.b_law_draws (da_cons (de_call D_law_cell c (by decide) (by rfl) T.g_law_cell T.F_law_cell.kp T.b_law_cell (da_cons (de_var (pv 0)) (da_cons de_int da_nil)) (dCons_len (dCons_len nil_len))) (da_cons de_int da_nil)) (dCons_len (dCons_len nil_len))) da_nil)) (dCons_len (dCons_len nil_len))) da_nil)))))
      (dss_cons (ds_for c (di_range1 (by rfl) T.n_range (da_cons de_int da_nil)) (dg_name nd_law (i := 5) rfl (by first | exact .inl rfl | exact .inr rfl)) (dss_cons (ds_if (dt_cmp op_isNotD (de_call D_check_schema c (by decide) (by rfl) T.g_check_schema T.F_check_schema.kp T.b_check_schema (da_cons (de_var (pv 4)) da_nil) (dCons_len nil_len)) de_non (nomark _)) (dss_one (ds_ret de_bl)) dss_nil)
      (dss_one (ds_if (dt_not (dt_truth (de_call D_law_refused c (by decide) (by rfl) T.g_law_refused T.F_law_refused.kp T.b_law_refused (da_cons (de_call D_law_changed c (by decide) (by rfl) T.g_law_changed T.F_law_changed.kp T.b_law_changed (da_cons (de_var (pv 4)) (da_cons (de_call D_law_draws c (by decide) (by rfl) T.g_law_draws T.F_law_draws.kp T.b_law_draws (da_cons (de_call D_law_cell c (by decide) (by rfl) T.g_law_cell T.F_law_cell.kp T.b_law_cell (da_cons (de_var (pv 0)) (da_cons (de_bin op_addD de_int (de_var (pv 5))) da_nil)) (dCons_len (dCons_len nil_len))) (da_cons de_int da_nil)) (dCons_len (dCons_len nil_len))) da_nil)) (dCons_len (dCons_len nil_len))) da_nil) (dCons_len nil_len)))) (dss_one (ds_ret de_bl)) dss_nil))))
      (dss_one (ds_ret (de_cmp op_isD (de_call D_check_schema c (by decide) (by rfl) T.g_check_schema T.F_check_schema.kp T.b_check_schema (da_cons (de_var (pv 4)) da_nil) (dCons_len nil_len)) de_non (nomark _))))))))))) fun ds _ => .inr rfl

theorem all_mk {l : PySem.W.OpenLaw} {w : World} {K : PySem.W.Frag} {h : Heap} {mg : Str → Option Value} {fa : Addr} (X : K.In h) (G : h.Ns mainGlobals mg) (hfa : mg "law" = some (.ref fa))
    (pure : ∀ ns : List Int, ns.length ≤ 63 → m_law [.list (ns.map .int)] = .ok (.bool true))
    {fa0 : Addr} {od0 an0 : Option Addr} {sl0 : Array (Option Value)} {oc0 kV0 dc0 pm0 cd0 ct0 : Value}
    {fa1 : Addr} {od1 an1 : Option Addr} {sl1 : Array (Option Value)} {oc1 kV1 dc1 pm1 cd1 ct1 : Value}
    {fa2 : Addr} {od2 an2 : Option Addr} {sl2 : Array (Option Value)} {oc2 kV2 dc2 pm2 cd2 ct2 : Value}
    {fa3 : Addr} {od3 an3 : Option Addr} {sl3 : Array (Option Value)} {oc3 kV3 dc3 pm3 cd3 ct3 : Value}
    {fa4 : Addr} {od4 an4 : Option Addr} {sl4 : Array (Option Value)} {oc4 kV4 dc4 pm4 cd4 ct4 : Value}
    {fa5 : Addr} {od5 an5 : Option Addr} {sl5 : Array (Option Value)} {oc5 kV5 dc5 pm5 cd5 ct5 : Value}
    {fa6 : Addr} {od6 an6 : Option Addr} {sl6 : Array (Option Value)} {oc6 kV6 dc6 pm6 cd6 ct6 : Value}
    {fa7 : Addr} {od7 an7 : Option Addr} {sl7 : Array (Option Value)} {oc7 kV7 dc7 pm7 cd7 ct7 : Value}
    {fa8 : Addr} {od8 an8 : Option Addr} {sl8 : Array (Option Value)} {oc8 kV8 dc8 pm8 cd8 ct8 : Value}
    {fa9 : Addr} {od9 an9 : Option Addr} {sl9 : Array (Option Value)} {oc9 kV9 dc9 pm9 cd9 ct9 : Value}
    {fa10 : Addr} {od10 an10 : Option Addr} {sl10 : Array (Option Value)} {oc10 kV10 dc10 pm10 cd10 ct10 : Value}
    {fa11 : Addr} {od11 an11 : Option Addr} {sl11 : Array (Option Value)} {oc11 kV11 dc11 pm11 cd11 ct11 : Value}
    {fa12 : Addr} {od12 an12 : Option Addr} {sl12 : Array (Option Value)} {oc12 kV12 dc12 pm12 cd12 ct12 : Value}
    {fa13 : Addr} {od13 an13 : Option Addr} {sl13 : Array (Option Value)} {oc13 kV13 dc13 pm13 cd13 ct13 : Value}
    {fa14 : Addr} {od14 an14 : Option Addr} {sl14 : Array (Option Value)} {oc14 kV14 dc14 pm14 cd14 ct14 : Value}
    {fa15 : Addr} {od15 an15 : Option Addr} {sl15 : Array (Option Value)} {oc15 kV15 dc15 pm15 cd15 ct15 : Value}
    {fa16 : Addr} {od16 an16 : Option Addr} {sl16 : Array (Option Value)} {oc16 kV16 dc16 pm16 cd16 ct16 : Value}
    {fa17 : Addr} {od17 an17 : Option Addr} {sl17 : Array (Option Value)} {oc17 kV17 dc17 pm17 cd17 ct17 : Value}
    {fa18 : Addr} {od18 an18 : Option Addr} {sl18 : Array (Option Value)} {oc18 kV18 dc18 pm18 cd18 ct18 : Value}
    {fa19 : Addr} {od19 an19 : Option Addr} {sl19 : Array (Option Value)} {oc19 kV19 dc19 pm19 cd19 ct19 : Value}
    {fa20 : Addr} {od20 an20 : Option Addr} {sl20 : Array (Option Value)} {oc20 kV20 dc20 pm20 cd20 ct20 : Value}
    {fa21 : Addr} {od21 an21 : Option Addr} {sl21 : Array (Option Value)} {oc21 kV21 dc21 pm21 cd21 ct21 : Value}
    {fa22 : Addr} {od22 an22 : Option Addr} {sl22 : Array (Option Value)} {oc22 kV22 dc22 pm22 cd22 ct22 : Value}
    (a0 : PySem.W.nsIn K mainGlobals "is_figure" = some (some (.ref fa0))) (l0 : K.lookup fa0 = some ⟨oc0, od0, .func (PySem.W.fnOf "is_figure" "is_figure" (defArgs s_is_figure) (defBody s_is_figure) (defScope s_is_figure) .none kV0 dc0 pm0 an0 cd0 ct0), sl0⟩) (c0 : PySem.W.codeIn K cd0 "is_figure" = true) (k0 : PySem.W.keepIn K (.ref fa0) = true)
    (a1 : PySem.W.nsIn K mainGlobals "is_reserved" = some (some (.ref fa1))) (l1 : K.lookup fa1 = some ⟨oc1, od1, .func (PySem.W.fnOf "is_reserved" "is_reserved" (defArgs s_is_reserved) (defBody s_is_reserved) (defScope s_is_reserved) .none kV1 dc1 pm1 an1 cd1 ct1), sl1⟩) (c1 : PySem.W.codeIn K cd1 "is_reserved" = true) (k1 : PySem.W.keepIn K (.ref fa1) = true)
    (a2 : PySem.W.nsIn K mainGlobals "is_name" = some (some (.ref fa2))) (l2 : K.lookup fa2 = some ⟨oc2, od2, .func (PySem.W.fnOf "is_name" "is_name" (defArgs s_is_name) (defBody s_is_name) (defScope s_is_name) .none kV2 dc2 pm2 an2 cd2 ct2), sl2⟩) (c2 : PySem.W.codeIn K cd2 "is_name" = true) (k2 : PySem.W.keepIn K (.ref fa2) = true)
    (a3 : PySem.W.nsIn K mainGlobals "is_column" = some (some (.ref fa3))) (l3 : K.lookup fa3 = some ⟨oc3, od3, .func (PySem.W.fnOf "is_column" "is_column" (defArgs s_is_column) (defBody s_is_column) (defScope s_is_column) .none kV3 dc3 pm3 an3 cd3 ct3), sl3⟩) (c3 : PySem.W.codeIn K cd3 "is_column" = true) (k3 : PySem.W.keepIn K (.ref fa3) = true)
    (a4 : PySem.W.nsIn K mainGlobals "are_columns" = some (some (.ref fa4))) (l4 : K.lookup fa4 = some ⟨oc4, od4, .func (PySem.W.fnOf "are_columns" "are_columns" (defArgs s_are_columns) (defBody s_are_columns) (defScope s_are_columns) .none kV4 dc4 pm4 an4 cd4 ct4), sl4⟩) (c4 : PySem.W.codeIn K cd4 "are_columns" = true) (k4 : PySem.W.keepIn K (.ref fa4) = true)
    (a5 : PySem.W.nsIn K mainGlobals "is_key" = some (some (.ref fa5))) (l5 : K.lookup fa5 = some ⟨oc5, od5, .func (PySem.W.fnOf "is_key" "is_key" (defArgs s_is_key) (defBody s_is_key) (defScope s_is_key) .none kV5 dc5 pm5 an5 cd5 ct5), sl5⟩) (c5 : PySem.W.codeIn K cd5 "is_key" = true) (k5 : PySem.W.keepIn K (.ref fa5) = true)
    (a6 : PySem.W.nsIn K mainGlobals "are_keys" = some (some (.ref fa6))) (l6 : K.lookup fa6 = some ⟨oc6, od6, .func (PySem.W.fnOf "are_keys" "are_keys" (defArgs s_are_keys) (defBody s_are_keys) (defScope s_are_keys) .none kV6 dc6 pm6 an6 cd6 ct6), sl6⟩) (c6 : PySem.W.codeIn K cd6 "are_keys" = true) (k6 : PySem.W.keepIn K (.ref fa6) = true)
    (a7 : PySem.W.nsIn K mainGlobals "check_schema" = some (some (.ref fa7))) (l7 : K.lookup fa7 = some ⟨oc7, od7, .func (PySem.W.fnOf "check_schema" "check_schema" (defArgs s_check_schema) (defBody s_check_schema) (defScope s_check_schema) .none kV7 dc7 pm7 an7 cd7 ct7), sl7⟩) (c7 : PySem.W.codeIn K cd7 "check_schema" = true) (k7 : PySem.W.keepIn K (.ref fa7) = true)
    (a8 : PySem.W.nsIn K mainGlobals "_law_cell" = some (some (.ref fa8))) (l8 : K.lookup fa8 = some ⟨oc8, od8, .func (PySem.W.fnOf "_law_cell" "_law_cell" (defArgs s_law_cell) (defBody s_law_cell) (defScope s_law_cell) .none kV8 dc8 pm8 an8 cd8 ct8), sl8⟩) (c8 : PySem.W.codeIn K cd8 "_law_cell" = true) (k8 : PySem.W.keepIn K (.ref fa8) = true)
    (a9 : PySem.W.nsIn K mainGlobals "_law_mixed" = some (some (.ref fa9))) (l9 : K.lookup fa9 = some ⟨oc9, od9, .func (PySem.W.fnOf "_law_mixed" "_law_mixed" (defArgs s_law_mixed) (defBody s_law_mixed) (defScope s_law_mixed) .none kV9 dc9 pm9 an9 cd9 ct9), sl9⟩) (c9 : PySem.W.codeIn K cd9 "_law_mixed" = true) (k9 : PySem.W.keepIn K (.ref fa9) = true)
    (a10 : PySem.W.nsIn K mainGlobals "_law_draws" = some (some (.ref fa10))) (l10 : K.lookup fa10 = some ⟨oc10, od10, .func (PySem.W.fnOf "_law_draws" "_law_draws" (defArgs s_law_draws) (defBody s_law_draws) (defScope s_law_draws) .none kV10 dc10 pm10 an10 cd10 ct10), sl10⟩) (c10 : PySem.W.codeIn K cd10 "_law_draws" = true) (k10 : PySem.W.keepIn K (.ref fa10) = true)
    (a11 : PySem.W.nsIn K mainGlobals "_law_words" = some (some (.ref fa11))) (l11 : K.lookup fa11 = some ⟨oc11, od11, .func (PySem.W.fnOf "_law_words" "_law_words" (defArgs s_law_words) (defBody s_law_words) (defScope s_law_words) .none kV11 dc11 pm11 an11 cd11 ct11), sl11⟩) (c11 : PySem.W.codeIn K cd11 "_law_words" = true) (k11 : PySem.W.keepIn K (.ref fa11) = true)
    (a12 : PySem.W.nsIn K mainGlobals "_law_reserved" = some (some (.ref fa12))) (l12 : K.lookup fa12 = some ⟨oc12, od12, .func (PySem.W.fnOf "_law_reserved" "_law_reserved" (defArgs s_law_reserved) (defBody s_law_reserved) (defScope s_law_reserved) .none kV12 dc12 pm12 an12 cd12 ct12), sl12⟩) (c12 : PySem.W.codeIn K cd12 "_law_reserved" = true) (k12 : PySem.W.keepIn K (.ref fa12) = true)
    (a13 : PySem.W.nsIn K mainGlobals "_law_name" = some (some (.ref fa13))) (l13 : K.lookup fa13 = some ⟨oc13, od13, .func (PySem.W.fnOf "_law_name" "_law_name" (defArgs s_law_name) (defBody s_law_name) (defScope s_law_name) .none kV13 dc13 pm13 an13 cd13 ct13), sl13⟩) (c13 : PySem.W.codeIn K cd13 "_law_name" = true) (k13 : PySem.W.keepIn K (.ref fa13) = true)
    (a14 : PySem.W.nsIn K mainGlobals "_law_columns" = some (some (.ref fa14))) (l14 : K.lookup fa14 = some ⟨oc14, od14, .func (PySem.W.fnOf "_law_columns" "_law_columns" (defArgs s_law_columns) (defBody s_law_columns) (defScope s_law_columns) .none kV14 dc14 pm14 an14 cd14 ct14), sl14⟩) (c14 : PySem.W.codeIn K cd14 "_law_columns" = true) (k14 : PySem.W.keepIn K (.ref fa14) = true)
    (a15 : PySem.W.nsIn K mainGlobals "_law_keys" = some (some (.ref fa15))) (l15 : K.lookup fa15 = some ⟨oc15, od15, .func (PySem.W.fnOf "_law_keys" "_law_keys" (defArgs s_law_keys) (defBody s_law_keys) (defScope s_law_keys) .none kV15 dc15 pm15 an15 cd15 ct15), sl15⟩) (c15 : PySem.W.codeIn K cd15 "_law_keys" = true) (k15 : PySem.W.keepIn K (.ref fa15) = true)
    (a16 : PySem.W.nsIn K mainGlobals "_law_bad_name" = some (some (.ref fa16))) (l16 : K.lookup fa16 = some ⟨oc16, od16, .func (PySem.W.fnOf "_law_bad_name" "_law_bad_name" (defArgs s_law_bad_name) (defBody s_law_bad_name) (defScope s_law_bad_name) .none kV16 dc16 pm16 an16 cd16 ct16), sl16⟩) (c16 : PySem.W.codeIn K cd16 "_law_bad_name" = true) (k16 : PySem.W.keepIn K (.ref fa16) = true)
    (a17 : PySem.W.nsIn K mainGlobals "_law_with" = some (some (.ref fa17))) (l17 : K.lookup fa17 = some ⟨oc17, od17, .func (PySem.W.fnOf "_law_with" "_law_with" (defArgs s_law_with) (defBody s_law_with) (defScope s_law_with) .none kV17 dc17 pm17 an17 cd17 ct17), sl17⟩) (c17 : PySem.W.codeIn K cd17 "_law_with" = true) (k17 : PySem.W.keepIn K (.ref fa17) = true)
    (a18 : PySem.W.nsIn K mainGlobals "_law_bad_key" = some (some (.ref fa18))) (l18 : K.lookup fa18 = some ⟨oc18, od18, .func (PySem.W.fnOf "_law_bad_key" "_law_bad_key" (defArgs s_law_bad_key) (defBody s_law_bad_key) (defScope s_law_bad_key) .none kV18 dc18 pm18 an18 cd18 ct18), sl18⟩) (c18 : PySem.W.codeIn K cd18 "_law_bad_key" = true) (k18 : PySem.W.keepIn K (.ref fa18) = true)
    (a19 : PySem.W.nsIn K mainGlobals "_law_misshapen" = some (some (.ref fa19))) (l19 : K.lookup fa19 = some ⟨oc19, od19, .func (PySem.W.fnOf "_law_misshapen" "_law_misshapen" (defArgs s_law_misshapen) (defBody s_law_misshapen) (defScope s_law_misshapen) .none kV19 dc19 pm19 an19 cd19 ct19), sl19⟩) (c19 : PySem.W.codeIn K cd19 "_law_misshapen" = true) (k19 : PySem.W.keepIn K (.ref fa19) = true)
    (a20 : PySem.W.nsIn K mainGlobals "_law_changed" = some (some (.ref fa20))) (l20 : K.lookup fa20 = some ⟨oc20, od20, .func (PySem.W.fnOf "_law_changed" "_law_changed" (defArgs s_law_changed) (defBody s_law_changed) (defScope s_law_changed) .none kV20 dc20 pm20 an20 cd20 ct20), sl20⟩) (c20 : PySem.W.codeIn K cd20 "_law_changed" = true) (k20 : PySem.W.keepIn K (.ref fa20) = true)
    (a21 : PySem.W.nsIn K mainGlobals "_law_refused" = some (some (.ref fa21))) (l21 : K.lookup fa21 = some ⟨oc21, od21, .func (PySem.W.fnOf "_law_refused" "_law_refused" (defArgs s_law_refused) (defBody s_law_refused) (defScope s_law_refused) .none kV21 dc21 pm21 an21 cd21 ct21), sl21⟩) (c21 : PySem.W.codeIn K cd21 "_law_refused" = true) (k21 : PySem.W.keepIn K (.ref fa21) = true)
    (a22 : PySem.W.nsIn K mainGlobals "law" = some (some (.ref fa22))) (l22 : K.lookup fa22 = some ⟨oc22, od22, .func (PySem.W.fnOf "law" "law" (defArgs s_law) (defBody s_law) (defScope s_law) .none kV22 dc22 pm22 an22 cd22 ct22), sl22⟩) (c22 : PySem.W.codeIn K cd22 "law" = true) (k22 : PySem.W.keepIn K (.ref fa22) = true)
    (z0 : PySem.W.nsIn K mainGlobals "ValueError" = some none)
    (z1 : PySem.W.nsIn K mainGlobals "abs" = some none)
    (z2 : PySem.W.nsIn K mainGlobals "bool" = some none)
    (z3 : PySem.W.nsIn K mainGlobals "int" = some none)
    (z4 : PySem.W.nsIn K mainGlobals "isinstance" = some none)
    (z5 : PySem.W.nsIn K mainGlobals "len" = some none)
    (z6 : PySem.W.nsIn K mainGlobals "min" = some none)
    (z7 : PySem.W.nsIn K mainGlobals "range" = some none)
    (z8 : PySem.W.nsIn K mainGlobals "sorted" = some none)
    (z9 : PySem.W.nsIn K mainGlobals "str" = some none)
    (z10 : PySem.W.nsIn K mainGlobals "tuple" = some none)
    {ca0 : Addr} (y0 : PySem.W.nsIn K mainGlobals "KINDS" = some (some (.ref ca0))) (x0 : denB K k_KINDS (.ref ca0) = true)
    {ct_1 : Tok} (y1 : PySem.W.nsIn K mainGlobals "LONGEST_NAME" = some (some (.int 20 ct_1)))
    {ct_2 : Tok} (y2 : PySem.W.nsIn K mainGlobals "MOST_COLUMNS" = some (some (.int 12 ct_2)))
    {ct_3 : Tok} (y3 : PySem.W.nsIn K mainGlobals "MOST_KEYS" = some (some (.int 4 ct_3)))
    {ca4 : Addr} (y4 : PySem.W.nsIn K mainGlobals "RESERVED" = some (some (.ref ca4))) (x4 : denB K k_RESERVED (.ref ca4) = true)
    {ca_BadForm : Addr} (ga_BadForm : PySem.W.nsIn K mainGlobals "BadForm" = some (some (.ref ca_BadForm)))
    (xx_BadForm : PySem.W.excIn K ca_BadForm veMro "ValueError.__new__" = true) (kx_BadForm : PySem.W.keepIn K (.ref ca_BadForm) = true) (bx_BadForm : PySem.W.subIn K (.ref ca_BadForm) (.type "BaseException") = some true) (tx_BadForm : PySem.W.typeIn K (.ref ca_BadForm) = some (.type "type"))
    (et_BadForm : exTop K ca_BadForm = true)
    {ca_BadName : Addr} (ga_BadName : PySem.W.nsIn K mainGlobals "BadName" = some (some (.ref ca_BadName)))
    {ca_PeristyleError : Addr} (ga_PeristyleError : PySem.W.nsIn K mainGlobals "PeristyleError" = some (some (.ref ca_PeristyleError)))
    (em_BadForm_BadForm : PySem.W.exmOne K (.ref ca_BadForm) (.ref ca_BadForm) = some true)
    (ei_BadForm_BadName : PySem.W.kitOne K (.ref ca_BadForm) (.ref ca_BadName) = some false)
    (ei_BadForm_PeristyleError : PySem.W.kitOne K (.ref ca_BadForm) (.ref ca_PeristyleError) = some true)
    (ei_BadForm_ValueError : PySem.W.kitOne K (.ref ca_BadForm) (.type "ValueError") = some true) :
    ∃ fd : FuncData, (∀ (s : Shared) (v : Value), BindsTo s fd ⟨[v], []⟩ [("script", v)]) ∧ ∀ base : Heap, K.In base → base.Ns mainGlobals mg → FnOk l.prog w K mg base (L2.CX l.prog w) 7 fa fd ["script"] (spL K) := by
  have e := hfa.symm.trans (PySem.W.mg_of X G a22)
  cases e
  let T : Tx w K mg := { xa_BadForm := ca_BadForm, xg_BadForm := PySem.W.mg_of X G ga_BadForm, xp_BadForm := ⟨PySem.W.mg_of X G ga_BadForm, xx_BadForm, kx_BadForm, bx_BadForm, tx_BadForm⟩, xa_BadName := ca_BadName, xg_BadName := PySem.W.mg_of X G ga_BadName, xa_PeristyleError := ca_PeristyleError, xg_PeristyleError := PySem.W.mg_of X G ga_PeristyleError, xk_BadForm := (catch_cons (PySem.W.mg_of X G ga_BadForm) em_BadForm_BadForm catch_nil), xi_BadName := (is_cons (PySem.W.mg_of X G ga_BadForm) (exTop_c et_BadForm).1 ei_BadForm_BadName is_nil), xi_PeristyleError := (is_cons (PySem.W.mg_of X G ga_BadForm) (exTop_c et_BadForm).1 ei_BadForm_PeristyleError is_nil), xi_ValueError := (is_cons (PySem.W.mg_of X G ga_BadForm) (exTop_c et_BadForm).1 ei_BadForm_ValueError is_nil), a_is_figure := fa0, d_is_figure := _, F_is_figure := fun_mk (st := s_is_figure) l0 c0 k0, g_is_figure := PySem.W.mg_of X G a0, b_is_figure := (fun_mk (st := s_is_figure) l0 c0 k0).binds (ps := ["sign"]) fun _ _ _ _ _ _ us hl => match us, hl with | [_], _ => rfl, a_is_reserved := fa1, d_is_reserved := _, F_is_reserved := fun_mk (st := s_is_reserved) l1 c1 k1, g_is_reserved := PySem.W.mg_of X G a1, b_is_reserved := (fun_mk (st := s_is_reserved) l1 c1 k1).binds (ps := ["word"]) fun _ _ _ _ _ _ us hl => match us, hl with | [_], _ => rfl, a_is_name := fa2, d_is_name := _, F_is_name := fun_mk (st := s_is_name) l2 c2 k2, g_is_name := PySem.W.mg_of X G a2, b_is_name := (fun_mk (st := s_is_name) l2 c2 k2).binds (ps := ["x"]) fun _ _ _ _ _ _ us hl => match us, hl with | [_], _ => rfl, a_is_column := fa3, d_is_column := _, F_is_column := fun_mk (st := s_is_column) l3 c3 k3, g_is_column := PySem.W.mg_of X G a3, b_is_column := (fun_mk (st := s_is_column) l3 c3 k3).binds (ps := ["x"]) fun _ _ _ _ _ _ us hl => match us, hl with | [_], _ => rfl, a_are_columns := fa4, d_are_columns := _, F_are_columns := fun_mk (st := s_are_columns) l4 c4 k4, g_are_columns := PySem.W.mg_of X G a4, b_are_columns := (fun_mk (st := s_are_columns) l4 c4 k4).binds (ps := ["x"]) fun _ _ _ _ _ _ us hl => match us, hl with | [_], _ => rfl, a_is_key := fa5, d_is_key := _, F_is_key := fun_mk (st := s_is_key) l5 c5 k5, g_is_key := PySem.W.mg_of X G a5, b_is_key := (fun_mk (st := s_is_key) l5 c5 k5).binds (ps := ["x", "columns"]) fun _ _ _ _ _ _ us hl => match us, hl with | [_, _], _ => rfl, a_are_keys := fa6, d_are_keys := _, F_are_keys := fun_mk (st := s_are_keys) l6 c6 k6, g_are_keys := PySem.W.mg_of X G a6, b_are_keys := (fun_mk (st := s_are_keys) l6 c6 k6).binds (ps := ["x", "columns"]) fun _ _ _ _ _ _ us hl => match us, hl with | [_, _], _ => rfl, a_check_schema := fa7, d_check_schema := _, F_check_schema := fun_mk (st := s_check_schema) l7 c7 k7, g_check_schema := PySem.W.mg_of X G a7, b_check_schema := (fun_mk (st := s_check_schema) l7 c7 k7).binds (ps := ["schema"]) fun _ _ _ _ _ _ us hl => match us, hl with | [_], _ => rfl, a_law_cell := fa8, d_law_cell := _, F_law_cell := fun_mk (st := s_law_cell) l8 c8 k8, g_law_cell := PySem.W.mg_of X G a8, b_law_cell := (fun_mk (st := s_law_cell) l8 c8 k8).binds (ps := ["script", "k"]) fun _ _ _ _ _ _ us hl => match us, hl with | [_, _], _ => rfl, a_law_mixed := fa9, d_law_mixed := _, F_law_mixed := fun_mk (st := s_law_mixed) l9 c9 k9, g_law_mixed := PySem.W.mg_of X G a9, b_law_mixed := (fun_mk (st := s_law_mixed) l9 c9 k9).binds (ps := ["cell", "k"]) fun _ _ _ _ _ _ us hl => match us, hl with | [_, _], _ => rfl, a_law_draws := fa10, d_law_draws := _, F_law_draws := fun_mk (st := s_law_draws) l10 c10 k10, g_law_draws := PySem.W.mg_of X G a10, b_law_draws := (fun_mk (st := s_law_draws) l10 c10 k10).binds (ps := ["cell", "many"]) fun _ _ _ _ _ _ us hl => match us, hl with | [_, _], _ => rfl, a_law_words := fa11, d_law_words := _, F_law_words := fun_mk (st := s_law_words) l11 c11 k11, g_law_words := PySem.W.mg_of X G a11, b_law_words := (fun_mk (st := s_law_words) l11 c11 k11).binds (ps := []) fun _ _ _ _ _ _ us hl => match us, hl with | [], _ => rfl, a_law_reserved := fa12, d_law_reserved := _, F_law_reserved := fun_mk (st := s_law_reserved) l12 c12 k12, g_law_reserved := PySem.W.mg_of X G a12, b_law_reserved := (fun_mk (st := s_law_reserved) l12 c12 k12).binds (ps := ["word"]) fun _ _ _ _ _ _ us hl => match us, hl with | [_], _ => rfl, a_law_name := fa13, d_law_name := _, F_law_name := fun_mk (st := s_law_name) l13 c13 k13, g_law_name := PySem.W.mg_of X G a13, b_law_name := (fun_mk (st := s_law_name) l13 c13 k13).binds (ps := ["draws"]) fun _ _ _ _ _ _ us hl => match us, hl with | [_], _ => rfl, a_law_columns := fa14, d_law_columns := _, F_law_columns := fun_mk (st := s_law_columns) l14 c14 k14, g_law_columns := PySem.W.mg_of X G a14, b_law_columns := (fun_mk (st := s_law_columns) l14 c14 k14).binds (ps := ["script", "many"]) fun _ _ _ _ _ _ us hl => match us, hl with | [_, _], _ => rfl, a_law_keys := fa15, d_law_keys := _, F_law_keys := fun_mk (st := s_law_keys) l15 c15 k15, g_law_keys := PySem.W.mg_of X G a15, b_law_keys := (fun_mk (st := s_law_keys) l15 c15 k15).binds (ps := ["columns", "draws"]) fun _ _ _ _ _ _ us hl => match us, hl with | [_, _], _ => rfl, a_law_bad_name := fa16, d_law_bad_name := _, F_law_bad_name := fun_mk (st := s_law_bad_name) l16 c16 k16, g_law_bad_name := PySem.W.mg_of X G a16, b_law_bad_name := (fun_mk (st := s_law_bad_name) l16 c16 k16).binds (ps := ["draws"]) fun _ _ _ _ _ _ us hl => match us, hl with | [_], _ => rfl, a_law_with := fa17, d_law_with := _, F_law_with := fun_mk (st := s_law_with) l17 c17 k17, g_law_with := PySem.W.mg_of X G a17, b_law_with := (fun_mk (st := s_law_with) l17 c17 k17).binds (ps := ["columns", "at", "column"]) fun _ _ _ _ _ _ us hl => match us, hl with | [_, _, _], _ => rfl, a_law_bad_key := fa18, d_law_bad_key := _, F_law_bad_key := fun_mk (st := s_law_bad_key) l18 c18 k18, g_law_bad_key := PySem.W.mg_of X G a18, b_law_bad_key := (fun_mk (st := s_law_bad_key) l18 c18 k18).binds (ps := ["columns", "keys", "draws"]) fun _ _ _ _ _ _ us hl => match us, hl with | [_, _, _], _ => rfl, a_law_misshapen := fa19, d_law_misshapen := _, F_law_misshapen := fun_mk (st := s_law_misshapen) l19 c19 k19, g_law_misshapen := PySem.W.mg_of X G a19, b_law_misshapen := (fun_mk (st := s_law_misshapen) l19 c19 k19).binds (ps := ["name", "columns", "keys", "at", "way"]) fun _ _ _ _ _ _ us hl => match us, hl with | [_, _, _, _, _], _ => rfl, a_law_changed := fa20, d_law_changed := _, F_law_changed := fun_mk (st := s_law_changed) l20 c20 k20, g_law_changed := PySem.W.mg_of X G a20, b_law_changed := (fun_mk (st := s_law_changed) l20 c20 k20).binds (ps := ["schema", "draws"]) fun _ _ _ _ _ _ us hl => match us, hl with | [_, _], _ => rfl, a_law_refused := fa21, d_law_refused := _, F_law_refused := fun_mk (st := s_law_refused) l21 c21 k21, g_law_refused := PySem.W.mg_of X G a21, b_law_refused := (fun_mk (st := s_law_refused) l21 c21 k21).binds (ps := ["schema"]) fun _ _ _ _ _ _ us hl => match us, hl with | [_], _ => rfl, a_law := fa, d_law := _, F_law := fun_mk (st := s_law) l22 c22 k22, g_law := PySem.W.mg_of X G a22, b_law := (fun_mk (st := s_law) l22 c22 k22).binds (ps := ["script"]) fun _ _ _ _ _ _ us hl => match us, hl with | [_], _ => rfl, n_ValueError := PySem.W.mg_none_of X G z0, n_abs := PySem.W.mg_none_of X G z1, n_bool := PySem.W.mg_none_of X G z2, n_int := PySem.W.mg_none_of X G z3, n_isinstance := PySem.W.mg_none_of X G z4, n_len := PySem.W.mg_none_of X G z5, n_min := PySem.W.mg_none_of X G z6, n_range := PySem.W.mg_none_of X G z7, n_sorted := PySem.W.mg_none_of X G z8, n_str := PySem.W.mg_none_of X G z9, n_tuple := PySem.W.mg_none_of X G z10, c_KINDS := ⟨_, PySem.W.mg_of X G y0, denB_den x0⟩, c_LONGEST_NAME := ⟨_, PySem.W.mg_of X G y1⟩, c_MOST_COLUMNS := ⟨_, PySem.W.mg_of X G y2⟩, c_MOST_KEYS := ⟨_, PySem.W.mg_of X G y3⟩, c_RESERVED := ⟨_, PySem.W.mg_of X G y4, denB_den x4⟩ }
  exact ⟨T.d_law, fun s v => .of_eq rfl, fun base _ _ => law_end (D_law T) pure⟩

end
end DL.Wk
namespace DL.Pure
open PySem PySem.Spec PyProof.Rows L2 DL DL.Wk
@[simp] theorem lit0 : (Str.ofString "0") = tx [48] := by decide +kernel
@[simp] theorem lit1 : (Str.ofString "9") = tx [57] := by decide +kernel
@[simp] theorem lit2 : (Str.ofString "a") = tx [97] := by decide +kernel
@[simp] theorem lit3 : (Str.ofString "z") = tx [122] := by decide +kernel
@[simp] theorem lit4 : (Str.ofString "_") = tx [95] := by decide +kernel
@[simp] theorem lit5 : (Str.ofString "x") = tx [120] := by decide +kernel
@[simp] theorem lit6 : (Str.ofString "1") = tx [49] := by decide +kernel
@[simp] theorem lit7 : (Str.ofString "abcdefghijklmnopqrstuvwxyz") = tx [97, 98, 99, 100, 101, 102, 103, 104, 105, 106, 107, 108, 109, 110, 111, 112, 113, 114, 115, 116, 117, 118, 119, 120, 121, 122] := by decide +kernel
@[simp] theorem lit8 : (Str.ofString "_0123456789") = tx [95, 48, 49, 50, 51, 52, 53, 54, 55, 56, 57] := by decide +kernel
@[simp] theorem lit9 : (Str.ofString "select distinct from where group by having order limit offset as join inner left right full cross on union") = tx [115, 101, 108, 101, 99, 116, 32, 100, 105, 115, 116, 105, 110, 99, 116, 32, 102, 114, 111, 109, 32, 119, 104, 101, 114, 101, 32, 103, 114, 111, 117, 112, 32, 98, 121, 32, 104, 97, 118, 105, 110, 103, 32, 111, 114, 100, 101, 114, 32, 108, 105, 109, 105, 116, 32, 111, 102, 102, 115, 101, 116, 32, 97, 115, 32, 106, 111, 105, 110, 32, 105, 110, 110, 101, 114, 32, 108, 101, 102, 116, 32, 114, 105, 103, 104, 116, 32, 102, 117, 108, 108, 32, 99, 114, 111, 115, 115, 32, 111, 110, 32, 117, 110, 105, 111, 110] := by decide +kernel
@[simp] theorem lit10 : (Str.ofString " intersect except all values with and or not is null true false in exists between like case when") = tx [32, 105, 110, 116, 101, 114, 115, 101, 99, 116, 32, 101, 120, 99, 101, 112, 116, 32, 97, 108, 108, 32, 118, 97, 108, 117, 101, 115, 32, 119, 105, 116, 104, 32, 97, 110, 100, 32, 111, 114, 32, 110, 111, 116, 32, 105, 115, 32, 110, 117, 108, 108, 32, 116, 114, 117, 101, 32, 102, 97, 108, 115, 101, 32, 105, 110, 32, 101, 120, 105, 115, 116, 115, 32, 98, 101, 116, 119, 101, 101, 110, 32, 108, 105, 107, 101, 32, 99, 97, 115, 101, 32, 119, 104, 101, 110] := by decide +kernel
@[simp] theorem lit11 : (Str.ofString " then else end asc desc nulls first last over partition rows preceding following unbounded current") = tx [32, 116, 104, 101, 110, 32, 101, 108, 115, 101, 32, 101, 110, 100, 32, 97, 115, 99, 32, 100, 101, 115, 99, 32, 110, 117, 108, 108, 115, 32, 102, 105, 114, 115, 116, 32, 108, 97, 115, 116, 32, 111, 118, 101, 114, 32, 112, 97, 114, 116, 105, 116, 105, 111, 110, 32, 114, 111, 119, 115, 32, 112, 114, 101, 99, 101, 100, 105, 110, 103, 32, 102, 111, 108, 108, 111, 119, 105, 110, 103, 32, 117, 110, 98, 111, 117, 110, 100, 101, 100, 32, 99, 117, 114, 114, 101, 110, 116] := by decide +kernel
@[simp] theorem lit12 : (Str.ofString " ") = tx [32] := by decide +kernel
@[simp] theorem lit13 : (Str.ofString "row") = tx [114, 111, 119] := by decide +kernel
@[simp] theorem lit14 : (Str.ofString "bool") = tx [98, 111, 111, 108] := by decide +kernel
@[simp] theorem lit15 : (Str.ofString "text") = tx [116, 101, 120, 116] := by decide +kernel
@[simp] theorem lit16 : (Str.ofString "int") = tx [105, 110, 116] := by decide +kernel
@[simp] theorem lit17 : (Str.ofString "a.b") = tx [97, 46, 98] := by decide +kernel
@[simp] theorem lit18 : (Str.ofString "rows") = tx [114, 111, 119, 115] := by decide +kernel
@[simp] theorem lit19 : (Str.ofString "select") = tx [115, 101, 108, 101, 99, 116] := by decide +kernel
@[simp] theorem lit20 : (Str.ofString "a-b") = tx [97, 45, 98] := by decide +kernel
@[simp] theorem lit21 : (Str.ofString "aB") = tx [97, 66] := by decide +kernel
@[simp] theorem lit22 : (Str.ofString "a b") = tx [97, 32, 98] := by decide +kernel
@[simp] theorem lit23 : (Str.ofString "_a") = tx [95, 97] := by decide +kernel
@[simp] theorem lit24 : (Str.ofString "1a") = tx [49, 97] := by decide +kernel
@[simp] theorem lit25 : (Str.ofString "A") = tx [65] := by decide +kernel
@[simp] theorem lit26 : (Str.ofString "") = tx [] := by decide +kernel
@[simp] theorem lit27 : (Str.ofString "t") = tx [116] := by decide +kernel
@[simp] theorem lit28 : (Str.ofString "abcde") = tx [97, 98, 99, 100, 101] := by decide +kernel
@[simp] theorem lit29 : (Str.ofString "k") = tx [107] := by decide +kernel
@[simp] theorem lit30 : (Str.ofString "n") = tx [110] := by decide +kernel
@[simp] theorem lit31 : (Str.ofString "c") = tx [99] := by decide +kernel
@[simp] theorem lit32 : (Str.ofString "abcdefghijklm") = tx [97, 98, 99, 100, 101, 102, 103, 104, 105, 106, 107, 108, 109] := by decide +kernel
@[simp] theorem lit33 : (Str.ofString "Int") = tx [73, 110, 116] := by decide +kernel
@[simp] theorem lit34 : (Str.ofString "float") = tx [102, 108, 111, 97, 116] := by decide +kernel
@[simp] theorem lit35 : (Str.ofString "yes") = tx [121, 101, 115] := by decide +kernel
@[simp] theorem lit36 : (Str.ofString "SELECT") = tx [83, 69, 76, 69, 67, 84] := by decide +kernel
@[simp] theorem lit37 : (Str.ofString "DISTINCT") = tx [68, 73, 83, 84, 73, 78, 67, 84] := by decide +kernel
@[simp] theorem lit38 : (Str.ofString "FROM") = tx [70, 82, 79, 77] := by decide +kernel
@[simp] theorem lit39 : (Str.ofString "WHERE") = tx [87, 72, 69, 82, 69] := by decide +kernel
@[simp] theorem lit40 : (Str.ofString "GROUP") = tx [71, 82, 79, 85, 80] := by decide +kernel
@[simp] theorem lit41 : (Str.ofString "BY") = tx [66, 89] := by decide +kernel
@[simp] theorem lit42 : (Str.ofString "HAVING") = tx [72, 65, 86, 73, 78, 71] := by decide +kernel
@[simp] theorem lit43 : (Str.ofString "ORDER") = tx [79, 82, 68, 69, 82] := by decide +kernel
@[simp] theorem lit44 : (Str.ofString "LIMIT") = tx [76, 73, 77, 73, 84] := by decide +kernel
@[simp] theorem lit45 : (Str.ofString "OFFSET") = tx [79, 70, 70, 83, 69, 84] := by decide +kernel
@[simp] theorem lit46 : (Str.ofString "AS") = tx [65, 83] := by decide +kernel
@[simp] theorem lit47 : (Str.ofString "JOIN") = tx [74, 79, 73, 78] := by decide +kernel
@[simp] theorem lit48 : (Str.ofString "INNER") = tx [73, 78, 78, 69, 82] := by decide +kernel
@[simp] theorem lit49 : (Str.ofString "LEFT") = tx [76, 69, 70, 84] := by decide +kernel
@[simp] theorem lit50 : (Str.ofString "RIGHT") = tx [82, 73, 71, 72, 84] := by decide +kernel
@[simp] theorem lit51 : (Str.ofString "FULL") = tx [70, 85, 76, 76] := by decide +kernel
@[simp] theorem lit52 : (Str.ofString "CROSS") = tx [67, 82, 79, 83, 83] := by decide +kernel
@[simp] theorem lit53 : (Str.ofString "ON") = tx [79, 78] := by decide +kernel
@[simp] theorem lit54 : (Str.ofString "UNION") = tx [85, 78, 73, 79, 78] := by decide +kernel
@[simp] theorem lit55 : (Str.ofString "INTERSECT") = tx [73, 78, 84, 69, 82, 83, 69, 67, 84] := by decide +kernel
@[simp] theorem lit56 : (Str.ofString "EXCEPT") = tx [69, 88, 67, 69, 80, 84] := by decide +kernel
@[simp] theorem lit57 : (Str.ofString "ALL") = tx [65, 76, 76] := by decide +kernel
@[simp] theorem lit58 : (Str.ofString "VALUES") = tx [86, 65, 76, 85, 69, 83] := by decide +kernel
@[simp] theorem lit59 : (Str.ofString "WITH") = tx [87, 73, 84, 72] := by decide +kernel
@[simp] theorem lit60 : (Str.ofString "AND") = tx [65, 78, 68] := by decide +kernel
@[simp] theorem lit61 : (Str.ofString "OR") = tx [79, 82] := by decide +kernel
@[simp] theorem lit62 : (Str.ofString "NOT") = tx [78, 79, 84] := by decide +kernel
@[simp] theorem lit63 : (Str.ofString "IS") = tx [73, 83] := by decide +kernel
@[simp] theorem lit64 : (Str.ofString "NULL") = tx [78, 85, 76, 76] := by decide +kernel
@[simp] theorem lit65 : (Str.ofString "TRUE") = tx [84, 82, 85, 69] := by decide +kernel
@[simp] theorem lit66 : (Str.ofString "FALSE") = tx [70, 65, 76, 83, 69] := by decide +kernel
@[simp] theorem lit67 : (Str.ofString "IN") = tx [73, 78] := by decide +kernel
@[simp] theorem lit68 : (Str.ofString "EXISTS") = tx [69, 88, 73, 83, 84, 83] := by decide +kernel
@[simp] theorem lit69 : (Str.ofString "BETWEEN") = tx [66, 69, 84, 87, 69, 69, 78] := by decide +kernel
@[simp] theorem lit70 : (Str.ofString "LIKE") = tx [76, 73, 75, 69] := by decide +kernel
@[simp] theorem lit71 : (Str.ofString "CASE") = tx [67, 65, 83, 69] := by decide +kernel
@[simp] theorem lit72 : (Str.ofString "WHEN") = tx [87, 72, 69, 78] := by decide +kernel
@[simp] theorem lit73 : (Str.ofString "THEN") = tx [84, 72, 69, 78] := by decide +kernel
@[simp] theorem lit74 : (Str.ofString "ELSE") = tx [69, 76, 83, 69] := by decide +kernel
@[simp] theorem lit75 : (Str.ofString "END") = tx [69, 78, 68] := by decide +kernel
@[simp] theorem lit76 : (Str.ofString "ASC") = tx [65, 83, 67] := by decide +kernel
@[simp] theorem lit77 : (Str.ofString "DESC") = tx [68, 69, 83, 67] := by decide +kernel
@[simp] theorem lit78 : (Str.ofString "NULLS") = tx [78, 85, 76, 76, 83] := by decide +kernel
@[simp] theorem lit79 : (Str.ofString "FIRST") = tx [70, 73, 82, 83, 84] := by decide +kernel
@[simp] theorem lit80 : (Str.ofString "LAST") = tx [76, 65, 83, 84] := by decide +kernel
@[simp] theorem lit81 : (Str.ofString "OVER") = tx [79, 86, 69, 82] := by decide +kernel
@[simp] theorem lit82 : (Str.ofString "PARTITION") = tx [80, 65, 82, 84, 73, 84, 73, 79, 78] := by decide +kernel
@[simp] theorem lit83 : (Str.ofString "ROWS") = tx [82, 79, 87, 83] := by decide +kernel
@[simp] theorem lit84 : (Str.ofString "PRECEDING") = tx [80, 82, 69, 67, 69, 68, 73, 78, 71] := by decide +kernel
@[simp] theorem lit85 : (Str.ofString "FOLLOWING") = tx [70, 79, 76, 76, 79, 87, 73, 78, 71] := by decide +kernel
@[simp] theorem lit86 : (Str.ofString "UNBOUNDED") = tx [85, 78, 66, 79, 85, 78, 68, 69, 68] := by decide +kernel
@[simp] theorem lit87 : (Str.ofString "CURRENT") = tx [67, 85, 82, 82, 69, 78, 84] := by decide +kernel
@[simp] theorem lit88 : (Str.ofString "ROW") = tx [82, 79, 87] := by decide +kernel
theorem cell_is (ns : List Int) (k : Nat) : ∃ c : Int, m_law_cell [.list (ns.map .int), .int k] = .ok (.int c) := by
  unfold m_law_cell g_law_cell
  by_cases h : (k : Int) < ns.length
  · obtain ⟨x, hx, _⟩ := atI_ints (xs := ns) (i := k) (by omega) h
    refine ⟨x, ?_⟩
    simp [hx, h]
  · refine ⟨0, ?_⟩
    simp [h]
def Big (m : Int) : Prop := 0 ≤ m ∧ m < 2147483648
theorem big_mod {a b : Int} (h : 0 < b) (h2 : b ≤ 2147483648) : Big (a.fmod b) := ⟨(fmod_bound h).1, Int.lt_of_lt_of_le (fmod_bound h).2 h2⟩
theorem mixed_is (c k : Int) : ∃ m : Int, m_law_mixed [.int c, .int k] = .ok (.int m) ∧ Big m := by
  unfold m_law_mixed g_law_mixed
  simp
  exact big_mod (b := 2147483629) (by decide) (by decide)
theorem draws_loop (c n : Int) (b : Bool) : ∀ (m : Nat) (lo : Int) (xs : List Int) (r : Int) (s5 : Sl), 0 ≤ r → xs.length + m < 16777216 → (∀ x ∈ xs, Big x) →
    ∃ (ys : List Int) (r' : Int) (s' : Sl), forL (bName 5) b1_law_draws (rangeD lo m) [.val (.int c), .val (.int n), .own (xs.map .int), .val (.int r), .val (.bool b), s5] = .nx [.val (.int c), .val (.int n), .own (ys.map .int), .val (.int r'), .val (.bool b), s'] ∧ ys.length = xs.length + m ∧ ∀ y ∈ ys, Big y
  | 0, lo, xs, r, s5, h0, h1, h2 => ⟨xs, r, s5, rfl, rfl, h2⟩
  | m + 1, lo, xs, r, s5, h0, h1, h2 => by
    rw [rangeD_succ, forL_name]
    have one : ∃ y r', b1_law_draws [.val (.int c), .val (.int n), .own (xs.map .int), .val (.int r), .val (.bool b), .val (.int lo)] = .nx [.val (.int c), .val (.int n), .own ((xs ++ [y]).map .int), .val (.int r'), .val (.bool b), .val (.int lo)] ∧ 0 ≤ r' ∧ Big y := by
      have hl : xs.length < 16777216 := by omega
      unfold b1_law_draws
      obtain ⟨m1, hm, hb⟩ := mixed_is c lo
      by_cases hc : b = true ∧ 0 < r
      · obtain ⟨rfl, hr⟩ := hc
        refine ⟨r.fmod 10000000, r.fdiv 10000000, ?_, ?_, big_mod (by decide) (by decide)⟩
        · simp [hr, hl]
        · rw [Int.fdiv_eq_ediv_of_nonneg _ (by decide)]; exact Int.ediv_nonneg h0 (by decide)
      · refine ⟨m1, r, ?_, h0, hb⟩
        cases b with
        | false => simp [hm, hl]
        | true => simp at hc; simp [hm, hl, Int.not_lt.mpr hc]
    obtain ⟨y, r', e, h3, h4⟩ := one
    obtain ⟨ys, r2, s2, e2, h5, h6⟩ := draws_loop c n b m (lo + 1) (xs ++ [y]) r' (.val (.int lo)) h3 (by rw [List.length_append, List.length_singleton]; omega) (fun x hx => by
      rcases List.mem_append.mp hx with hx | hx
      · exact h2 x hx
      · rw [List.mem_singleton.mp hx]; exact h4)
    refine ⟨ys, r2, s2, ?_, by rw [h5, List.length_append, List.length_singleton]; omega, h6⟩
    simp only [List.set_cons_succ, List.set_cons_zero, e, turn_nx]
    exact e2
theorem draws_is (c : Int) (n : Nat) (h : n < 16777216) : ∃ xs : List Int, m_law_draws [.int c, .int n] = .ok (.list (xs.map .int)) ∧ xs.length = n ∧ ∀ x ∈ xs, Big x := by
  have hr : rng1 [.int (n : Int)] = some (rangeD 0 n) := rng1_nat n (Nat.lt_trans h (by decide))
  unfold m_law_draws g_law_draws
  simp [hr]
  obtain ⟨ys, r', s', e, h1, h2⟩ := draws_loop c n (decide (1000000000000000000 ≤ (if c < 0 then -c else c))) n 0 [] (if c < 0 then -c else c) .un (by split <;> omega) (by simpa using h) (fun x hx => by cases hx)
  rw [List.map_nil] at e
  refine ⟨ys, ?_, by simpa using h1, h2⟩
  rw [e]
  simp


theorem at_int (xs : List Int) (k : Nat) (h : k < xs.length) : ∃ x, (xs.map PyData.int)[k]? = some (.int x) ∧ x ∈ xs := ⟨xs[k], by simp [h], List.getElem_mem h⟩
/-! figures of a number -/
def dg (m : Nat) : List Nat := (Nat.toDigits 10 m).map Char.toNat
theorem dg_small {m : Nat} (h : m < 10) : dg m = [48 + m] := by
  unfold dg
  rw [Nat.toDigits_of_lt_base h]
  have : ∀ d : Nat, d < 10 → (Nat.digitChar d).toNat = 48 + d := by decide
  simp [this m h]
theorem dg_step {m : Nat} (h : 10 ≤ m) : dg m = dg (m / 10) ++ [48 + m % 10] := by
  have hm : m % 10 < 10 := Nat.mod_lt m (by decide)
  have t : Nat.toDigits 10 (m / 10) ++ Nat.toDigits 10 (m % 10) = Nat.toDigits 10 (10 * (m / 10) + m % 10) := Nat.toDigits_append_toDigits (by decide) (by omega) hm
  rw [Nat.div_add_mod] at t
  have e := dg_small hm
  unfold dg at e ⊢
  rw [← t, List.map_append, e]
theorem words_tx (i : Int) : Str.ofString (toString i) = tx (if i < 0 then 45 :: dg i.natAbs else dg i.natAbs) := by
  rw [Str.ofString_eq_toList]
  show tx _ = tx _
  rw [tx_inj]
  cases i with
  | ofNat m =>
    rw [if_neg (by simp)]
    show (Nat.repr m).toList.map Char.toNat = _
    rw [Nat.toList_repr]
    rfl
  | negSucc m =>
    rw [if_pos (by omega)]
    show ("-" ++ Nat.repr (m + 1)).toList.map Char.toNat = _
    rw [String.toList_append, List.map_append, Nat.toList_repr]
    rfl
def digC (c : Nat) : Bool := decide (48 ≤ c) && decide (c ≤ 57)
theorem int_figs {l : List Nat} (h : l.all digC = true) (h1 : 1 ≤ l.length) (h2 : l.length ≤ 18) : intXD [.str (tx l)] = some (.int ((NumText.digitsVal l : Nat) : Int)) := by
  have := intText_digits (x := tx l) (by
    rw [tx_cps]
    intro c hc
    have := List.all_eq_true.mp h c hc
    unfold digC at this
    simp at this
    exact this) (by rw [tx_cps]; intro e; rw [e] at h1; cases h1) (by rw [tx_len]; omega)
  rw [tx_cps] at this
  rw [intXD_str, tx_len, if_pos (by omega), this]
  rfl
theorem dg_digs : ∀ m : Nat, (dg m).all digC = true ∧ 1 ≤ (dg m).length := fun m => by
  induction m using Nat.strongRecOn with
  | _ m ih =>
    by_cases h : m < 10
    · rw [dg_small h]
      have : digC (48 + m) = true := by unfold digC; rw [decide_eq_true (by omega), decide_eq_true (by omega)]; rfl
      simp [this]
    · rw [dg_step (by omega)]
      obtain ⟨h1, h2⟩ := ih (m / 10) (by omega)
      have : digC (48 + m % 10) = true := by unfold digC; rw [decide_eq_true (by omega), decide_eq_true (by omega)]; rfl
      rw [List.all_append, h1, List.length_append]
      simp [this]
/-! names -/
theorem fig_sign (c : Nat) : m_is_figure [.str (tx [c])] = .ok (.bool (digC c)) := by
  unfold m_is_figure g_is_figure digC
  by_cases h1 : 48 ≤ c
  · by_cases h2 : c ≤ 57
    · have h3 : ¬ 57 < c := by omega
      simp [h1, h2, h3]
    · have h3 : 57 < c := by omega
      simp [h1, h2, h3]
  · simp [h1]
def smallC (c : Nat) : Bool := decide (97 ≤ c) && decide (c ≤ 122)
def nameC (c : Nat) : Bool := smallC c || (digC c || decide (c = 95))
def RES : List PyData := match k_RESERVED with
  | .tuple ds => ds
  | _ => []
def resB (s : List Nat) : Bool := hasD (.str (tx (s.map upC))) RES
theorem name127 {s : List Nat} (h : ∀ c ∈ s, nameC c = true) : ∀ c ∈ s, c < 127 := fun c hc => by
  have := h c hc
  unfold nameC smallC digC at this
  simp at this
  omega
theorem inX_tuple (x : PyData) (ds : List PyData) (h1 : flatD x = true) (h2 : ds.all flatD = true) : inX x (.tuple ds) = some (.bool (hasD x ds)) := by
  unfold inX; rw [inD_tuple x ds h1 h2]; rfl
theorem inX_list (x : PyData) (ds : List PyData) (h1 : flatD x = true) (h2 : ds.all flatD = true) : inX x (.list ds) = some (.bool (hasD x ds)) := by
  unfold inX; rw [inD_list x ds h1 h2]; rfl
theorem notInX_list (x : PyData) (ds : List PyData) (h1 : flatD x = true) (h2 : ds.all flatD = true) : notInX x (.list ds) = some (.bool (!hasD x ds)) := by
  unfold notInX; rw [notInD_list x ds h1 h2]; rfl
theorem res_is {s : List Nat} (h : ∀ c ∈ s, nameC c = true) (hl : s.length ≤ 1000) : m_is_reserved [.str (tx s)] = .ok (.bool (resB s)) := by
  have hk : k_RESERVED = .tuple RES := rfl
  have hf : RES.all flatD = true := by decide +kernel
  have hz : s.length ≤ 5592405 := by omega
  have hi := inX_tuple (.str (tx (s.map upC))) RES rfl hf
  unfold m_is_reserved g_is_reserved resB
  simp [dM_is, upper_tx (name127 h), hk, hz, hi]
theorem name_one (d : PyData) (c : Nat) : b1_is_name [.val d, .val (.str (tx [c]))] = if nameC c = true then .nx [.val d, .val (.str (tx [c]))] else .rt (.bool false) := by
  have hf := fig_sign c
  unfold nameC smallC b1_is_name
  cases hd : digC c with
  | true =>
    rw [hd] at hf
    by_cases h1 : 97 ≤ c
    · by_cases h2 : 122 < c <;> simp [h1, h2, hf]
    · simp [h1, hf]
  | false =>
    rw [hd] at hf
    by_cases h1 : 97 ≤ c
    · by_cases h2 : 122 < c
      · have h3 : ¬ c ≤ 122 := by omega
        have h4 : ¬ c = 95 := by omega
        simp [h1, h2, h3, h4, hf]
      · have h3 : c ≤ 122 := by omega
        simp [h1, h2, h3, hf]
    · by_cases h4 : c = 95
      · subst h4; simp [hf]
      · simp [h1, h4, hf]
theorem name_loop (d : PyData) : ∀ (l : List Nat) (s : Sl), (l.all nameC = true → ∃ s', forL (bName 1) b1_is_name (l.map fun c => .str (tx [c])) [.val d, s] = .nx [.val d, s']) ∧
    (l.all nameC = false → forL (bName 1) b1_is_name (l.map fun c => .str (tx [c])) [.val d, s] = .rt (.bool false))
  | [], s => ⟨fun _ => ⟨s, rfl⟩, fun h => by cases h⟩
  | c :: l, s => by
    have ih := name_loop d l (.val (.str (tx [c])))
    rw [List.map_cons, forL_name]
    simp only [List.set_cons_succ, List.set_cons_zero, name_one, List.all_cons]
    cases hc : nameC c with
    | true => simpa using ih
    | false => simp
/-- what a name is -/
def headB : List Nat → Bool
  | c :: _ => smallC c
  | [] => false
def nmL (l : List Nat) : Bool := decide (1 ≤ l.length) && (decide (l.length ≤ 20) && (headB l && (l.all nameC && !resB l)))
theorem nmL_is (l : List Nat) (h : l.length ≤ 16777216) : m_is_name [.str (tx l)] = .ok (.bool (nmL l)) := by
  unfold nmL
  cases l with
  | nil => simp [m_is_name, g_is_name]
  | cons c l =>
    have h1i : (1 : Int) ≤ ((c :: l).length : Int) := by rw [List.length_cons]; omega
    have hat : atI (c :: l) 0 = some c := by rw [atI_zero]; rfl
    have h1 : 1 ≤ (c :: l).length := by rw [List.length_cons]; omega
    have hh : headB (c :: l) = smallC c := rfl
    by_cases hl : (c :: l).length ≤ 20
    · have h20 : ((c :: l).length : Int) ≤ 20 := by omega
      obtain ⟨q1, q2⟩ := name_loop (.str (tx (c :: l))) (c :: l) .un
      unfold m_is_name g_is_name
      generalize hT : c :: l = T at *
      by_cases a1 : 97 ≤ c
      · by_cases a2 : 122 < c
        · have a3 : ¬ c ≤ 122 := by omega
          simp [h, h20, h1i, hat, h1, hl, a1, a2, a3, smallC, hh]
        · have a3 : c ≤ 122 := by omega
          cases hn : T.all nameC with
          | true =>
            obtain ⟨s', e⟩ := q1 hn
            have hr := res_is (List.all_eq_true.mp hn) (by omega)
            simp [h, h20, h1i, hat, h1, hl, a1, a2, a3, smallC, hh, hn, e, hr]
          | false =>
            have e := q2 hn
            simp [h, h20, h1i, hat, h1, hl, a1, a2, a3, smallC, hh, hn, e]
      · simp [h, h20, h1i, hat, h1, hl, a1, smallC, hh]
    · have h20 : ¬ ((c :: l).length : Int) ≤ 20 := by omega
      unfold m_is_name g_is_name
      generalize hT : c :: l = T at *
      simp [h, h20, h1i, h1, hl]
def nmB : PyData → Bool
  | .str x => nmL x.cps.toList
  | _ => false
/-- a text that is not too long -/
def Sh : PyData → Prop
  | .str x => x.length ≤ 1000
  | _ => True
theorem nmB_tx (l : List Nat) : nmB (.str (tx l)) = nmL l := by show nmL (tx l).cps.toList = _; rw [tx_cps]
theorem nmB_is (d : PyData) (h : Sh d) : m_is_name [d] = .ok (.bool (nmB d)) := by
  cases d with
  | str x =>
    obtain ⟨l, rfl⟩ := tx_of x
    have h2 : l.length ≤ 1000 := by
      have h' : (tx l).length ≤ 1000 := h
      rwa [tx_len] at h'
    rw [nmL_is l (by omega), nmB_tx]
  | none => simp [m_is_name, g_is_name, nmB]
  | bool b => simp [m_is_name, g_is_name, nmB]
  | int b => simp [m_is_name, g_is_name, nmB]
  | list b => simp [m_is_name, g_is_name, nmB]
  | tuple b => simp [m_is_name, g_is_name, nmB]
  | dict b => simp [m_is_name, g_is_name, nmB]
/-! columns -/
def KIN : List PyData := match k_KINDS with
  | .tuple ds => ds
  | _ => []
def kdB : PyData → Bool
  | .str x => hasD (.str x) KIN
  | _ => false
def colB : PyData → Bool
  | .tuple [n, k, b] => nmB n && (kdB k && isBool b)
  | _ => false
def ShC : PyData → Prop
  | .tuple (n :: _) => Sh n
  | _ => True
theorem bTup3 (d x y z : PyData) (s1 s2 s3 : Sl) : bTup 3 (bCons (bName 1) (bCons (bName 2) (bCons (bName 3) bNil))) (.tuple [x, y, z]) [.val d, s1, s2, s3] = some [.val d, .val x, .val y, .val z] := by
  simp [bTup, bCons, bName, bNil]
theorem colB_is (d : PyData) (h : ShC d) : m_is_column [d] = .ok (.bool (colB d)) := by
  cases d with
  | tuple l =>
    match l, h with
    | [], _ => simp [m_is_column, g_is_column, colB]
    | [_], _ => simp [m_is_column, g_is_column, colB]
    | [_, _], _ => simp [m_is_column, g_is_column, colB]
    | [n, k, b], h =>
      have hn := nmB_is n h
      have hk : k_KINDS = .tuple KIN := rfl
      have hf : KIN.all flatD = true := by decide +kernel
      unfold m_is_column g_is_column colB
      cases q1 : nmB n with
      | false => rw [q1] at hn; simp [bTup3, hn, q1]
      | true =>
        rw [q1] at hn
        cases k with
        | str x =>
          have hi := inX_tuple (.str x) KIN rfl hf
          have hv : kdB (.str x) = hasD (.str x) KIN := rfl
          cases q2 : hasD (.str x) KIN with
          | true => rw [q2] at hi hv; simp [bTup3, hn, hk, hi, hv, q1]
          | false => rw [q2] at hi hv; simp [bTup3, hn, hk, hi, hv, q1]
        | none => simp [bTup3, hn, kdB, q1]
        | bool x => simp [bTup3, hn, kdB, q1]
        | int x => simp [bTup3, hn, kdB, q1]
        | list x => simp [bTup3, hn, kdB, q1]
        | tuple x => simp [bTup3, hn, kdB, q1]
        | dict x => simp [bTup3, hn, kdB, q1]
    | a :: b :: c :: e :: r, _ =>
      have h4 : ¬ ((a :: b :: c :: e :: r).length : Int) = 3 := by simp only [List.length_cons]; omega
      have hc : colB (.tuple (a :: b :: c :: e :: r)) = false := rfl
      rw [hc]
      unfold m_is_column g_is_column
      generalize a :: b :: c :: e :: r = T at *
      simp [h4]
  | none => simp [m_is_column, g_is_column, colB]
  | bool b => simp [m_is_column, g_is_column, colB]
  | int b => simp [m_is_column, g_is_column, colB]
  | str b => simp [m_is_column, g_is_column, colB]
  | list b => simp [m_is_column, g_is_column, colB]
  | dict b => simp [m_is_column, g_is_column, colB]
theorem kds_cons {κ : Type} {kd : PyData → Option κ} {d : PyData} {ds : List PyData} {k : κ} {ks : List κ} (h1 : kd d = some k) (h2 : kds kd ds = some ks) : kds kd (d :: ds) = some (k :: ks) := by simp only [kds, h1, h2, Option.map_some]
theorem kds_none {κ : Type} {kd : PyData → Option κ} {d : PyData} {ds : List PyData} (h1 : kd d = none) : kds kd (d :: ds) = none := by simp only [kds, h1]
def nameK : PyData → Key
  | .tuple (.str x :: _) => .inr x
  | _ => .inl 0
def colsB : PyData → Bool
  | .tuple cs => decide (1 ≤ cs.length) && (decide (cs.length ≤ 12) && (cs.all colB && decide (cnt (cs.map nameK) = cs.length)))
  | _ => false
theorem cols_loop (d : PyData) : ∀ (cs : List PyData) (s : Sl), (∀ c ∈ cs, ShC c) → (cs.all colB = true → ∃ s', forL (bName 1) b1_are_columns cs [.val d, s] = .nx [.val d, s']) ∧ (cs.all colB = false → forL (bName 1) b1_are_columns cs [.val d, s] = .rt (.bool false))
  | [], s, _ => ⟨fun _ => ⟨s, rfl⟩, fun h => by cases h⟩
  | c :: cs, s, h => by
    have ih := cols_loop d cs (.val c) fun x hx => h x (List.mem_cons_of_mem _ hx)
    have hc := colB_is c (h c List.mem_cons_self)
    rw [forL_name]
    have one : b1_are_columns [.val d, .val c] = if colB c = true then .nx [.val d, .val c] else .rt (.bool false) := by
      unfold b1_are_columns
      cases q : colB c with
      | true => rw [q] at hc; simp [hc]
      | false => rw [q] at hc; simp [hc]
    simp only [List.set_cons_succ, List.set_cons_zero, one, List.all_cons]
    cases q : colB c with
    | true => simpa using ih
    | false => simp
theorem colB_name {c : PyData} (h : colB c = true) : ∃ x k b, c = .tuple [.str x, .str k, .bool b] := by
  cases c with
  | tuple l =>
    match l, h with
    | [n, k, b], h =>
      unfold colB at h
      simp only [Bool.and_eq_true] at h
      obtain ⟨h1, h2, h3⟩ := h
      cases n with
      | str x =>
        cases k with
        | str y =>
          cases b with
          | bool z => exact ⟨x, y, z, rfl⟩
          | _ => cases h3
        | _ => cases h2
      | _ => cases h1
  | _ => cases h
theorem names_comp (d : PyData) (s : Sl) : ∀ (cs : List PyData), cs.all colB = true → ∃ ys, compL (bName 1) tYesD e2_are_columns [.val d, s] cs = .ok ys ∧ kds kMix ys = some (cs.map nameK)
  | [], _ => ⟨[], rfl, rfl⟩
  | c :: cs, h => by
    rw [List.all_cons, Bool.and_eq_true] at h
    obtain ⟨ys, e1, e2⟩ := names_comp d s cs h.2
    obtain ⟨x, k, b, rfl⟩ := colB_name h.1
    refine ⟨.str x :: ys, compL_name _ _ _ _ _ 1 rfl ?_ e1, ?_⟩
    · unfold e2_are_columns
      simp
    · exact kds_cons (kd := kMix) (k := (Sum.inr x : Key)) rfl e2
theorem dLenSt_ok {fi : Sls → Res (List PyData)} {bt : PyData → Sls → Option Sls} {fe : Sls → Res PyData} {vs : List Nat} {ρ : Sls} {ds ys : List PyData} {n : Nat} (h1 : fi ρ = .ok ds) (h2 : ds.length < 64) (h3 : compL bt tYesD fe (wipeS ρ vs) ds = .ok ys) (h4 : cntD ys = some (.int (n : Nat))) :
    dLenSt fi bt fe vs ρ = .ok (.int (n : Nat)) := by
  unfold dLenSt
  rw [h1, bind_ok, if_pos h2, h3, bind_ok, h4]; rfl
theorem colsB_is (d : PyData) (h : ∀ cs, d = .tuple cs → ∀ c ∈ cs, ShC c) : m_are_columns [d] = .ok (.bool (colsB d)) := by
  cases d with
  | tuple cs =>
    unfold m_are_columns g_are_columns
    rw [show colsB (.tuple cs) = (decide (1 ≤ cs.length) && (decide (cs.length ≤ 12) && (cs.all colB && decide (cnt (cs.map nameK) = cs.length)))) from rfl]
    by_cases h1 : 1 ≤ cs.length
    · have h1i : (1 : Int) ≤ cs.length := by omega
      have hne : cs ≠ [] := fun e => by subst e; cases h1
      by_cases h2 : cs.length ≤ 12
      · have h2i : (cs.length : Int) ≤ 12 := by omega
        obtain ⟨q1, q2⟩ := cols_loop (.tuple cs) cs .un (h cs rfl)
        cases q : cs.all colB with
        | true =>
          obtain ⟨s', e⟩ := q1 q
          obtain ⟨ys, e1, e2⟩ := names_comp (.tuple cs) .un cs q
          have e3 : cntD ys = some (.int (cnt (cs.map nameK) : Nat)) := by unfold cntD; rw [e2]
          have e4 := dLenSt_ok (fi := dItems (dVar 0)) (bt := bName 1) (fe := e2_are_columns) (vs := [1]) (ρ := [.val (.tuple cs), s']) (ds := cs) (by simp) (by omega) (by simpa using e1) e3
          generalize cnt (cs.map nameK) = N at *
          by_cases hN : N = cs.length
          · have hNi : (N : Int) = cs.length := by omega
            simp [h1, h1i, h2, h2i, e, e4, q, hN]
          · have hNi : ¬ (N : Int) = cs.length := by omega
            simp [h1, h1i, h2, h2i, e, e4, q, hN, hNi]
        | false =>
          have e := q2 q
          simp [h1, h1i, h2, h2i, e, q]
      · have h2i : ¬ (cs.length : Int) ≤ 12 := by omega
        simp [h1, h1i, h2, h2i]
    · have h1i : ¬ (1 : Int) ≤ cs.length := by omega
      simp [h1, h1i]
  | none => simp [m_are_columns, g_are_columns, colsB]
  | bool b => simp [m_are_columns, g_are_columns, colsB]
  | int b => simp [m_are_columns, g_are_columns, colsB]
  | str b => simp [m_are_columns, g_are_columns, colsB]
  | list b => simp [m_are_columns, g_are_columns, colsB]
  | dict b => simp [m_are_columns, g_are_columns, colsB]
/-! keys -/
def nbB : PyData → Bool
  | .tuple [_, _, .bool b] => b
  | _ => true
def keyL (cs : List PyData) : Int → List PyData → Bool
  | _, [] => true
  | b, .int i :: r => decide (b < i) && (decide (i < cs.length) && ((match atI cs i with
    | some c => !nbB c
    | none => false) && keyL cs i r))
  | _, _ => false
def keyB (cs : List PyData) : PyData → Bool
  | .tuple ks => !ks.isEmpty && keyL cs (-1) ks
  | _ => false
theorem key_loop (x : PyData) (cs : List PyData) (hc : cs.all colB = true) : ∀ (ks : List PyData) (b : Int) (s : Sl), -1 ≤ b → (keyL cs b ks = true → ∃ s2 s3, forL (bName 3) b1_is_key ks [.val x, .val (.tuple cs), .val (.int b), s] = .nx [.val x, .val (.tuple cs), s2, s3]) ∧
    (keyL cs b ks = false → forL (bName 3) b1_is_key ks [.val x, .val (.tuple cs), .val (.int b), s] = .rt (.bool false))
  | [], b, s, _ => ⟨fun _ => ⟨_, s, rfl⟩, fun h => by simp [keyL] at h⟩
  | k :: ks, b, s, hb => by
    rw [forL_name]
    simp only [List.set_cons_succ, List.set_cons_zero]
    cases k with
    | int i =>
      by_cases h1 : b < i
      · have ih := key_loop x cs hc ks i (.val (.int i)) (by omega)
        by_cases h2 : i < cs.length
        · obtain ⟨c, hat, hm⟩ := atI_mem (xs := cs) (i := i) (by omega) h2
          obtain ⟨n, kd, nb, rfl⟩ := colB_name (List.all_eq_true.mp hc c hm)
          have one : b1_is_key [.val x, .val (.tuple cs), .val (.int b), .val (.int i)] = if nb = true then .rt (.bool false) else .nx [.val x, .val (.tuple cs), .val (.int i), .val (.int i)] := by
            unfold b1_is_key
            cases nb <;> simp [h1, h2, hat]
          rw [one]
          have hk : keyL cs b (.int i :: ks) = (!nb && keyL cs i ks) := by
            simp only [keyL, hat, nbB]
            simp [h1, h2]
          rw [hk]
          cases nb with
          | true => simp
          | false => simpa using ih
        · have one : b1_is_key [.val x, .val (.tuple cs), .val (.int b), .val (.int i)] = .rt (.bool false) := by
            unfold b1_is_key
            simp [h1, h2]
          rw [one]
          simp [keyL, h1, h2]
      · have one : b1_is_key [.val x, .val (.tuple cs), .val (.int b), .val (.int i)] = .rt (.bool false) := by
          unfold b1_is_key
          simp [h1]
        rw [one]
        simp [keyL, h1]
    | none => simp [b1_is_key, keyL]
    | bool z => simp [b1_is_key, keyL]
    | str z => simp [b1_is_key, keyL]
    | list z => simp [b1_is_key, keyL]
    | tuple z => simp [b1_is_key, keyL]
    | dict z => simp [b1_is_key, keyL]
theorem keyB_is (cs : List PyData) (hc : cs.all colB = true) (d : PyData) : m_is_key [d, .tuple cs] = .ok (.bool (keyB cs d)) := by
  cases d with
  | tuple ks =>
    unfold m_is_key g_is_key keyB
    cases ks with
    | nil => simp
    | cons k r =>
      obtain ⟨q1, q2⟩ := key_loop (.tuple (k :: r)) cs hc (k :: r) (-1) .un (by omega)
      have hne : (k :: r).isEmpty = false := rfl
      generalize hT : k :: r = T at *
      cases q : keyL cs (-1) T with
      | true =>
        obtain ⟨s2, s3, e⟩ := q1 q
        simp [hne, e, q]
      | false =>
        have e := q2 q
        simp [hne, e, q]
  | none => simp [m_is_key, g_is_key, keyB]
  | bool b => simp [m_is_key, g_is_key, keyB]
  | int b => simp [m_is_key, g_is_key, keyB]
  | str b => simp [m_is_key, g_is_key, keyB]
  | list b => simp [m_is_key, g_is_key, keyB]
  | dict b => simp [m_is_key, g_is_key, keyB]
def intsK : PyData → List Int
  | .tuple ds => (intsD ds).getD []
  | _ => []
def keysB (cs : List PyData) : PyData → Bool
  | .tuple ks => decide (ks.length ≤ 4) && (ks.all (keyB cs) && decide (cnt (ks.map intsK) = ks.length))
  | _ => false
theorem keyL_ints (cs : List PyData) : ∀ (ks : List PyData) (b : Int), keyL cs b ks = true → ∃ ns, intsD ks = some ns
  | [], b, _ => ⟨[], rfl⟩
  | k :: ks, b, h => by
    cases k with
    | int i =>
      simp only [keyL, Bool.and_eq_true] at h
      obtain ⟨ns, e⟩ := keyL_ints cs ks i h.2.2.2
      exact ⟨i :: ns, by show (intsD ks).map (i :: ·) = _; rw [e]; rfl⟩
    | none => simp [keyL] at h
    | bool z => simp [keyL] at h
    | str z => simp [keyL] at h
    | list z => simp [keyL] at h
    | tuple z => simp [keyL] at h
    | dict z => simp [keyL] at h
theorem keyB_ints {cs : List PyData} {d : PyData} (h : keyB cs d = true) : kTupD d = some (intsK d) ∧ kMix d = none := by
  cases d with
  | tuple ks =>
    unfold keyB at h
    simp only [Bool.and_eq_true] at h
    obtain ⟨ns, e⟩ := keyL_ints cs ks (-1) h.2
    exact ⟨by show intsD ks = some ((intsD ks).getD []); rw [e]; rfl, rfl⟩
  | _ => cases h
theorem kds_keys {cs : List PyData} : ∀ {ks : List PyData}, ks.all (keyB cs) = true → kds kTupD ks = some (ks.map intsK)
  | [], _ => rfl
  | k :: ks, h => by
    rw [List.all_cons, Bool.and_eq_true] at h
    exact kds_cons (keyB_ints h.1).1 (kds_keys h.2)
theorem cnt_keys {cs : List PyData} {ks : List PyData} (h : ks.all (keyB cs) = true) : cntD ks = some (.int (cnt (ks.map intsK) : Nat)) := by
  unfold cntD
  cases ks with
  | nil => rfl
  | cons k r =>
    have h2 := kds_keys h
    rw [List.all_cons, Bool.and_eq_true] at h
    rw [kds_none (keyB_ints h.1).2, h2]
theorem keys_loop (d : PyData) (cs : List PyData) (hc : cs.all colB = true) : ∀ (ks : List PyData) (s : Sl), (ks.all (keyB cs) = true → ∃ s', forL (bName 2) b1_are_keys ks [.val d, .val (.tuple cs), s] = .nx [.val d, .val (.tuple cs), s']) ∧ (ks.all (keyB cs) = false → forL (bName 2) b1_are_keys ks [.val d, .val (.tuple cs), s] = .rt (.bool false))
  | [], s => ⟨fun _ => ⟨s, rfl⟩, fun h => by cases h⟩
  | k :: ks, s => by
    have ih := keys_loop d cs hc ks (.val k)
    have hk := keyB_is cs hc k
    rw [forL_name]
    have one : b1_are_keys [.val d, .val (.tuple cs), .val k] = if keyB cs k = true then .nx [.val d, .val (.tuple cs), .val k] else .rt (.bool false) := by
      unfold b1_are_keys
      cases q : keyB cs k with
      | true => rw [q] at hk; simp [hk]
      | false => rw [q] at hk; simp [hk]
    simp only [List.set_cons_succ, List.set_cons_zero, one, List.all_cons]
    cases q : keyB cs k with
    | true => simpa using ih
    | false => simp
theorem self_comp (d c : PyData) (s : Sl) (ks : List PyData) : compL (bName 2) tYesD e2_are_keys [.val d, .val c, s] ks = .ok ks := by
  induction ks with
  | nil => rfl
  | cons k ks ih => exact compL_name _ _ _ _ _ 2 rfl (by unfold e2_are_keys; simp) ih
theorem keysB_is (cs : List PyData) (hc : cs.all colB = true) (d : PyData) : m_are_keys [d, .tuple cs] = .ok (.bool (keysB cs d)) := by
  cases d with
  | tuple ks =>
    unfold m_are_keys g_are_keys
    rw [show keysB cs (.tuple ks) = (decide (ks.length ≤ 4) && (ks.all (keyB cs) && decide (cnt (ks.map intsK) = ks.length))) from rfl]
    by_cases h1 : ks.length ≤ 4
    · have h1i : ¬ (4 : Int) < ks.length := by omega
      obtain ⟨q1, q2⟩ := keys_loop (.tuple ks) cs hc ks .un
      cases q : ks.all (keyB cs) with
      | true =>
        obtain ⟨s', e⟩ := q1 q
        have e4 := dLenSt_ok (fi := dItems (dVar 0)) (bt := bName 2) (fe := e2_are_keys) (vs := [2]) (ρ := [.val (.tuple ks), .val (.tuple cs), s']) (ds := ks) (by simp) (by omega) (self_comp (.tuple ks) (.tuple cs) .un ks) (cnt_keys q)
        generalize cnt (ks.map intsK) = N at *
        by_cases hN : N = ks.length
        · simp [h1, h1i, e, e4, q, hN]
        · have hNi : ¬ (N : Int) = ks.length := by omega
          simp [h1, h1i, e, e4, q, hN, hNi]
      | false =>
        have e := q2 q
        simp [h1, h1i, e, q]
    · have h1i : (4 : Int) < ks.length := by omega
      simp [h1, h1i]
  | none => simp [m_are_keys, g_are_keys, keysB]
  | bool b => simp [m_are_keys, g_are_keys, keysB]
  | int b => simp [m_are_keys, g_are_keys, keysB]
  | str b => simp [m_are_keys, g_are_keys, keysB]
  | list b => simp [m_are_keys, g_are_keys, keysB]
  | dict b => simp [m_are_keys, g_are_keys, keysB]
/-! a schema -/
def schB : PyData → Bool
  | .tuple [n, c, k] => nmB n && (colsB c && (match c with
    | .tuple cs => keysB cs k
    | _ => false))
  | _ => false
def ShS : PyData → Prop
  | .tuple [n, .tuple cs, _] => Sh n ∧ ∀ c ∈ cs, ShC c
  | .tuple [n, _, _] => Sh n
  | _ => True
def bad0 : Xn := ⟨"BadForm", []⟩
theorem shS_name {n c k : PyData} (h : ShS (.tuple [n, c, k])) : Sh n := by
  cases c with
  | tuple cs => exact h.1
  | _ => exact h
theorem check_is (d : PyData) (h : ShS d) : m_check_schema [d] = if schB d = true then .ok .none else .exc bad0 := by
  cases d with
  | tuple l =>
    match l, h with
    | [], _ => simp [m_check_schema, g_check_schema, schB, bad0]
    | [_], _ => simp [m_check_schema, g_check_schema, schB, bad0]
    | [_, _], _ => simp [m_check_schema, g_check_schema, schB, bad0]
    | [n, c, k], h =>
      have hn := nmB_is n (shS_name h)
      have hc := colsB_is c fun cs e x hx => by subst e; exact h.2 x hx
      unfold m_check_schema g_check_schema schB bad0
      cases q1 : nmB n with
      | false => rw [q1] at hn; simp [hn, q1]
      | true =>
        rw [q1] at hn
        cases q2 : colsB c with
        | false => rw [q2] at hc; simp [hn, hc, q1, q2]
        | true =>
          rw [q2] at hc
          cases c with
          | tuple cs =>
            have ha : cs.all colB = true := by
              unfold colsB at q2
              simp only [Bool.and_eq_true] at q2
              exact q2.2.2.1
            have hk := keysB_is cs ha k
            cases q3 : keysB cs k with
            | true => rw [q3] at hk; simp [hn, hc, hk, q1, q2, q3]
            | false => rw [q3] at hk; simp [hn, hc, hk, q1, q2, q3]
          | _ => cases q2
    | a :: b :: c :: e :: r, _ =>
      have h4 : ¬ ((a :: b :: c :: e :: r).length : Int) = 3 := by simp only [List.length_cons]; omega
      have hc : schB (.tuple (a :: b :: c :: e :: r)) = false := rfl
      rw [hc]
      unfold m_check_schema g_check_schema bad0
      generalize a :: b :: c :: e :: r = T at *
      simp [h4]
  | none => simp [m_check_schema, g_check_schema, schB, bad0]
  | bool b => simp [m_check_schema, g_check_schema, schB, bad0]
  | int b => simp [m_check_schema, g_check_schema, schB, bad0]
  | str b => simp [m_check_schema, g_check_schema, schB, bad0]
  | list b => simp [m_check_schema, g_check_schema, schB, bad0]
  | dict b => simp [m_check_schema, g_check_schema, schB, bad0]
/-! the law's words and names -/
def RESL : List (List Nat) := RES.map fun d => match d with
  | .str x => x.cps.toList
  | _ => []
def WL : List (List Nat) := RESL.map fun w => w.map loC
theorem res_map : RES = RESL.map fun l => .str (tx l) := by kernel_rfl
theorem wl_up : RESL = WL.map fun w => w.map upC := by kernel_rfl
theorem wl_small : ∀ w ∈ WL, w.all smallC = true := by decide +kernel
theorem wl_short : ∀ w ∈ WL, w.length ≤ 9 := by decide +kernel
theorem wl_bad : ∀ w ∈ WL, nmL w = false := by decide +kernel
theorem wl_len : WL.length = 53 := by decide +kernel
theorem wl_suf : ∀ w ∈ WL, ∀ s ∈ ([[95], [49], [120]] : List (List Nat)), nmL (w ++ s) = true := by decide +kernel
theorem wl_more : ∀ w ∈ WL, (WL.filter fun v => v.dropLast == w.dropLast).length ≤ 2 := by decide +kernel
@[simp] theorem splitD_tx (a b : List Nat) (h1 : 1 ≤ b.length) (h2 : a.length + 2 ≤ 16777216) : splitD (.str (tx a)) [.str (tx b)] = some (.list ((Txt.split (tx a) (tx b)).map .str)) := by
  show (if (tx b).length ≠ 0 ∧ (tx a).length + 2 ≤ 16777216 then some (PyData.list ((Txt.split (tx a) (tx b)).map .str)) else none) = _
  rw [if_pos ⟨by rw [tx_len]; omega, by rw [tx_len]; exact h2⟩]
def wD (w : List Nat) : PyData := .str (tx w)
theorem words_is : m_law_words [] = .ok (.list (WL.map wD)) := by
  unfold m_law_words g_law_words
  simp [dM_is]
  first | kernel_rfl | decide +kernel
theorem has_wl (l : List Nat) : ∀ V : List (List Nat), hasD (.str (tx l)) (V.map wD) = decide (l ∈ V)
  | [] => by simp
  | v :: V => by
    rw [List.map_cons, hasD_cons, has_wl l V, wD, eqv_str_str]
    by_cases h : v = l
    · simp [h]
    · have h2 : ¬ l = v := fun e => h e.symm
      simp [h, h2]
theorem up_lo {c : Nat} (h : nameC c = true) : loC (upC c) = c ∧ loC c = c := by
  unfold nameC smallC digC at h
  simp at h
  unfold upC loC
  constructor
  · by_cases h1 : 97 ≤ c ∧ c ≤ 122
    · rw [if_pos h1, if_pos (by omega)]; omega
    · rw [if_neg h1, if_neg (by omega)]
  · rw [if_neg (by omega)]
theorem small_name {c : Nat} (h : smallC c = true) : nameC c = true := by unfold nameC; rw [h]; rfl
theorem map_id_of {f : Nat → Nat} : ∀ {l : List Nat}, (∀ c ∈ l, f c = c) → l.map f = l
  | [], _ => rfl
  | c :: l, h => by rw [List.map_cons, h c List.mem_cons_self, map_id_of fun x hx => h x (List.mem_cons_of_mem _ hx)]
theorem resB_wl {s : List Nat} (h : ∀ c ∈ s, nameC c = true) : resB s = decide (s ∈ WL) := by
  unfold resB
  have e : RES = (WL.map fun w => w.map upC).map wD := by rw [← wl_up]; exact res_map
  rw [e, has_wl]
  refine Bool.eq_iff_iff.mpr ?_
  rw [decide_eq_true_eq, decide_eq_true_eq]
  constructor
  · intro hm
    obtain ⟨w, hw, q⟩ := List.mem_map.mp hm
    have q2 := congrArg (List.map loC) q
    rw [List.map_map, List.map_map, map_id_of (f := loC ∘ upC) fun c hc => (up_lo (small_name (List.all_eq_true.mp (wl_small w hw) c hc))).1, map_id_of (f := loC ∘ upC) fun c hc => (up_lo (h c hc)).1] at q2
    rw [← q2]; exact hw
  · exact fun hm => List.mem_map.mpr ⟨s, hm, rfl⟩
theorem nmL_iff (l : List Nat) : nmL l = true ↔ 1 ≤ l.length ∧ l.length ≤ 20 ∧ headB l = true ∧ (∀ c ∈ l, nameC c = true) ∧ l ∉ WL := by
  unfold nmL
  simp only [Bool.and_eq_true, decide_eq_true_eq, List.all_eq_true, Bool.not_eq_true']
  refine ⟨fun ⟨a, b, c, d, e⟩ => ⟨a, b, c, d, ?_⟩, fun ⟨a, b, c, d, e⟩ => ⟨a, b, c, d, ?_⟩⟩
  · rw [resB_wl d] at e; exact of_decide_eq_false e
  · rw [resB_wl d]; exact decide_eq_false e
theorem lres_is {s : List Nat} (h : ∀ c ∈ s, nameC c = true) (hl : s.length ≤ 1000) : m_law_reserved [.str (tx s)] = .ok (.bool (decide (s ∈ WL))) := by
  have hf : (WL.map wD).all flatD = true := by decide +kernel
  have hz : s.length ≤ 5592405 := by omega
  have hi := inX_list (.str (tx s)) (WL.map wD) rfl hf
  rw [has_wl] at hi
  have hm : s.map loC = s := map_id_of fun c hc => (up_lo (h c hc)).2
  unfold m_law_reserved g_law_reserved
  simp [dM_is, lower_tx (name127 h), hm, words_is, hz, hi]
def ABC : List Nat := [97, 98, 99, 100, 101, 102, 103, 104, 105, 106, 107, 108, 109, 110, 111, 112, 113, 114, 115, 116, 117, 118, 119, 120, 121, 122]
def S63 : List Nat := ABC ++ [95, 48, 49, 50, 51, 52, 53, 54, 55, 56, 57] ++ ABC
theorem abc_small : ∀ c ∈ ABC, smallC c = true := by decide +kernel
theorem s63_name : ∀ c ∈ S63, nameC c = true := by decide +kernel
theorem s63_len : S63.length = 63 := by decide +kernel
theorem abc_len : ABC.length = 26 := by decide +kernel
theorem draw_at (xs : List Int) {i : Int} (h0 : 0 ≤ i) (h1 : i < xs.length) : ∃ x, atI (xs.map PyData.int) i = some (.int x) := by
  obtain ⟨x, h, _⟩ := atI_ints h0 h1
  exact ⟨x, h⟩
theorem name_grow (xs : List Int) (hx : 8 ≤ xs.length) (s1 : Sl) : ∀ (n k : Nat) (l : List Nat) (s5 : Sl), headB l = true → (∀ c ∈ l, nameC c = true) → k + n ≤ 20 → l.length + n ≤ 40 →
    ∃ l' s', forL (bName 5) b1_law_name (rangeD k n) [.val (.list (xs.map .int)), s1, .val (.str (tx ABC)), .val (.str (tx S63)), .val (.str (tx l)), s5] = .nx [.val (.list (xs.map .int)), s1, .val (.str (tx ABC)), .val (.str (tx S63)), .val (.str (tx l')), s'] ∧
      headB l' = true ∧ (∀ c ∈ l', nameC c = true) ∧ l'.length = l.length + n
  | 0, k, l, s5, h1, h2, _, _ => ⟨l, s5, rfl, h1, h2, rfl⟩
  | n + 1, k, l, s5, h1, h2, h3, h4 => by
    rw [rangeD_succ, forL_name, show ((k : Int) + 1) = ((k + 1 : Nat) : Int) by omega]
    have b5 := fmod_bound (a := (k : Int)) (b := 5) (by decide)
    obtain ⟨x, e⟩ := draw_at xs (i := 3 + (k : Int).fmod 5) (by omega) (by omega)
    have b63 := fmod_bound (a := x + (k : Int).fdiv 5 * 7) (b := 63) (by decide)
    obtain ⟨c, e2, hc⟩ := atI_mem (xs := S63) b63.1 (by rw [s63_len]; exact b63.2)
    have hz : l.length ≤ 16777215 := by omega
    have one : b1_law_name [.val (.list (xs.map .int)), s1, .val (.str (tx ABC)), .val (.str (tx S63)), .val (.str (tx l)), .val (.int k)] = .nx [.val (.list (xs.map .int)), s1, .val (.str (tx ABC)), .val (.str (tx S63)), .val (.str (tx (l ++ [c]))), .val (.int k)] := by
      unfold b1_law_name
      simp [e, e2, s63_len, hz]
    obtain ⟨l', s', e3, q1, q2, q3⟩ := name_grow xs hx s1 n (k + 1) (l ++ [c]) (.val (.int k)) (by
      cases l with
      | nil => cases h1
      | cons a r => exact h1) (fun d hd => by
      rcases List.mem_append.mp hd with hd | hd
      · exact h2 d hd
      · rw [List.mem_singleton.mp hd]; exact s63_name c hc) (by omega) (by rw [List.length_append, List.length_singleton]; omega)
    refine ⟨l', s', ?_, q1, q2, by rw [q3, List.length_append, List.length_singleton]; omega⟩
    simp only [List.set_cons_succ, List.set_cons_zero, one, turn_nx]
    exact e3
theorem lname_is (xs : List Int) (hx : 8 ≤ xs.length) : ∃ l : List Nat, m_law_name [.list (xs.map .int)] = .ok (.str (tx l)) ∧ nmL l = true := by
  obtain ⟨x0, e0⟩ := draw_at xs (i := 0) (by omega) (by omega)
  obtain ⟨x1, e1⟩ := draw_at xs (i := 1) (by omega) (by omega)
  obtain ⟨x2, e2⟩ := draw_at xs (i := 2) (by omega) (by omega)
  have f0 : (xs.map PyData.int)[0]? = some (.int x0) := by rw [← atI_zero]; exact e0
  have f1 : (xs.map PyData.int)[1]? = some (.int x1) := by rw [← atI_one]; exact e1
  have f2 : (xs.map PyData.int)[2]? = some (.int x2) := by rw [← atI_2]; exact e2
  rw [List.getElem?_map] at f0 f1 f2
  by_cases c0 : x1.fmod 11 = 0
  · have b1 := fmod_bound (a := x0) (b := 53) (by decide)
    obtain ⟨d, g, hd⟩ := atI_mem (xs := WL.map wD) b1.1 (by rw [List.length_map, wl_len]; exact b1.2)
    obtain ⟨w, hw, rfl⟩ := List.mem_map.mp hd
    have b2 := fmod_bound (a := x2) (b := 3) (by decide)
    obtain ⟨d2, g2, hd2⟩ := atI_mem (xs := ([[95], [49], [120]] : List (List Nat)).map wD) b2.1 b2.2
    obtain ⟨s, hs, rfl⟩ := List.mem_map.mp hd2
    have g2' : atI [PyData.str (tx [95]), PyData.str (tx [49]), PyData.str (tx [120])] (x2.fmod 3) = some (wD s) := g2
    have hn := wl_suf w hw s hs
    have hl := (nmL_iff _).1 hn
    have hz : w.length + s.length ≤ 16777216 := by rw [List.length_append] at hl; omega
    refine ⟨w ++ s, ?_, hn⟩
    unfold m_law_name g_law_name
    simp [f0, f1, f2, c0, words_is, g, g2']
    simp [wD, hz]
  · have b3 := fmod_bound (a := x2) (b := 26) (by decide)
    obtain ⟨c, g3, hc⟩ := atI_mem (xs := ABC) b3.1 (by rw [abc_len]; exact b3.2)
    have b0 := fmod_bound (a := x0) (b := 6) (by decide)
    have b1 := fmod_bound (a := x0) (b := 2) (by decide)
    have go : ∀ n : Nat, n ≤ 19 → (n = 18 ∨ n = 19 ∨ n ≤ 5) → (∃ l' s', forL (bName 5) b1_law_name (rangeD 0 n) [.val (.list (xs.map .int)), .val (.int ((n : Int) + 1)), .val (.str (tx ABC)), .val (.str (tx S63)), .val (.str (tx [c])), .un] = .nx [.val (.list (xs.map .int)), .val (.int ((n : Int) + 1)), .val (.str (tx ABC)), .val (.str (tx S63)), .val (.str (tx l')), s'] ∧
        m_law_reserved [.str (tx l')] = .ok (.bool (decide (l' ∈ WL))) ∧ l'.length ≤ 20 ∧ (l' ∈ WL → nmL (l' ++ [95]) = true) ∧ (l' ∉ WL → nmL l' = true)) := fun n hn _ => by
      obtain ⟨l', s', e3, q1, q2, q3⟩ := name_grow xs hx (.val (.int ((n : Int) + 1))) n 0 [c] .un (abc_small c hc) (fun d hd => by rw [List.mem_singleton.mp hd]; exact small_name (abc_small c hc)) (by omega) (by simp; omega)
      have e3' := e3
      rw [List.length_singleton] at q3
      refine ⟨l', s', e3', lres_is q2 (by omega), by omega, fun hm => ?_, fun hm => (nmL_iff _).2 ⟨by omega, by omega, q1, q2, hm⟩⟩
      have h9 := wl_short l' hm
      refine (nmL_iff _).2 ⟨by rw [List.length_append]; omega, by rw [List.length_append, List.length_singleton]; omega, ?_, ?_, ?_⟩
      · cases l' with
        | nil => cases q1
        | cons a r => exact q1
      · intro d hd
        rcases List.mem_append.mp hd with hd | hd
        · exact q2 d hd
        · rw [List.mem_singleton.mp hd]; rfl
      · intro hm2
        have := List.all_eq_true.mp (wl_small _ hm2) 95 (List.mem_append_right _ (List.mem_singleton.mpr rfl))
        cases this
    have fin : ∀ n : Nat, n ≤ 19 → (n = 18 ∨ n = 19 ∨ n ≤ 5) → (x1.fmod 7 = 0 → (n : Int) + 1 = 19 + x0.fmod 2) → (x1.fmod 7 ≠ 0 → (n : Int) + 1 = 1 + x0.fmod 6) → ∃ l : List Nat, m_law_name [.list (xs.map .int)] = .ok (.str (tx l)) ∧ nmL l = true := fun n hn hn2 h1 h2 => by
      obtain ⟨l', s', e3, r1, r2, r3, r4⟩ := go n hn hn2
      have hz : l'.length ≤ 16777215 := by omega
      have hr : rng1 [.int (n : Int)] = some (rangeD 0 n) := rng1_nat n (by omega)
      have hA : (tx [97, 98, 99, 100, 101, 102, 103, 104, 105, 106, 107, 108, 109, 110, 111, 112, 113, 114, 115, 116, 117, 118, 119, 120, 121, 122]) = tx ABC := rfl
      have hS : ABC ++ (95 :: 48 :: 49 :: 50 :: 51 :: 52 :: 53 :: 54 :: 55 :: 56 :: 57 :: ABC) = S63 := rfl
      by_cases hm : l' ∈ WL
      · refine ⟨l' ++ [95], ?_, r3 hm⟩
        unfold m_law_name g_law_name
        by_cases c7 : x1.fmod 7 = 0
        · have := h1 c7
          rw [this] at e3
          have hs : 19 + x0.fmod 2 - 1 = (n : Int) := by omega
          simp [f0, f1, f2, c0, c7, hA, abc_len, hS, g3, hs, hr, e3, r1, hm, hz]
        · have := h2 c7
          rw [this] at e3
          have hs : 1 + x0.fmod 6 - 1 = (n : Int) := by omega
          simp [f0, f1, f2, c0, c7, hA, abc_len, hS, g3, hs, hr, e3, r1, hm, hz]
      · refine ⟨l', ?_, r4 hm⟩
        unfold m_law_name g_law_name
        by_cases c7 : x1.fmod 7 = 0
        · have := h1 c7
          rw [this] at e3
          have hs : 19 + x0.fmod 2 - 1 = (n : Int) := by omega
          simp [f0, f1, f2, c0, c7, hA, abc_len, hS, g3, hs, hr, e3, r1, hm]
        · have := h2 c7
          rw [this] at e3
          have hs : 1 + x0.fmod 6 - 1 = (n : Int) := by omega
          simp [f0, f1, f2, c0, c7, hA, abc_len, hS, g3, hs, hr, e3, r1, hm]
    by_cases c7 : x1.fmod 7 = 0
    · exact fin (18 + x0.fmod 2).toNat (by omega) (by omega) (fun _ => by omega) (fun h => absurd c7 h)
    · exact fin (x0.fmod 6).toNat (by omega) (by omega) (fun h => absurd h c7) (fun _ => by omega)
/-! the law's columns -/
structure Col where
  nm : List Nat
  kd : List Nat
  nb : Bool
def colD (c : Col) : PyData := .tuple [.str (tx c.nm), .str (tx c.kd), .bool c.nb]
def KDS : List (List Nat) := [[105, 110, 116], [116, 101, 120, 116], [98, 111, 111, 108]]
structure GC (cs : List Col) : Prop where
  nm : ∀ c ∈ cs, nmL c.nm = true
  kd : ∀ c ∈ cs, c.kd ∈ KDS
  nd : (cs.map Col.nm).Nodup
theorem nd_len {α : Type} [DecidableEq α] : ∀ (xs ys : List α), xs.Nodup → (∀ q ∈ xs, q ∈ ys) → xs.length ≤ ys.length
  | [], _, _, _ => Nat.zero_le _
  | q :: xs, ys, hn, hs => by
    have h1 := (List.nodup_cons.mp hn).1
    have h2 := (List.nodup_cons.mp hn).2
    have hq : q ∈ ys := hs q List.mem_cons_self
    have ih := nd_len xs (ys.erase q) h2 fun z hz => (List.mem_erase_of_ne (fun e => h1 (by rw [← e]; exact hz))).2 (hs z (List.mem_cons_of_mem _ hz))
    have e := List.length_erase_of_mem hq
    have hp : 0 < ys.length := List.length_pos_of_mem hq
    rw [List.length_cons]; omega
theorem wl_few (p : List Nat) : (WL.filter fun v => v.dropLast == p).length ≤ 2 := by
  cases h : WL.filter fun v => v.dropLast == p with
  | nil => exact Nat.zero_le _
  | cons w r =>
    have hm : w ∈ WL.filter fun v => v.dropLast == p := by rw [h]; exact List.mem_cons_self
    obtain ⟨h1, h2⟩ := List.mem_filter.mp hm
    have e : w.dropLast = p := by simpa using h2
    have := wl_more w h1
    rw [e, h] at this
    exact this
theorem fresh (p : List Nat) (taken : List (List Nat)) (h : taken.length ≤ 11) : ∃ c ∈ ABC, p ++ [c] ∉ taken ∧ p ++ [c] ∉ WL := by
  by_cases q : ∃ c ∈ ABC, p ++ [c] ∉ taken ∧ p ++ [c] ∉ WL
  · exact q
  · exfalso
    have hsub : ∀ z ∈ ABC.map (fun c => p ++ [c]), z ∈ taken ++ WL.filter fun v => v.dropLast == p := fun z hz => by
      obtain ⟨c, hc, rfl⟩ := List.mem_map.mp hz
      by_cases h1 : p ++ [c] ∈ taken
      · exact List.mem_append_left _ h1
      · by_cases h2 : p ++ [c] ∈ WL
        · exact List.mem_append_right _ (List.mem_filter.mpr ⟨h2, by simp⟩)
        · exact absurd ⟨c, hc, h1, h2⟩ q
    have hn : (ABC.map (fun c => p ++ [c])).Nodup := by
      refine List.Pairwise.map _ (fun a b hab e => hab ?_) (show ABC.Nodup by decide)
      simpa using e
    have := nd_len _ _ hn hsub
    rw [List.length_map, abc_len, List.length_append] at this
    have := wl_few p
    omega
def pF (taken : List (List Nat)) : PyData → Bool
  | .str x => !decide (x.cps.toList ∈ taken) && !decide (x.cps.toList ∈ WL)
  | _ => false
theorem pF_tx (taken : List (List Nat)) (l : List Nat) : pF taken (wD l) = (!decide (l ∈ taken) && !decide (l ∈ WL)) := by
  show (!decide ((tx l).cps.toList ∈ taken) && !decide ((tx l).cps.toList ∈ WL)) = _
  rw [tx_cps]
theorem head_take {l : List Nat} (h : headB l = true) (c : Nat) : headB (l.take 19 ++ [c]) = true := by
  cases l with
  | nil => cases h
  | cons a r => exact h
def nearL (l : List Nat) : List (List Nat) := l :: ABC.map fun c => l.take 19 ++ [c]
theorem near_ok {l : List Nat} (h : nmL l = true) : ∀ x ∈ nearL l, x ∉ WL → nmL x = true := fun x hx hw => by
  obtain ⟨h1, h2, h3, h4, h5⟩ := (nmL_iff l).1 h
  rcases List.mem_cons.mp hx with rfl | hx
  · exact h
  · obtain ⟨c, hc, rfl⟩ := List.mem_map.mp hx
    refine (nmL_iff _).2 ⟨by rw [List.length_append, List.length_singleton]; omega, by rw [List.length_append, List.length_singleton, List.length_take]; omega, head_take h3 c, fun d hd => ?_, hw⟩
    rcases List.mem_append.mp hd with hd | hd
    · exact h4 d (List.mem_of_mem_take hd)
    · rw [List.mem_singleton.mp hd]; exact small_name (abc_small c hc)
theorem near_name {l : List Nat} (h : nmL l = true) : ∀ x ∈ nearL l, (∀ c ∈ x, nameC c = true) ∧ x.length ≤ 20 := fun x hx => by
  obtain ⟨h1, h2, h3, h4, h5⟩ := (nmL_iff l).1 h
  rcases List.mem_cons.mp hx with rfl | hx
  · exact ⟨h4, h2⟩
  · obtain ⟨c, hc, rfl⟩ := List.mem_map.mp hx
    refine ⟨fun d hd => ?_, by rw [List.length_append, List.length_singleton, List.length_take]; omega⟩
    rcases List.mem_append.mp hd with hd | hd
    · exact h4 d (List.mem_of_mem_take hd)
    · rw [List.mem_singleton.mp hd]; exact small_name (abc_small c hc)
theorem near_comp {l : List Nat} (hl : l.length ≤ 20) (s0 s1 s2 s3 s4 s5 s7 s8 s9 : Sl) :
    compL (bName 8) tYesD e1_law_columns [s0, s1, s2, s3, s4, s5, .val (.str (tx l)), s7, s8, s9] (ABC.map fun c => .str (tx [c])) = .ok ((ABC.map fun c => l.take 19 ++ [c]).map wD) := by
  have ct : cutL l none (some (19 : Int)) = l.take 19 := cutL_to l 19
  have hz : l.length ≤ 16777216 := by omega
  have hz2 : (l.take 19).length + 1 ≤ 16777216 := by rw [List.length_take]; omega
  rw [List.map_map]
  have gen : ∀ (A : List Nat), compL (bName 8) tYesD e1_law_columns [s0, s1, s2, s3, s4, s5, .val (.str (tx l)), s7, s8, s9] (A.map fun c => .str (tx [c])) = .ok (A.map (wD ∘ fun c => l.take 19 ++ [c])) := fun A => by
    induction A with
    | nil => rfl
    | cons c A ih =>
      refine compL_name _ _ _ _ _ 8 rfl ?_ ih
      unfold e1_law_columns
      simp only [List.set_cons_succ, List.set_cons_zero, d2_is, dSl_is, dPart_is, dVar_succ, dVar_zero, bind_ok, asI_int, Option.map_some, ofO_some, slD_str, tx_len, if_pos hz, cutS_tx, ct, addD_str, tx_app, List.length_append, List.length_singleton]
      rw [if_pos hz2]; rfl
  exact gen ABC
theorem pick_comp {l : List Nat} (hn : nmL l = true) {taken : List (List Nat)} (ht : taken.length ≤ 11) (s0 s1 s2 s4 s5 s6 s7 s8 s9 : Sl) :
    ∃ (x : List Nat) (r : List PyData), compL (bName 9) u3_law_columns e2_law_columns [s0, s1, s2, .val (.list (taken.map wD)), s4, s5, s6, s7, s8, s9] ((nearL l).map wD) = .ok (wD x :: r) ∧ x ∉ taken ∧ nmL x = true := by
  have hf : ∀ A : List (List Nat), (A.map wD).all flatD = true := fun A => by
    rw [List.all_eq_true]
    intro d hd
    obtain ⟨y, _, rfl⟩ := List.mem_map.mp hd
    rfl
  have e := compL_filter (t := u3_law_columns) (f := e2_law_columns) (ρ := [s0, s1, s2, .val (.list (taken.map wD)), s4, s5, s6, s7, s8, s9]) 9 (p := pF taken) (φ := id) ((nearL l).map wD) (fun d hd => by
    obtain ⟨y, hy, rfl⟩ := List.mem_map.mp hd
    obtain ⟨q1, q2⟩ := near_name hn y hy
    have e1 := lres_is q1 (by omega)
    have e2 := notInX_list (.str (tx y)) (taken.map wD) rfl (hf taken)
    rw [has_wl] at e2
    rw [pF_tx, show wD y = .str (tx y) from rfl]
    unfold u3_law_columns
    generalize taken.map wD = TL at e2
    by_cases h1 : y ∈ taken
    · simp only [h1] at e2 ⊢
      simp at e2
      simp [e2]
    · simp only [h1] at e2 ⊢
      simp at e2
      by_cases h2 : y ∈ WL
      · simp [e2, e1, h2]
      · simp [e2, e1, h2]) (fun d hd _ => by
    unfold e2_law_columns
    simp)
  rw [List.map_id] at e
  have ex : ∃ y ∈ nearL l, y ∉ taken ∧ y ∉ WL := by
    obtain ⟨c, hc, h1, h2⟩ := fresh (l.take 19) taken ht
    exact ⟨_, List.mem_cons_of_mem _ (List.mem_map.mpr ⟨c, hc, rfl⟩), h1, h2⟩
  obtain ⟨y, hy, h1, h2⟩ := ex
  have hm : wD y ∈ ((nearL l).map wD).filter (pF taken) := List.mem_filter.mpr ⟨List.mem_map.mpr ⟨y, hy, rfl⟩, by rw [pF_tx]; simp [h1, h2]⟩
  cases hfl : ((nearL l).map wD).filter (pF taken) with
  | nil => rw [hfl] at hm; cases hm
  | cons d r =>
    have hd : d ∈ ((nearL l).map wD).filter (pF taken) := by rw [hfl]; exact List.mem_cons_self
    obtain ⟨k1, k2⟩ := List.mem_filter.mp hd
    obtain ⟨x, hx, rfl⟩ := List.mem_map.mp k1
    rw [pF_tx] at k2
    simp at k2
    exact ⟨x, r, by rw [e, hfl], k2.1, near_ok hn x hx k2.2⟩
theorem col_step (ns : List Int) (cs : List Col) (g : GC cs) (hk : cs.length ≤ 11) (s1 : Sl) (s5 s6 s7 s8 s9 : Sl) : ∃ (c : Col) (t5 t6 t7 t8 t9 : Sl), GC (cs ++ [c]) ∧
    b4_law_columns [.val (.list (ns.map .int)), s1, .own (cs.map colD), .own ((cs.map Col.nm).map wD), .val (.int cs.length), s5, s6, s7, s8, s9] = .nx [.val (.list (ns.map .int)), s1, .own ((cs ++ [c]).map colD), .own (((cs ++ [c]).map Col.nm).map wD), .val (.int cs.length), t5, t6, t7, t8, t9] := by
  obtain ⟨v, hc⟩ := cell_is ns (2 + cs.length)
  obtain ⟨xs, hd, hl, _⟩ := draws_is v 12 (by decide)
  obtain ⟨l, hn, hg⟩ := lname_is xs (by omega)
  obtain ⟨h1, h2, h3, h4, h5⟩ := (nmL_iff l).1 hg
  obtain ⟨x10, e10⟩ := draw_at xs (i := 10) (by omega) (by omega)
  obtain ⟨x11, e11⟩ := draw_at xs (i := 11) (by omega) (by omega)
  have f10 : (xs.map PyData.int)[10]? = some (.int x10) := by rw [← atI_10]; exact e10
  have f11 : (xs.map PyData.int)[11]? = some (.int x11) := by rw [← atI_11]; exact e11
  rw [List.getElem?_map] at f10 f11
  have b3 := fmod_bound (a := x10) (b := 3) (by decide)
  obtain ⟨kd, gk, hkd⟩ := atI_mem (xs := KDS.map wD) b3.1 b3.2
  obtain ⟨z, hz, rfl⟩ := List.mem_map.mp hkd
  have gk' : atI [PyData.str (tx [105, 110, 116]), PyData.str (tx [116, 101, 120, 116]), PyData.str (tx [98, 111, 111, 108])] (x10.fmod 3) = some (wD z) := gk
  have hc' : m_law_cell [.list (ns.map .int), .int (2 + (cs.length : Int))] = .ok (.int v) := by
    rw [← hc]; simp
  have hd' : m_law_draws [.int v, .int 12] = .ok (.list (xs.map .int)) := hd
  have nc := near_comp h2 (.val (.list (ns.map .int))) s1 (.own (cs.map colD)) (.own ((cs.map Col.nm).map wD)) (.val (.int cs.length)) (.val (.list (xs.map .int))) s7 .un s9
  obtain ⟨x, r, pc, q1, q2⟩ := pick_comp hg (taken := cs.map Col.nm) (by rw [List.length_map]; exact hk) (.val (.list (ns.map .int))) s1 (.own (cs.map colD)) (.val (.int cs.length)) (.val (.list (xs.map .int))) (.val (.str (tx l))) (.val (.list ((nearL l).map wD))) s8 .un
  have hsg : signsD (tx ABC) = ABC.map fun c => .str (tx [c]) := signsD_tx ABC
  have hA : (tx [97, 98, 99, 100, 101, 102, 103, 104, 105, 106, 107, 108, 109, 110, 111, 112, 113, 114, 115, 116, 117, 118, 119, 120, 121, 122]) = tx ABC := rfl
  have hN : (PyData.str (tx l)) :: ((ABC.map fun c => l.take 19 ++ [c]).map wD) = (nearL l).map wD := rfl
  have hlen : (ABC.map fun c => l.take 19 ++ [c]).length = 26 := by rw [List.length_map]; rfl
  refine ⟨⟨x, z, decide (x11.fmod 2 = 0)⟩, .val (.list (xs.map .int)), .val (.str (tx x)), .val (.list ((nearL l).map wD)), s8, s9, ⟨fun c hm => ?_, fun c hm => ?_, ?_⟩, ?_⟩
  · rcases List.mem_append.mp hm with hm | hm
    · exact g.nm c hm
    · rw [List.mem_singleton.mp hm]; exact q2
  · rcases List.mem_append.mp hm with hm | hm
    · exact g.kd c hm
    · rw [List.mem_singleton.mp hm]; exact hz
  · rw [List.map_append]
    refine List.nodup_append.mpr ⟨g.nd, by simp, fun a ha b hb e => q1 ?_⟩
    have : b = x := by simpa using hb
    rw [← this, ← e]; exact ha
  · have hkl : cs.length < 16777216 := by omega
    have hrl : ((nearL l).map wD).length = 27 := by rw [List.length_map]; rfl
    generalize (ABC.map fun c => l.take 19 ++ [c]) = NL at *
    generalize (nearL l).map wD = NR at *
    have hnl : NL.length = 26 := hlen
    have hcs : ((cs ++ [(⟨x, z, decide (x11.fmod 2 = 0)⟩ : Col)]).map Col.nm).map wD = (cs.map Col.nm).map wD ++ [wD x] := by rw [List.map_append, List.map_append]; rfl
    have hcd : (cs ++ [(⟨x, z, decide (x11.fmod 2 = 0)⟩ : Col)]).map colD = cs.map colD ++ [colD ⟨x, z, decide (x11.fmod 2 = 0)⟩] := by rw [List.map_append]; rfl
    rw [hcs, hcd]
    have htl : ((cs.map Col.nm).map wD).length < 16777216 := by rw [List.length_map, List.length_map]; exact hkl
    have hdl : (cs.map colD).length < 16777216 := by rw [List.length_map]; exact hkl
    generalize (cs.map Col.nm).map wD = TK at *
    generalize cs.map colD = CD at *
    have wx : wD x = .str (tx x) := rfl
    unfold b4_law_columns
    simp [hc', hd', hn, hA, abc_len, nc, hnl, hN, hrl, pc, f10, f11, gk', htl, hdl, frz, wx, colD] <;> rfl
theorem cols_grow (ns : List Int) (s1 : Sl) : ∀ (n : Nat) (cs : List Col) (s4 s5 s6 s7 s8 s9 : Sl), GC cs → cs.length + n ≤ 12 → ∃ (ds : List Col) (t3 t4 t5 t6 t7 t8 t9 : Sl), GC ds ∧ ds.length = cs.length + n ∧
    forL (bName 4) b4_law_columns (rangeD cs.length n) [.val (.list (ns.map .int)), s1, .own (cs.map colD), .own ((cs.map Col.nm).map wD), s4, s5, s6, s7, s8, s9] = .nx [.val (.list (ns.map .int)), s1, .own (ds.map colD), t3, t4, t5, t6, t7, t8, t9]
  | 0, cs, s4, s5, s6, s7, s8, s9, g, h => ⟨cs, _, s4, s5, s6, s7, s8, s9, g, rfl, rfl⟩
  | n + 1, cs, s4, s5, s6, s7, s8, s9, g, h => by
    obtain ⟨c, t5, t6, t7, t8, t9, g2, one⟩ := col_step ns cs g (by omega) s1 s5 s6 s7 s8 s9
    have hl : (cs ++ [c]).length = cs.length + 1 := by rw [List.length_append]; rfl
    obtain ⟨ds, r3, r4, r5, r6, r7, r8, r9, g3, e3, e4⟩ := cols_grow ns s1 n (cs ++ [c]) (.val (.int cs.length)) t5 t6 t7 t8 t9 g2 (by rw [hl]; omega)
    refine ⟨ds, r3, r4, r5, r6, r7, r8, r9, g3, by rw [e3, hl]; omega, ?_⟩
    rw [rangeD_succ, forL_name]
    simp only [List.set_cons_succ, List.set_cons_zero, one, turn_nx]
    rw [hl] at e4
    rw [show ((cs.length : Int) + 1) = ((cs.length + 1 : Nat) : Int) by omega]
    exact e4
theorem columns_is (ns : List Int) (n : Nat) (h : n ≤ 12) : ∃ cs : List Col, m_law_columns [.list (ns.map .int), .int n] = .ok (.tuple (cs.map colD)) ∧ GC cs ∧ cs.length = n := by
  obtain ⟨ds, t3, t4, t5, t6, t7, t8, t9, g, hl, e⟩ := cols_grow ns (.val (.int n)) n [] .un .un .un .un .un .un ⟨fun c hc => (by cases hc), fun c hc => (by cases hc), List.nodup_nil⟩ (by simpa using h)
  have hr : rng1 [.int (n : Int)] = some (rangeD 0 n) := rng1_nat n (by omega)
  refine ⟨ds, ?_, g, by simpa using hl⟩
  simp at e
  unfold m_law_columns g_law_columns
  simp [hr, e]
/-! what is good -/
theorem colB_good {c : Col} (h1 : nmL c.nm = true) (h2 : c.kd ∈ KDS) : colB (colD c) = true := by
  have hk : ∀ k ∈ KDS, kdB (.str (tx k)) = true := by decide +kernel
  show (nmB (.str (tx c.nm)) && (kdB (.str (tx c.kd)) && isBool (.bool c.nb))) = true
  rw [nmB_tx, h1, hk _ h2]; rfl
theorem cols_good {cs : List Col} (g : GC cs) : (cs.map colD).all colB = true := by
  rw [List.all_eq_true]
  intro d hd
  obtain ⟨c, hc, rfl⟩ := List.mem_map.mp hd
  exact colB_good (g.nm c hc) (g.kd c hc)
theorem nodup_map_of {α β γ : Type} {f : α → β} {h : β → γ} (inj : ∀ x y, h x = h y → x = y) {l : List α} (nd : (l.map f).Nodup) : (l.map fun x => h (f x)).Nodup := by
  have this : ((l.map f).map h).Nodup := by refine List.Pairwise.map _ (fun a b hab e => hab (inj a b e)) nd
  rw [List.map_map] at this
  exact this
theorem colsB_good {cs : List Col} (g : GC cs) (h1 : 1 ≤ cs.length) (h2 : cs.length ≤ 12) : colsB (.tuple (cs.map colD)) = true := by
  show (decide (1 ≤ (cs.map colD).length) && (decide ((cs.map colD).length ≤ 12) && ((cs.map colD).all colB && decide (cnt ((cs.map colD).map nameK) = (cs.map colD).length)))) = true
  have nd : ((cs.map colD).map nameK).Nodup := by
    rw [List.map_map]
    exact nodup_map_of (f := Col.nm) (h := fun l => (Sum.inr (tx l) : Key)) (fun x y e => by
      injection e with e
      simpa using e) g.nd
  rw [cols_good g, cnt_full nd, List.length_map, List.length_map, decide_eq_true h1, decide_eq_true h2]
  simp
theorem shC_col {c : Col} (h : nmL c.nm = true) : ShC (colD c) := by
  have := ((nmL_iff _).1 h).2.1
  show (tx c.nm).length ≤ 1000
  rw [tx_len]; omega
theorem shC_cols {cs : List Col} (g : GC cs) : ∀ d ∈ cs.map colD, ShC d := fun d hd => by
  obtain ⟨c, hc, rfl⟩ := List.mem_map.mp hd
  exact shC_col (g.nm c hc)
/-! the law's keys -/
def nbAt (cs : List Col) (i : Nat) : Bool := match cs[i]? with
  | some c => c.nb
  | none => true
def freeL (cs : List Col) : List Nat := (List.range cs.length).filter fun i => !nbAt cs i
def iD (i : Nat) : PyData := .int (i : Int)
def keyD (k : List Nat) : PyData := .tuple (k.map iD)
structure KeyOk (cs : List Col) (k : List Nat) : Prop where
  up : k.Pairwise (· < ·)
  at_ : ∀ i ∈ k, i < cs.length ∧ nbAt cs i = false
structure GK (cs : List Col) (ks : List (List Nat)) : Prop where
  ok : ∀ k ∈ ks, k ≠ [] ∧ KeyOk cs k
  nd : ks.Nodup
theorem free_ok (cs : List Col) : KeyOk cs (freeL cs) := by
  refine ⟨?_, fun i hi => ?_⟩
  · exact List.Pairwise.sublist (List.filter_sublist ..) (List.pairwise_lt_range ..)
  · obtain ⟨h1, h2⟩ := List.mem_filter.mp hi
    exact ⟨List.mem_range.mp h1, by simpa using h2⟩
theorem KeyOk.sub {cs : List Col} {k k' : List Nat} (h : KeyOk cs k) (s : k'.Sublist k) : KeyOk cs k' := ⟨h.up.sublist s, fun i hi => h.at_ i (s.subset hi)⟩
theorem at_col {cs : List Col} {i : Nat} (h : i < cs.length) : ∃ c, cs[i]? = some c ∧ c ∈ cs ∧ atI (cs.map colD) (i : Int) = some (colD c) ∧ nbAt cs i = c.nb := by
  refine ⟨cs[i], List.getElem?_eq_getElem h, List.getElem_mem h, ?_, ?_⟩
  · rw [atI_nat, List.getElem?_map, List.getElem?_eq_getElem h]; rfl
  · unfold nbAt; rw [List.getElem?_eq_getElem h]
theorem nb_col (c : Col) : nbB (colD c) = c.nb := rfl
theorem range_nat (n : Nat) : rangeD 0 n = (List.range n).map iD := by
  unfold rangeD
  refine List.map_congr_left fun j _ => ?_
  show PyData.int (0 + (j : Int)) = PyData.int (j : Int)
  rw [Int.zero_add]
def pNb (cs : List Col) (want : Bool) : PyData → Bool
  | .int i => nbAt cs i.toNat == want
  | _ => false
theorem filter_nb (cs : List Col) (want : Bool) : ((rangeD 0 cs.length).filter (pNb cs want)).map id = ((List.range cs.length).filter fun i => nbAt cs i == want).map iD := by
  rw [range_nat, List.map_id, List.filter_map]; rfl
theorem free_is (cs : List Col) : ((List.range cs.length).filter fun i => nbAt cs i == false) = freeL cs := by
  unfold freeL
  refine List.filter_congr fun i _ => ?_
  cases nbAt cs i <;> rfl
theorem free_comp (cs : List Col) (s1 s2 s3 s4 s5 s6 s7 : Sl) : compL (bName 4) u2_law_keys e1_law_keys [.val (.tuple (cs.map colD)), s1, s2, s3, s4, s5, s6, s7] (rangeD 0 cs.length) = .ok ((freeL cs).map iD) := by
  have e := compL_filter (t := u2_law_keys) (f := e1_law_keys) (ρ := [.val (.tuple (cs.map colD)), s1, s2, s3, s4, s5, s6, s7]) 4 (p := pNb cs false) (φ := id) (rangeD 0 cs.length) (fun d hd => by
    obtain ⟨j, hj, rfl⟩ := rangeD_mem0 hd
    obtain ⟨c, _, _, h3, h4⟩ := at_col hj
    have hp : pNb cs false (.int (j : Int)) = (nbAt cs j == false) := by
      show (nbAt cs (j : Int).toNat == false) = _
      rw [Int.toNat_natCast]
    rw [hp, h4]
    unfold u2_law_keys
    cases hnb : c.nb <;> simp [h3, colD, hnb]) (fun d hd _ => by
    unfold e1_law_keys
    simp)
  rw [filter_nb, free_is] at e
  exact e
theorem eqvAll_ints : ∀ a b : List Nat, PyData.eqvAll (a.map iD) (b.map iD) = decide (a = b)
  | [], [] => by simp [PyData.eqvAll]
  | [], b :: bs => by simp [PyData.eqvAll]
  | a :: as, [] => by simp [PyData.eqvAll]
  | a :: as, b :: bs => by
    rw [List.map_cons, List.map_cons, PyData.eqvAll, eqvAll_ints as bs, iD, iD, eqv_int_int]
    by_cases h : a = b
    · by_cases h2 : as = bs <;> simp [h, h2]
    · have h2 : ¬ ((a : Int) = (b : Int)) := by omega
      simp [h, h2]
theorem eqv_keys (a b : List Nat) : PyData.eqv (keyD a) (keyD b) = decide (a = b) := by unfold keyD; rw [PyData.eqv, eqvAll_ints]
theorem has_keys (k : List Nat) : ∀ ks : List (List Nat), hasD (keyD k) (ks.map keyD) = decide (k ∈ ks)
  | [] => by simp
  | v :: V => by
    rw [List.map_cons, hasD_cons, has_keys k V, eqv_keys]
    by_cases h : v = k
    · simp [h]
    · have h2 : ¬ k = v := fun e => h e.symm
      simp [h, h2]
theorem ints_plain : ∀ k : List Nat, PyData.plainAll (k.map iD) = true ∧ noDics (k.map iD) = true ∧ PyData.depthAll (k.map iD) ≤ 1 ∧ PyData.canLayAll0 (k.map iD) = true
  | [] => ⟨rfl, rfl, Nat.zero_le _, rfl⟩
  | i :: k => by
    obtain ⟨h1, h2, h3, h4⟩ := ints_plain k
    have hd : (iD i).depth ≤ 1 := by unfold iD; rw [PyData.depth]; omega
    refine ⟨by rw [List.map_cons, PyData.plainAll, h1]; rfl, by rw [List.map_cons, noDics, h2]; rfl, ?_, by rw [List.map_cons, PyData.canLayAll0, h4]; rfl⟩
    rw [List.map_cons, PyData.depthAll]
    exact Nat.max_le.mpr ⟨hd, h3⟩
theorem keys_plain : ∀ ks : List (List Nat), PyData.plainAll (ks.map keyD) = true ∧ noDics (ks.map keyD) = true
  | [] => ⟨rfl, rfl⟩
  | k :: ks => by
    obtain ⟨h1, h2⟩ := keys_plain ks
    obtain ⟨k1, k2, _⟩ := ints_plain k
    refine ⟨?_, ?_⟩
    · rw [List.map_cons, PyData.plainAll, h1, keyD, PyData.plain, k1]; rfl
    · rw [List.map_cons, noDics, h2, keyD, noDic, k2]; rfl
theorem notIn_keys (k : List Nat) (ks : List (List Nat)) : notInX (keyD k) (.list (ks.map keyD)) = some (.bool (!decide (k ∈ ks))) := by
  have h0 : notInD (keyD k) (.list (ks.map keyD)) = none := by
    show (if flatD (keyD k) = true ∧ (ks.map keyD).all flatD = true then some (PyData.bool (!hasD (keyD k) (ks.map keyD))) else none) = none
    rw [if_neg (fun h => by cases h.1)]
  obtain ⟨k1, k2, k3, _⟩ := ints_plain k
  have hok : inOk (keyD k) (ks.map keyD) = true := by
    unfold inOk
    have hd : (keyD k).depth ≤ 60 := by unfold keyD; rw [PyData.depth]; omega
    rw [(keys_plain ks).1, (keys_plain ks).2, decide_eq_true hd]
    unfold keyD
    rw [noDic, PyData.plain, k1, k2]; rfl
  unfold notInX
  rw [h0]
  show inQ true (keyD k) (ks.map keyD) = _
  unfold inQ
  rw [if_pos hok, has_keys]; rfl
theorem nice_key (k : List Nat) : niceD 2 (keyD k) = true := by
  obtain ⟨k1, k2, k3, k4⟩ := ints_plain k
  exact niceD_iff.mpr ⟨by unfold keyD; rw [noDic]; exact k2, by unfold keyD; rw [PyData.canLay0]; exact k4, by unfold keyD; rw [PyData.depth]; omega⟩
theorem ne_key (k : List Nat) : neD (keyD k) (.tuple []) = some (.bool (!decide (k = []))) := by
  have := neD_nice (niceD_mono (nice_key k) (by decide : 2 ≤ 64)) (niceD_mono (nice_key []) (by decide : 2 ≤ 64))
  rw [eqv_keys] at this
  exact this
theorem cut_key (l : List Nat) (a w : Nat) : cutL (l.map iD) (some (a : Int)) (some ((a : Int) + (w : Int))) = ((l.drop a).take w).map iD := by
  rw [show (a : Int) + (w : Int) = ((a + w : Nat) : Int) by omega, cutL_nat _ _ _ (by omega), List.map_take, List.map_drop]
  rw [show a + w - a = w by omega]
theorem key_step (cs : List Col) (xs : List Int) (hx : xs.length = 6) (k : Nat) (hk : k ≤ 4) (ks : List (List Nat)) (g : GK cs ks) (hl : ks.length ≤ 100) (s5 s6 s7 : Sl) :
    ∃ (ks2 : List (List Nat)) (t5 t6 t7 : Sl), GK cs ks2 ∧ ks2.length ≤ ks.length + 1 ∧
      b3_law_keys [.val (.tuple (cs.map colD)), .val (.list (xs.map .int)), .val (.list ((freeL cs).map iD)), .own (ks.map keyD), .val (.int k), s5, s6, s7] = .nx [.val (.tuple (cs.map colD)), .val (.list (xs.map .int)), .val (.list ((freeL cs).map iD)), .own (ks2.map keyD), .val (.int k), t5, t6, t7] := by
  obtain ⟨x, ex⟩ := draw_at xs (i := 1 + (k : Int)) (by omega) (by omega)
  have b4 := fmod_bound (a := x) (b := 4) (by decide)
  obtain ⟨w, hw⟩ := Int.eq_ofNat_of_zero_le (show 0 ≤ 1 + x.fmod 4 by omega)
  have bf := fmod_bound (a := x.fdiv 3) (b := ((freeL cs).length : Int) + 1) (by omega)
  obtain ⟨a, ha⟩ := Int.eq_ofNat_of_zero_le bf.1
  have hne : ¬ ((freeL cs).length : Int) + 1 = 0 := by omega
  have hcut := cut_key (freeL cs) a w
  have hne2 := ne_key (((freeL cs).drop a).take w)
  have hni := notIn_keys (((freeL cs).drop a).take w) ks
  have hkey : (PyData.tuple ((((freeL cs).drop a).take w).map iD)) = keyD (((freeL cs).drop a).take w) := rfl
  have hsub : KeyOk cs (((freeL cs).drop a).take w) := (free_ok cs).sub ((List.take_sublist _ _).trans (List.drop_sublist _ _))
  have hfl : ((freeL cs).map iD).length = (freeL cs).length := List.length_map ..
  have hkl : (ks.map keyD).length < 16777216 := by rw [List.length_map]; omega
  generalize ((freeL cs).drop a).take w = K at *
  generalize (freeL cs).map iD = FD at *
  by_cases c1 : K = []
  · subst c1
    have hne3 : neD (.tuple []) (.tuple []) = some (.bool false) := by
      have := ne_key []
      simpa [keyD] using this
    refine ⟨ks, .val (.int w), .val (.int a), .val (.tuple []), g, by omega, ?_⟩
    unfold b3_law_keys
    simp [ex, hw, hfl, hne, ha, cutD_is, hcut, frz, hne3]
  by_cases c2 : K ∈ ks
  · refine ⟨ks, .val (.int w), .val (.int a), .val (keyD K), g, by omega, ?_⟩
    simp only [c1, c2] at hne2 hni
    generalize ks.map keyD = KD at *
    unfold b3_law_keys
    simp [ex, hw, hfl, hne, ha, cutD_is, hcut, hkey, frz, hne2, hni]
  · refine ⟨ks ++ [K], .val (.int w), .val (.int a), .val (keyD K), ⟨fun q hq => ?_, ?_⟩, by rw [List.length_append]; exact Nat.le_refl _, ?_⟩
    · rcases List.mem_append.mp hq with hq | hq
      · exact g.ok q hq
      · rw [List.mem_singleton.mp hq]; exact ⟨c1, hsub⟩
    · refine List.nodup_append.mpr ⟨g.nd, by simp, fun p hp q hq e => c2 ?_⟩
      rw [List.mem_singleton.mp hq] at e
      rw [← e]; exact hp
    · simp only [c1, c2] at hne2 hni
      rw [show (ks ++ [K]).map keyD = ks.map keyD ++ [keyD K] by rw [List.map_append]; rfl]
      generalize ks.map keyD = KD at *
      unfold b3_law_keys
      simp [ex, hw, hfl, hne, ha, cutD_is, hcut, hkey, frz, hne2, hni, hkl]
theorem keys_grow (cs : List Col) (xs : List Int) (hx : xs.length = 6) : ∀ (n k : Nat) (ks : List (List Nat)) (s4 s5 s6 s7 : Sl), GK cs ks → k + n ≤ 4 → ks.length ≤ k →
    ∃ (ks2 : List (List Nat)) (t4 t5 t6 t7 : Sl), GK cs ks2 ∧ ks2.length ≤ k + n ∧
      forL (bName 4) b3_law_keys (rangeD k n) [.val (.tuple (cs.map colD)), .val (.list (xs.map .int)), .val (.list ((freeL cs).map iD)), .own (ks.map keyD), s4, s5, s6, s7] = .nx [.val (.tuple (cs.map colD)), .val (.list (xs.map .int)), .val (.list ((freeL cs).map iD)), .own (ks2.map keyD), t4, t5, t6, t7]
  | 0, k, ks, s4, s5, s6, s7, g, _, hl => ⟨ks, s4, s5, s6, s7, g, hl, rfl⟩
  | n + 1, k, ks, s4, s5, s6, s7, g, h, hl => by
    obtain ⟨ks1, t5, t6, t7, g1, hl1, one⟩ := key_step cs xs hx k (by omega) ks g (by omega) s5 s6 s7
    obtain ⟨ks2, r4, r5, r6, r7, g2, hl2, e⟩ := keys_grow cs xs hx n (k + 1) ks1 (.val (.int k)) t5 t6 t7 g1 (by omega) (by omega)
    refine ⟨ks2, r4, r5, r6, r7, g2, by omega, ?_⟩
    rw [rangeD_succ, forL_name, show ((k : Int) + 1) = ((k + 1 : Nat) : Int) by omega]
    simp only [List.set_cons_succ, List.set_cons_zero, one, turn_nx]
    exact e
theorem keys_is (cs : List Col) (hc : cs.length ≤ 12) (xs : List Int) (hx : xs.length = 6) : ∃ ks : List (List Nat), m_law_keys [.tuple (cs.map colD), .list (xs.map .int)] = .ok (.tuple (ks.map keyD)) ∧ GK cs ks ∧ ks.length ≤ 4 := by
  obtain ⟨x0, e0⟩ := draw_at xs (i := 0) (by omega) (by omega)
  have f0 : (xs.map PyData.int)[0]? = some (.int x0) := by rw [← atI_zero]; exact e0
  rw [List.getElem?_map] at f0
  have b5 := fmod_bound (a := x0) (b := 5) (by decide)
  obtain ⟨n, hn⟩ := Int.eq_ofNat_of_zero_le b5.1
  have fc := free_comp cs (.val (.list (xs.map .int))) .un .un .un .un .un .un
  obtain ⟨ks2, t4, t5, t6, t7, g, hl, e⟩ := keys_grow cs xs hx n 0 [] .un .un .un .un ⟨fun k h => (by cases h), List.nodup_nil⟩ (by omega) (Nat.le_refl _)
  have hr : rng1 [.int (n : Int)] = some (rangeD 0 n) := rng1_nat n (by omega)
  have hr2 : rng1 [.int (cs.length : Int)] = some (rangeD 0 cs.length) := rng1_nat cs.length (by omega)
  have hrl : (rangeD 0 cs.length).length = cs.length := rangeD_length ..
  refine ⟨ks2, ?_, g, by omega⟩
  have hz : cs.length ≤ 16777216 := by omega
  have hcl : (cs.map colD).length = cs.length := List.length_map ..
  generalize (freeL cs).map iD = FD at *
  generalize cs.map colD = CD at *
  generalize rangeD 0 cs.length = RD at *
  simp at e
  unfold m_law_keys g_law_keys
  simp [hcl, hr2, hrl, hz, fc, f0, hn, hr, e]
/-! good keys -/
theorem keyL_good {cs : List Col} : ∀ (k : List Nat) (b : Int), KeyOk cs k → (∀ i ∈ k, b < (i : Int)) → keyL (cs.map colD) b (k.map iD) = true
  | [], b, _, _ => by simp [keyL]
  | i :: k, b, h, hb => by
    obtain ⟨h1, h2⟩ := h.at_ i List.mem_cons_self
    obtain ⟨c, _, _, h3, h4⟩ := at_col h1
    have ih := keyL_good k (i : Int) (h.sub (List.sublist_cons_self ..)) fun j hj => by
      have := (List.pairwise_cons.mp h.up).1 j hj
      omega
    have hbi := hb i List.mem_cons_self
    rw [h4] at h2
    rw [List.map_cons, iD, keyL, h3, ih, List.length_map]
    simp [hbi, h1, nb_col, h2]
theorem keyB_good {cs : List Col} {k : List Nat} (h : KeyOk cs k) (hn : k ≠ []) : keyB (cs.map colD) (keyD k) = true := by
  show (!(k.map iD).isEmpty && keyL (cs.map colD) (-1) (k.map iD)) = true
  rw [keyL_good k (-1) h fun i _ => by omega]
  cases k with
  | nil => exact absurd rfl hn
  | cons _ _ => rfl
def iN (i : Nat) : Int := i
theorem intsD_iD : ∀ k : List Nat, intsD (k.map iD) = some (k.map iN)
  | [] => rfl
  | i :: k => by
    show (intsD (k.map iD)).map ((i : Int) :: ·) = _
    rw [intsD_iD k]; rfl
theorem intsK_key (k : List Nat) : intsK (keyD k) = k.map iN := by
  show (intsD (k.map iD)).getD [] = _
  rw [intsD_iD]; rfl
theorem castL_inj : ∀ a b : List Nat, a.map iN = b.map iN → a = b
  | [], [], _ => rfl
  | [], b :: bs, h => by cases h
  | a :: as, [], h => by cases h
  | a :: as, b :: bs, h => by
    rw [List.map_cons, List.map_cons] at h
    injection h with h1 h2
    have h3 : (a : Int) = (b : Int) := h1
    rw [castL_inj as bs h2, show a = b by omega]
theorem keysB_good {cs : List Col} {ks : List (List Nat)} (g : GK cs ks) (hl : ks.length ≤ 4) : keysB (cs.map colD) (.tuple (ks.map keyD)) = true := by
  show (decide ((ks.map keyD).length ≤ 4) && ((ks.map keyD).all (keyB (cs.map colD)) && decide (cnt ((ks.map keyD).map intsK) = (ks.map keyD).length))) = true
  have hall : (ks.map keyD).all (keyB (cs.map colD)) = true := by
    rw [List.all_eq_true]
    intro d hd
    obtain ⟨k, hk, rfl⟩ := List.mem_map.mp hd
    exact keyB_good (g.ok k hk).2 (g.ok k hk).1
  have nd : ((ks.map keyD).map intsK).Nodup := by
    rw [List.map_map]
    have : (intsK ∘ keyD) = fun k : List Nat => k.map iN := funext intsK_key
    rw [this]
    exact nodup_map_of (f := id) (h := fun k : List Nat => k.map iN) castL_inj (by rw [List.map_id]; exact g.nd)
  rw [hall, cnt_full nd, List.length_map, List.length_map, decide_eq_true hl]
  simp
/-! what is refused -/
theorem schB_n {n c k : PyData} (h : nmB n = false) : schB (.tuple [n, c, k]) = false := by
  show (nmB n && _) = false
  rw [h]; rfl
theorem schB_c {n c k : PyData} (h : colsB c = false) : schB (.tuple [n, c, k]) = false := by
  show (nmB n && (colsB c && _)) = false
  rw [h]; cases nmB n <;> rfl
theorem schB_k {n k : PyData} {cs : List PyData} (h : keysB cs k = false) : schB (.tuple [n, .tuple cs, k]) = false := by
  show (nmB n && (colsB (.tuple cs) && keysB cs k)) = false
  rw [h]; cases nmB n <;> cases colsB (.tuple cs) <;> rfl
theorem all_not {α : Type} {p : α → Bool} {l : List α} {x : α} (hx : x ∈ l) (h : p x = false) : l.all p = false := by
  cases q : l.all p with
  | false => rfl
  | true => rw [List.all_eq_true.mp q x hx] at h; cases h
theorem colsB_mem {cs : List PyData} {d : PyData} (hd : d ∈ cs) (h : colB d = false) : colsB (.tuple cs) = false := by
  show (decide (1 ≤ cs.length) && (decide (cs.length ≤ 12) && (cs.all colB && _))) = false
  rw [all_not hd h]; cases decide (1 ≤ cs.length) <;> cases decide (cs.length ≤ 12) <;> rfl
theorem colsB_len {cs : List PyData} (h : 12 < cs.length) : colsB (.tuple cs) = false := by
  show (decide (1 ≤ cs.length) && (decide (cs.length ≤ 12) && _)) = false
  rw [decide_eq_false (show ¬ cs.length ≤ 12 by omega)]; cases decide (1 ≤ cs.length) <;> rfl
theorem colsB_dup {cs : List PyData} (h : ¬ (cs.map nameK).Nodup) : colsB (.tuple cs) = false := by
  have := cnt_less h
  rw [List.length_map] at this
  show (decide (1 ≤ cs.length) && (decide (cs.length ≤ 12) && (cs.all colB && decide (cnt (cs.map nameK) = cs.length)))) = false
  rw [decide_eq_false this]
  cases decide (1 ≤ cs.length) <;> cases decide (cs.length ≤ 12) <;> cases cs.all colB <;> rfl
theorem keysB_mem {cs ks : List PyData} {d : PyData} (hd : d ∈ ks) (h : keyB cs d = false) : keysB cs (.tuple ks) = false := by
  show (decide (ks.length ≤ 4) && (ks.all (keyB cs) && _)) = false
  rw [all_not hd h]; cases decide (ks.length ≤ 4) <;> rfl
theorem keysB_len {cs ks : List PyData} (h : 4 < ks.length) : keysB cs (.tuple ks) = false := by
  show (decide (ks.length ≤ 4) && _) = false
  rw [decide_eq_false (show ¬ ks.length ≤ 4 by omega)]; rfl
theorem keysB_dup {cs ks : List PyData} (h : ¬ (ks.map intsK).Nodup) : keysB cs (.tuple ks) = false := by
  have := cnt_less h
  rw [List.length_map] at this
  show (decide (ks.length ≤ 4) && (ks.all (keyB cs) && decide (cnt (ks.map intsK) = ks.length))) = false
  rw [decide_eq_false this]
  cases decide (ks.length ≤ 4) <;> cases ks.all (keyB cs) <;> rfl
def shB : PyData → Bool
  | .str x => decide (x.length ≤ 1000)
  | _ => true
theorem sh_of {d : PyData} (h : shB d = true) : Sh d := by
  cases d with
  | str x =>
    have h2 : decide (x.length ≤ 1000) = true := h
    have h3 : x.length ≤ 1000 := of_decide_eq_true h2
    exact h3
  | _ => exact trivial
theorem with_is (cs : List PyData) (a : Nat) (d : PyData) (h : cs.length ≤ 1000) : m_law_with [.tuple cs, .int a, d] = .ok (.tuple (cs.take a ++ (d :: cs.drop (a + 1)))) := by
  have ct : cutL cs none (some (a : Int)) = cs.take a := cutL_to cs a
  have cf : cutL cs (some ((a : Int) + 1)) none = cs.drop (a + 1) := cutL_from cs (a + 1)
  have z1 : (cs.take a).length ≤ 1000 := by rw [List.length_take]; omega
  have z2 : (cs.drop (a + 1)).length ≤ 1000 := by rw [List.length_drop]; omega
  generalize cs.take a = A at *
  generalize cs.drop (a + 1) = B at *
  have z3 : A.length ≤ 16777215 := by omega
  have z4 : A.length + 1 + B.length ≤ 16777216 := by omega
  have z5 : A.length + (B.length + 1) ≤ 16777216 := by omega
  unfold m_law_with g_law_with
  simp [cutD_is, ct, cf, z3, z4, z5]
def BN : List PyData := [.str (tx []), .str (tx [65]), .str (tx [49, 97]), .str (tx [95, 97]), .str (tx [97, 32, 98]), .str (tx [97, 66]), .str (tx [97, 45, 98]), .str (tx (List.replicate 21 97)), .str (tx [115, 101, 108, 101, 99, 116]), .str (tx [114, 111, 119]), .str (tx [114, 111, 119, 115]), .str (tx [97, 46, 98]), .int 7, .none, .str (tx (List.replicate 20 97 ++ [95]))]
theorem bn_bad : ∀ d ∈ BN, nmB d = false ∧ shB d = true := by
  have : (BN.all fun d => !nmB d && shB d) = true := by decide +kernel
  intro d hd
  have := List.all_eq_true.mp this d hd
  simpa using this
theorem bad_name_is (xs : List Int) (hx : xs.length = 6) : ∃ d, m_law_bad_name [.list (xs.map .int)] = .ok d ∧ Sh d ∧ nmB d = false := by
  obtain ⟨x1, e1⟩ := draw_at xs (i := 1) (by omega) (by omega)
  obtain ⟨x4, e4⟩ := draw_at xs (i := 4) (by omega) (by omega)
  have f1 : (xs.map PyData.int)[1]? = some (.int x1) := by rw [← atI_one]; exact e1
  have f4 : (xs.map PyData.int)[4]? = some (.int x4) := by rw [← atI_4]; exact e4
  rw [List.getElem?_map] at f1 f4
  have b53 := fmod_bound (a := x1) (b := 53) (by decide)
  have b15 := fmod_bound (a := x1) (b := 15) (by decide)
  obtain ⟨d, g, hd⟩ := atI_mem (xs := WL.map wD) b53.1 (by rw [List.length_map, wl_len]; exact b53.2)
  obtain ⟨d2, g2, hd2⟩ := atI_mem (xs := BN) b15.1 b15.2
  have hA : mulVD (.str (tx [97])) (.int 21) = some (.str (tx (List.replicate 21 97))) := mulVD_tx 97 21 (by decide)
  have hB : mulVD (.str (tx [97])) (.int 20) = some (.str (tx (List.replicate 20 97))) := mulVD_tx 97 20 (by decide)
  unfold BN at g2
  generalize List.replicate 21 97 = R21 at *
  have hl : (List.replicate 20 97).length = 20 := List.length_replicate ..
  generalize List.replicate 20 97 = R20 at *
  by_cases c : x4.fmod 2 = 0
  · obtain ⟨w, hw, rfl⟩ := List.mem_map.mp hd
    refine ⟨wD w, ?_, ?_, ?_⟩
    · unfold m_law_bad_name g_law_bad_name
      simp [f1, f4, hA, hB, hl, c, words_is, g]
    · have := wl_short w hw
      show (tx w).length ≤ 1000
      rw [tx_len]; omega
    · show nmB (.str (tx w)) = false
      rw [nmB_tx]; exact wl_bad w hw
  · refine ⟨d2, ?_, sh_of (bn_bad d2 hd2).2, (bn_bad d2 hd2).1⟩
    unfold m_law_bad_name g_law_bad_name
    simp [f1, f4, hA, hB, hl, c, g2]
/-! a key that is none -/
theorem keyL_all {cs : List PyData} : ∀ (k : List PyData) (b : Int), keyL cs b k = true → ∀ d ∈ k, ∃ i c, d = .int i ∧ b < i ∧ i < cs.length ∧ atI cs i = some c ∧ nbB c = false
  | [], _, _, d, hd => by cases hd
  | x :: k, b, h, d, hd => by
    cases x with
    | int i =>
      rw [keyL] at h
      simp only [Bool.and_eq_true, decide_eq_true_eq] at h
      obtain ⟨h1, h2, h3, h4⟩ := h
      rcases List.mem_cons.mp hd with rfl | hd
      · cases q : atI cs i with
        | none => rw [q] at h3; cases h3
        | some c => rw [q] at h3; exact ⟨i, c, rfl, h1, h2, q, by simpa using h3⟩
      · obtain ⟨j, c, e1, e2, e3⟩ := keyL_all k i h4 d hd
        exact ⟨j, c, e1, by omega, e3⟩
    | none => simp [keyL] at h
    | bool z => simp [keyL] at h
    | str z => simp [keyL] at h
    | list z => simp [keyL] at h
    | tuple z => simp [keyL] at h
    | dict z => simp [keyL] at h
theorem keyB_mem {cs k : List PyData} {i : Int} (h : .int i ∈ k) (hb : i < 0 ∨ (cs.length : Int) ≤ i ∨ ∃ c, atI cs i = some c ∧ nbB c = true) : keyB cs (.tuple k) = false := by
  show (!k.isEmpty && keyL cs (-1) k) = false
  cases q : keyL cs (-1) k with
  | false => cases k.isEmpty <;> rfl
  | true =>
    obtain ⟨j, c, e1, e2, e3, e4, e5⟩ := keyL_all k (-1) q _ h
    cases e1
    rcases hb with hb | hb | ⟨c', hb, hb2⟩
    · omega
    · omega
    · rw [hb] at e4; cases e4; rw [hb2] at e5; cases e5
theorem keyB_down {cs : List PyData} {i j : Int} (h : j ≤ i) : keyB cs (.tuple [.int i, .int j]) = false := by
  show (![PyData.int i, .int j].isEmpty && keyL cs (-1) [.int i, .int j]) = false
  have hn : ¬ i < j := by omega
  simp [keyL, hn]
theorem keyB_nil (cs : List PyData) : keyB cs (.tuple []) = false := rfl
def closedL (cs : List Col) : List Nat := (List.range cs.length).filter fun i => nbAt cs i == true
theorem closed_at {cs : List Col} {i : Nat} (h : i ∈ closedL cs) : ∃ c, atI (cs.map colD) (i : Int) = some c ∧ nbB c = true := by
  obtain ⟨h1, h2⟩ := List.mem_filter.mp h
  obtain ⟨c, _, _, h3, h4⟩ := at_col (List.mem_range.mp h1)
  refine ⟨_, h3, ?_⟩
  rw [nb_col, ← h4]
  simpa using h2
theorem free_compB (cs : List Col) (s1 s2 s3 s4 s5 s6 s7 s8 s9 : Sl) : compL (bName 9) u2_law_bad_key e1_law_bad_key [.val (.tuple (cs.map colD)), s1, s2, s3, s4, s5, s6, s7, s8, s9] (rangeD 0 cs.length) = .ok ((freeL cs).map iD) := by
  have e := compL_filter (t := u2_law_bad_key) (f := e1_law_bad_key) (ρ := [.val (.tuple (cs.map colD)), s1, s2, s3, s4, s5, s6, s7, s8, s9]) 9 (p := pNb cs false) (φ := id) (rangeD 0 cs.length) (fun d hd => by
    obtain ⟨j, hj, rfl⟩ := rangeD_mem0 hd
    obtain ⟨c, _, _, h3, h4⟩ := at_col hj
    have hp : pNb cs false (.int (j : Int)) = (nbAt cs j == false) := by
      show (nbAt cs (j : Int).toNat == false) = _
      rw [Int.toNat_natCast]
    rw [hp, h4]
    unfold u2_law_bad_key
    cases hnb : c.nb <;> simp [h3, colD, hnb]) (fun d hd _ => by
    unfold e1_law_bad_key
    simp)
  rw [filter_nb, free_is] at e
  exact e
theorem closed_compB (cs : List Col) (s1 s2 s3 s4 s5 s6 s7 s8 s9 : Sl) : compL (bName 9) u4_law_bad_key e3_law_bad_key [.val (.tuple (cs.map colD)), s1, s2, s3, s4, s5, s6, s7, s8, s9] (rangeD 0 cs.length) = .ok ((closedL cs).map iD) := by
  have e := compL_filter (t := u4_law_bad_key) (f := e3_law_bad_key) (ρ := [.val (.tuple (cs.map colD)), s1, s2, s3, s4, s5, s6, s7, s8, s9]) 9 (p := pNb cs true) (φ := id) (rangeD 0 cs.length) (fun d hd => by
    obtain ⟨j, hj, rfl⟩ := rangeD_mem0 hd
    obtain ⟨c, _, _, h3, h4⟩ := at_col hj
    have hp : pNb cs true (.int (j : Int)) = (nbAt cs j == true) := by
      show (nbAt cs (j : Int).toNat == true) = _
      rw [Int.toNat_natCast]
    rw [hp, h4]
    unfold u4_law_bad_key
    cases hnb : c.nb <;> simp [h3, colD, hnb]) (fun d hd _ => by
    unfold e3_law_bad_key
    simp)
  rw [filter_nb] at e
  exact e
theorem nice_ints (k : List Nat) : niceD 2 (.list (k.map iD)) = true := by
  obtain ⟨k1, k2, k3, k4⟩ := ints_plain k
  exact niceD_iff.mpr ⟨by rw [noDic]; exact k2, by rw [PyData.canLay0]; exact k4, by rw [PyData.depth]; omega⟩
theorem ne_ints (k : List Nat) : neD (.list (k.map iD)) (.list []) = some (.bool (!decide (k = []))) := by
  have := neD_nice (niceD_mono (nice_ints k) (by decide : 2 ≤ 64)) (niceD_mono (nice_ints []) (by decide : 2 ≤ 64))
  rw [PyData.eqv, eqvAll_ints] at this
  exact this
theorem sort_ints (k : List Nat) (h : k.length ≤ 1000) : sortW [.list (k.map iD)] = .ok (sortF (k.map iD)) := by
  have hf : flatAlike (k.map iD) = true := by
    unfold flatAlike
    rw [Bool.and_eq_true, List.all_eq_true, List.all_eq_true]
    refine ⟨fun d hd => ?_, fun d hd => ?_⟩
    · obtain ⟨i, _, rfl⟩ := List.mem_map.mp hd
      rfl
    · rw [List.all_eq_true]
      intro e he
      obtain ⟨i, _, rfl⟩ := List.mem_map.mp hd
      obtain ⟨j, _, rfl⟩ := List.mem_map.mp he
      unfold iD
      rw [PySem.W.alike]
  show (if flatAlike (k.map iD) = true ∧ (k.map iD).length ≤ 16777216 then Res.ok (sortF (k.map iD)) else .bad) = _
  rw [if_pos ⟨hf, by rw [List.length_map]; omega⟩]
@[simp] theorem dSortF_is (fs : Sls → Res (List PyData)) (ρ : Sls) : dSortF fs ρ = (fs ρ >>= sortW) := nd rfl
theorem bad_key_is {cs : List Col} (hc : cs.length ≤ 12) (ks : List (List Nat)) (hk : ks.length ≤ 4) (xs : List Int) (hx : xs.length = 6) :
    ∃ kl : List PyData, m_law_bad_key [.tuple (cs.map colD), .tuple (ks.map keyD), .list (xs.map .int)] = .ok (.tuple kl) ∧ ∃ d ∈ kl, keyB (cs.map colD) d = false := by
  obtain ⟨x0, e0⟩ := draw_at xs (i := 0) (by omega) (by omega)
  obtain ⟨x1, e1⟩ := draw_at xs (i := 1) (by omega) (by omega)
  obtain ⟨x2, e2⟩ := draw_at xs (i := 2) (by omega) (by omega)
  obtain ⟨x3, e3⟩ := draw_at xs (i := 3) (by omega) (by omega)
  obtain ⟨x4, e4⟩ := draw_at xs (i := 4) (by omega) (by omega)
  have f0 : (xs.map PyData.int)[0]? = some (.int x0) := by rw [← atI_zero]; exact e0
  have f1 : (xs.map PyData.int)[1]? = some (.int x1) := by rw [← atI_one]; exact e1
  have f2 : (xs.map PyData.int)[2]? = some (.int x2) := by rw [← atI_2]; exact e2
  have f3 : (xs.map PyData.int)[3]? = some (.int x3) := by rw [← atI_3]; exact e3
  have f4 : (xs.map PyData.int)[4]? = some (.int x4) := by rw [← atI_4]; exact e4
  rw [List.getElem?_map] at f0 f1 f2 f3 f4
  have fc := free_compB cs (.val (.tuple (ks.map keyD))) (.val (.list (xs.map .int))) .un .un .un .un .un .un .un
  have cc := closed_compB cs (.val (.tuple (ks.map keyD))) (.val (.list (xs.map .int))) (.val (.list ((freeL cs).map iD))) .un .un .un .un .un .un
  have hr2 : rng1 [.int (cs.length : Int)] = some (rangeD 0 cs.length) := rng1_nat cs.length (by omega)
  have hrl : (rangeD 0 cs.length).length = cs.length := rangeD_length ..
  have hz : cs.length ≤ 16777216 := by omega
  have hcl : (cs.map colD).length = cs.length := List.length_map ..
  have hkl : (ks.map keyD).length = ks.length := List.length_map ..
  have ba := fmod_bound (a := x4) (b := (ks.length : Int) + 1) (by omega)
  obtain ⟨a, ha⟩ := Int.eq_ofNat_of_zero_le ba.1
  have hka : ¬ (ks.length : Int) + 1 = 0 := by omega
  have t1 : cutL (ks.map keyD) none (some (a : Int)) = (ks.map keyD).take a := cutL_to _ a
  have t2 : cutL ((ks.map keyD).take a) none (some (3 : Int)) = ((ks.map keyD).take a).take 3 := cutL_to _ 3
  have t3 : cutL (ks.map keyD) (some (a : Int)) none = (ks.map keyD).drop a := cutL_from _ a
  have t4 : cutL ((ks.map keyD).drop a) none (some (3 : Int)) = ((ks.map keyD).drop a).take 3 := cutL_to _ 3
  have z1 : (((ks.map keyD).take a).take 3).length ≤ 3 := by rw [List.length_take]; omega
  have z2 : (((ks.map keyD).drop a).take 3).length ≤ 3 := by rw [List.length_take]; omega
  have b3 := fmod_bound (a := x3) (b := 3) (by decide)
  obtain ⟨p, hp⟩ := Int.eq_ofNat_of_zero_le b3.1
  have t5 : cutL ((freeL cs).map iD) none (some (p : Int)) = ((freeL cs).map iD).take p := cutL_to _ p
  have z3 : (((freeL cs).map iD).take p).length ≤ 3 := by rw [List.length_take]; omega
  have b1 := fmod_bound (a := x1) (b := 2) (by decide)
  obtain ⟨q, hq⟩ := Int.eq_ofNat_of_zero_le b1.1
  have t6 : cutL ((freeL cs).map iD) (some (q : Int)) none = ((freeL cs).map iD).drop q := cutL_from _ q
  have b0 := fmod_bound (a := x0) (b := 3) (by decide)
  obtain ⟨r, hr⟩ := Int.eq_ofNat_of_zero_le (show 0 ≤ 1 + x0.fmod 3 by omega)
  have t7 : cutL (((freeL cs).map iD).drop q) none (some (r : Int)) = (((freeL cs).map iD).drop q).take r := cutL_to _ r
  have hne := ne_ints (closedL cs)
  have hne2 := ne_ints (freeL cs)
  have hfl : ((freeL cs).map iD).length = (freeL cs).length := List.length_map ..
  have hcll : ((closedL cs).map iD).length = (closedL cs).length := List.length_map ..
  have hin : ∀ v : Int, inX (.int v) (.tuple [.int 1, .int 6, .int 7]) = some (.bool (decide (v = 1 ∨ v = 6 ∨ v = 7))) := fun v => by
    rw [inX_tuple _ _ rfl rfl]
    simp only [hasD_cons, hasD_nil, eqv_int_int]
    by_cases c1 : v = 1
    · simp [c1]
    · by_cases c2 : v = 6
      · simp [c2]
      · by_cases c3 : v = 7
        · simp [c3]
        · have d1 : ¬ (1 : Int) = v := fun e => c1 e.symm
          have d2 : ¬ (6 : Int) = v := fun e => c2 e.symm
          have d3 : ¬ (7 : Int) = v := fun e => c3 e.symm
          simp [c1, c2, c3, d1, d2, d3]
  have b8 := fmod_bound (a := x2) (b := 8) (by decide)
  -- the bad one goes in between
  have fin : ∀ d : PyData, keyB (cs.map colD) d = false → m_law_bad_key [.tuple (cs.map colD), .tuple (ks.map keyD), .list (xs.map .int)] = .ok (.tuple (((ks.map keyD).take a).take 3 ++ (d :: ((ks.map keyD).drop a).take 3))) → ∃ kl : List PyData, m_law_bad_key [.tuple (cs.map colD), .tuple (ks.map keyD), .list (xs.map .int)] = .ok (.tuple kl) ∧ ∃ d ∈ kl, keyB (cs.map colD) d = false :=
    fun d h e => ⟨_, e, d, List.mem_append_right _ List.mem_cons_self, h⟩
  have key6 : ∀ v : Nat, v ∈ closedL cs → ∀ l : List PyData, iD v ∈ l → keyB (cs.map colD) (.tuple l) = false := fun v hv l hl => keyB_mem (i := (v : Int)) hl (.inr (.inr (closed_at hv)))
  have key2 : ∀ l : List PyData, keyB (cs.map colD) (.tuple (l ++ [.int (cs.length : Int)])) = false := fun l => keyB_mem (i := (cs.length : Int)) (List.mem_append_right _ (List.mem_singleton.mpr rfl)) (.inr (.inl (by rw [hcl]; exact Int.le_refl _)))
  have key3 : ∀ l : List PyData, keyB (cs.map colD) (.tuple (.int (-1) :: l)) = false := fun l => keyB_mem (i := -1) List.mem_cons_self (.inl (by decide))
  have key5 : ∀ i j : Int, j ≤ i → keyB (cs.map colD) (.tuple [.int i, .int j]) = false := fun i j h => keyB_down h
  have key0 : keyB (cs.map colD) (.tuple []) = false := rfl
  have lost : closedL cs ≠ [] → ∃ v : Nat, v ∈ closedL cs ∧ atI ((closedL cs).map iD) (x3.fmod (closedL cs).length) = some (iD v) := fun h => by
    have hl : 0 < (closedL cs).length := List.length_pos_iff.mpr h
    have bb := fmod_bound (a := x3) (b := ((closedL cs).length : Int)) (by omega)
    obtain ⟨d, g, hm⟩ := atI_mem (xs := (closedL cs).map iD) bb.1 (by rw [hcll]; exact bb.2)
    obtain ⟨v, hv, rfl⟩ := List.mem_map.mp hm
    exact ⟨v, hv, g⟩
  have srt : ∀ v : Nat, sortW [.list (iD v :: (((freeL cs).map iD).drop q).take r)] = .ok (sortF (iD v :: (((freeL cs).map iD).drop q).take r)) := fun v => by
    have e : iD v :: (((freeL cs).map iD).drop q).take r = (v :: ((freeL cs).drop q).take r).map iD := by rw [List.map_cons, List.map_take, List.map_drop]
    rw [e]
    exact sort_ints _ (by rw [List.length_cons, List.length_take]; omega)
  have z7 : ((((freeL cs).map iD).drop q).take r).length ≤ 3 := by rw [List.length_take]; omega
  have srtl : ∀ v : Nat, (sortF (iD v :: (((freeL cs).map iD).drop q).take r)).length ≤ 1000 := fun v => by
    have : (sortF (iD v :: (((freeL cs).map iD).drop q).take r)).length = _ := (List.mergeSort_perm _ _).length_eq
    rw [this, List.length_cons]; omega
  have srtm : ∀ v : Nat, iD v ∈ sortF (iD v :: (((freeL cs).map iD).drop q).take r) := fun v => sort_mem.mpr List.mem_cons_self
  have ups := (free_ok cs).up
  have fr0 : freeL cs ≠ [] → ∃ i : Nat, ((freeL cs).map iD)[0]? = some (iD i) := fun h => by
    cases q : freeL cs with
    | nil => exact absurd q h
    | cons i l => exact ⟨i, rfl⟩
  have fr1 : 1 < (freeL cs).length → ∃ i j : Nat, i < j ∧ ((freeL cs).map iD)[0]? = some (iD i) ∧ ((freeL cs).map iD)[1]? = some (iD j) := fun h => by
    cases q : freeL cs with
    | nil => rw [q] at h; cases h
    | cons i l =>
      cases l with
      | nil => rw [q] at h; exact absurd h (by simp)
      | cons j l =>
        rw [q] at ups
        exact ⟨i, j, (List.pairwise_cons.mp ups).1 j List.mem_cons_self, rfl, rfl⟩
  generalize hKA : ((ks.map keyD).take a).take 3 = KA at *
  generalize hKB : ((ks.map keyD).drop a).take 3 = KB at *
  generalize (ks.map keyD).take a = KA0 at *
  generalize (ks.map keyD).drop a = KB0 at *
  generalize ks.map keyD = KD at *
  have y1 : KA.length ≤ 16777215 := by omega
  have y2 : KA.length + 1 + KB.length ≤ 16777216 := by omega
  have y3 : KA.length + (KB.length + 1) ≤ 16777216 := by omega
  generalize (((freeL cs).map iD).drop q).take r = FR at *
  generalize ((freeL cs).map iD).drop q = FQ at *
  generalize ((freeL cs).map iD).take p = FP at *
  generalize (freeL cs).map iD = FL at *
  generalize (closedL cs).map iD = CL at *
  generalize cs.map colD = CD at *
  have y5 : FP.length ≤ 16777215 := by omega
  have y6 : 1 + FP.length ≤ 16777216 := by omega
  have y7 : FR.length ≤ 16777215 := by omega
  have y8 : 1 + FR.length ≤ 16777216 := by omega
  by_cases w0 : x2.fmod 8 = 0
  · refine fin _ key0 ?_
    unfold m_law_bad_key g_law_bad_key
    simp [hcl, hr2, hrl, hz, fc, cc, f0, f1, f2, f3, f4, hin, w0, hkl, hka, ha, cutD_is, t1, t2, t3, t4, y1, y2, y3]
  by_cases w1 : x2.fmod 8 = 1
  · by_cases hc0 : closedL cs = []
    · refine fin _ key0 ?_
      unfold m_law_bad_key g_law_bad_key
      simp [hcl, hr2, hrl, hz, fc, cc, f0, f1, f2, f3, f4, hin, w1, hne, hc0, hkl, hka, ha, cutD_is, t1, t2, t3, t4, y1, y2, y3]
    · obtain ⟨v, hv, g⟩ := lost hc0
      refine fin (.tuple [iD v]) (key6 v hv _ List.mem_cons_self) ?_
      unfold m_law_bad_key g_law_bad_key
      simp [hcl, hr2, hrl, hz, fc, cc, f0, f1, f2, f3, f4, hin, w1, hne, hc0, hcll, g, hkl, hka, ha, cutD_is, t1, t2, t3, t4, y1, y2, y3]
  by_cases w2 : x2.fmod 8 = 2
  · refine fin _ (key2 FP) ?_
    unfold m_law_bad_key g_law_bad_key
    simp [hcl, hr2, hrl, hz, fc, cc, f0, f1, f2, f3, f4, hin, w2, hp, t5, y5, hkl, hka, ha, cutD_is, t1, t2, t3, t4, y1, y2, y3]
  by_cases w3 : x2.fmod 8 = 3
  · refine fin _ (key3 FP) ?_
    unfold m_law_bad_key g_law_bad_key
    simp [hcl, hr2, hrl, hz, fc, cc, f0, f1, f2, f3, f4, hin, w3, hp, t5, y6, hkl, hka, ha, cutD_is, t1, t2, t3, t4, y1, y2, y3]
  by_cases w4 : x2.fmod 8 = 4
  · by_cases hf0 : freeL cs = []
    · refine fin _ key0 ?_
      unfold m_law_bad_key g_law_bad_key
      simp [hcl, hr2, hrl, hz, fc, cc, f0, f1, f2, f3, f4, hin, w4, hne2, hf0, hkl, hka, ha, cutD_is, t1, t2, t3, t4, y1, y2, y3]
    · obtain ⟨i, hi⟩ := fr0 hf0
      refine fin (.tuple [iD i, iD i]) (key5 i i (Int.le_refl _)) ?_
      unfold m_law_bad_key g_law_bad_key
      simp [hcl, hr2, hrl, hz, fc, cc, f0, f1, f2, f3, f4, hin, w4, hne2, hf0, hi, hkl, hka, ha, cutD_is, t1, t2, t3, t4, y1, y2, y3]
  by_cases w5 : x2.fmod 8 = 5
  · by_cases hf1 : 1 < (freeL cs).length
    · obtain ⟨i, j, hij, hi, hj⟩ := fr1 hf1
      have hf1i : (1 : Int) < (freeL cs).length := by omega
      refine fin (.tuple [iD j, iD i]) (key5 j i (by omega)) ?_
      unfold m_law_bad_key g_law_bad_key
      simp [hcl, hr2, hrl, hz, fc, cc, f0, f1, f2, f3, f4, hin, w5, hfl, hf1, hf1i, hi, hj, hkl, hka, ha, cutD_is, t1, t2, t3, t4, y1, y2, y3] <;> exact (List.getElem?_eq_some_iff.mp hj).2
    · have hf1i : ¬ (1 : Int) < (freeL cs).length := by omega
      refine fin _ key0 ?_
      unfold m_law_bad_key g_law_bad_key
      simp [hcl, hr2, hrl, hz, fc, cc, f0, f1, f2, f3, f4, hin, w5, hfl, hf1, hf1i, hkl, hka, ha, cutD_is, t1, t2, t3, t4, y1, y2, y3]
  have w67 : x2.fmod 8 = 6 ∨ x2.fmod 8 = 7 := by omega
  by_cases hc0 : closedL cs = []
  · refine fin _ key0 ?_
    unfold m_law_bad_key g_law_bad_key
    rcases w67 with w | w
    · simp [hcl, hr2, hrl, hz, fc, cc, f0, f1, f2, f3, f4, hin, w, hne, hc0, hkl, hka, ha, cutD_is, t1, t2, t3, t4, y1, y2, y3]
    · simp [hcl, hr2, hrl, hz, fc, cc, f0, f1, f2, f3, f4, hin, w, hne, hc0, hkl, hka, ha, cutD_is, t1, t2, t3, t4, y1, y2, y3]
  · obtain ⟨v, hv, g⟩ := lost hc0
    refine fin (.tuple (sortF (iD v :: FR))) (key6 v hv _ (srtm v)) ?_
    have s1 := srt v
    generalize sortF (iD v :: FR) = SF at *
    unfold m_law_bad_key g_law_bad_key
    rcases w67 with w | w
    · simp [hcl, hr2, hrl, hz, fc, cc, f0, f1, f2, f3, f4, hin, w, hne, hc0, hcll, g, hq, hr, t6, t7, y8, s1, hkl, hka, ha, cutD_is, t1, t2, t3, t4, y1, y2, y3]
    · simp [hcl, hr2, hrl, hz, fc, cc, f0, f1, f2, f3, f4, hin, w, hne, hc0, hcll, g, hq, hr, t6, t7, y8, s1, hkl, hka, ha, cutD_is, t1, t2, t3, t4, y1, y2, y3]
theorem refused_is {d : PyData} (h : ShS d) (h2 : schB d = false) : m_law_refused [d] = .ok (.bool true) := by
  have hc := check_is d h
  rw [h2] at hc
  have h1 : b1_law_refused [.val d, .un] = .exc bad0 [.val d, .un] := by
    unfold b1_law_refused
    simp [hc]
  have h3 : ∀ a : Addr, h2_law_refused a bad0 ([.val d, .un].set 1 (.adr a)) = .rt (.bool true) := fun a => by
    unfold h2_law_refused bad0
    simp
  have := gTryR_rt (tab := [("BadForm", true)]) (i := 1) (g1 := b1_law_refused) (g2 := h2_law_refused) h1 (by simp [bad0]) h3
  unfold m_law_refused g_law_refused
  simp [this]
/-! the changed schema -/
structure Sch where
  t : List Nat
  cs : List Col
  ks : List (List Nat)
structure Sch.Ok (S : Sch) : Prop where
  t : nmL S.t = true
  c : GC S.cs
  k : GK S.cs S.ks
  c1 : 1 ≤ S.cs.length
  c12 : S.cs.length ≤ 12
  k4 : S.ks.length ≤ 4
def Sch.dat (S : Sch) : PyData := .tuple [.str (tx S.t), .tuple (S.cs.map colD), .tuple (S.ks.map keyD)]
theorem sh_nm {l : List Nat} (h : nmL l = true) : Sh (.str (tx l)) := by
  have := ((nmL_iff _).1 h).2.1
  show (tx l).length ≤ 1000
  rw [tx_len]; omega
theorem sch_good {S : Sch} (h : S.Ok) : schB S.dat = true ∧ ShS S.dat := by
  refine ⟨?_, sh_nm h.t, shC_cols h.c⟩
  show (nmB (.str (tx S.t)) && (colsB (.tuple (S.cs.map colD)) && keysB (S.cs.map colD) (.tuple (S.ks.map keyD)))) = true
  rw [nmB_tx, h.t, colsB_good h.c h.c1 h.c12, keysB_good h.k h.k4]; rfl
/-- one column another -/
theorem sh_with {cs : List Col} (g : GC cs) (a : Nat) {d : PyData} (h : ShC d) : ∀ e ∈ (cs.map colD).take a ++ (d :: (cs.map colD).drop (a + 1)), ShC e := fun e he => by
  rcases List.mem_append.mp he with he | he
  · exact shC_cols g e (List.mem_of_mem_take he)
  · rcases List.mem_cons.mp he with rfl | he
    · exact h
    · exact shC_cols g e (List.mem_of_mem_drop he)
theorem mis_is {S : Sch} (h : S.Ok) {a : Nat} (ha : a < S.cs.length) (w : Int) (h0 : 0 ≤ w) (h1 : w < 12) :
    ∃ d, m_law_misshapen [.str (tx S.t), .tuple (S.cs.map colD), .tuple (S.ks.map keyD), .int a, .int w] = .ok d ∧ ShS d ∧ schB d = false := by
  obtain ⟨c, _, hc, hat, _⟩ := at_col ha
  have hs := sh_nm h.t
  have hsc := shC_cols h.c
  have hcl : (S.cs.map colD).length ≤ 1000 := by rw [List.length_map]; have := h.c12; omega
  have e2 : cutL [PyData.str (tx c.nm), PyData.str (tx c.kd), PyData.bool c.nb] none (some (2 : Int)) = [.str (tx c.nm), .str (tx c.kd)] := cutL_to _ 2
  have w2 := with_is (S.cs.map colD) a (.tuple [.str (tx c.nm), .str (tx c.kd)]) hcl
  have w3 := with_is (S.cs.map colD) a (.tuple [.str (tx c.nm), .str (tx c.kd), .bool c.nb, .bool true]) hcl
  have w4 := with_is (S.cs.map colD) a (.str (tx c.nm)) hcl
  have hw : w = 0 ∨ w = 1 ∨ w = 2 ∨ w = 3 ∨ w = 4 ∨ w = 5 ∨ w = 6 ∨ w = 7 ∨ w = 8 ∨ w = 9 ∨ w = 10 ∨ w = 11 := by omega
  have shc : ShC (.tuple [.str (tx c.nm), .str (tx c.kd)]) := sh_nm (h.c.nm c hc)
  have shc3 : ShC (.tuple [.str (tx c.nm), .str (tx c.kd), .bool c.nb, .bool true]) := sh_nm (h.c.nm c hc)
  have mem : ∀ d : PyData, d ∈ (S.cs.map colD).take a ++ (d :: (S.cs.map colD).drop (a + 1)) := fun d => List.mem_append_right _ List.mem_cons_self
  have sw2 := sh_with h.c a shc
  have sw3 := sh_with h.c a shc3
  have sw4 := sh_with h.c a (d := .str (tx c.nm)) trivial
  have cd : colD c = .tuple [.str (tx c.nm), .str (tx c.kd), .bool c.nb] := rfl
  rw [cd] at hat
  generalize (S.cs.map colD).take a = TA at *
  generalize (S.cs.map colD).drop (a + 1) = TB at *
  generalize S.cs.map colD = CD at *
  generalize S.ks.map keyD = KD at *
  rcases hw with rfl | rfl | rfl | rfl | rfl | rfl | rfl | rfl | rfl | rfl | rfl | rfl
  · exact ⟨.tuple [.str (tx S.t), .tuple CD], by unfold m_law_misshapen g_law_misshapen; simp [hat], trivial, rfl⟩
  · exact ⟨.tuple [.str (tx S.t), .tuple CD, .tuple KD, .tuple []], by unfold m_law_misshapen g_law_misshapen; simp [hat], trivial, rfl⟩
  · exact ⟨.tuple [.str (tx S.t), .tuple (TA ++ (.tuple [.str (tx c.nm), .str (tx c.kd)] :: TB)), .tuple []], by unfold m_law_misshapen g_law_misshapen; simp [hat, cutD_is, e2, w2], ⟨hs, sw2⟩, schB_c (colsB_mem (mem _) rfl)⟩
  · exact ⟨.tuple [.str (tx S.t), .tuple (TA ++ (.tuple [.str (tx c.nm), .str (tx c.kd), .bool c.nb, .bool true] :: TB)), .tuple []], by unfold m_law_misshapen g_law_misshapen; simp [hat, w3], ⟨hs, sw3⟩, schB_c (colsB_mem (mem _) rfl)⟩
  · exact ⟨.tuple [.str (tx S.t), .tuple (TA ++ (.str (tx c.nm) :: TB)), .tuple []], by unfold m_law_misshapen g_law_misshapen; simp [hat, w4], ⟨hs, sw4⟩, schB_c (colsB_mem (mem _) rfl)⟩
  · exact ⟨.tuple [.str (tx S.t), .tuple CD, .tuple [.int 0]], by unfold m_law_misshapen g_law_misshapen; simp [hat], ⟨hs, hsc⟩, schB_k (keysB_mem List.mem_cons_self rfl)⟩
  · exact ⟨.none, by unfold m_law_misshapen g_law_misshapen; simp [hat], trivial, rfl⟩
  · exact ⟨.int 7, by unfold m_law_misshapen g_law_misshapen; simp [hat], trivial, rfl⟩
  · exact ⟨.str (tx [116]), by unfold m_law_misshapen g_law_misshapen; simp [hat], trivial, rfl⟩
  · exact ⟨.tuple [], by unfold m_law_misshapen g_law_misshapen; simp [hat], trivial, rfl⟩
  · exact ⟨.tuple [.str (tx S.t), .none, .tuple []], by unfold m_law_misshapen g_law_misshapen; simp [hat], hs, schB_c rfl⟩
  · exact ⟨.tuple [.str (tx S.t), .tuple CD, .none], by unfold m_law_misshapen g_law_misshapen; simp [hat], ⟨hs, hsc⟩, schB_k rfl⟩
theorem mul_at {n : Nat} {x : Int} (h : 0 < n) : ∃ a : Nat, x.fmod n = (a : Int) ∧ a < n := by
  have b := fmod_bound (a := x) (b := (n : Int)) (by omega)
  obtain ⟨a, ha⟩ := Int.eq_ofNat_of_zero_le b.1
  exact ⟨a, ha, by omega⟩
/-- another place -/
theorem other_at {n a : Nat} (ha : a < n) (h : 1 < n) (x : Int) : ∃ j : Nat, ((a : Int) + 1 + x.fmod ((n : Int) - 1)).fmod n = (j : Int) ∧ j < n ∧ j ≠ a := by
  have b := fmod_bound (a := x) (b := (n : Int) - 1) (by omega)
  obtain ⟨r, hr⟩ := Int.eq_ofNat_of_zero_le b.1
  rw [hr] at b ⊢
  rw [show (a : Int) + 1 + (r : Int) = ((a + 1 + r : Nat) : Int) by omega, Int.fmod_eq_emod_of_nonneg _ (by omega)]
  by_cases c : a + 1 + r < n
  · exact ⟨a + 1 + r, by rw [Int.emod_eq_of_lt (by omega) (by omega)], c, by omega⟩
  · refine ⟨a + 1 + r - n, ?_, by omega, by omega⟩
    rw [show ((a + 1 + r : Nat) : Int) = ((a + 1 + r - n : Nat) : Int) + (n : Int) by omega, Int.add_emod_right, Int.emod_eq_of_lt (by omega) (by omega)]
theorem twin_mem {cs : List Col} {a j : Nat} {c : Col} (hj : cs[j]? = some c) (h : j ≠ a) : c ∈ cs.take a ∨ c ∈ cs.drop (a + 1) := by
  rcases Nat.lt_or_gt_of_ne h with h | h
  · left
    exact List.mem_of_getElem? (i := j) (by rw [List.getElem?_take, if_pos h]; exact hj)
  · right
    refine List.mem_of_getElem? (i := j - (a + 1)) ?_
    rw [List.getElem?_drop, show a + 1 + (j - (a + 1)) = j by omega]; exact hj
theorem nameK_col (c : Col) : nameK (colD c) = .inr (tx c.nm) := rfl
theorem dup_names {A B : List Col} {c d : Col} (h : c ∈ A ∨ c ∈ B) (hd : d.nm = c.nm) : ¬ ((A.map colD ++ (colD d :: B.map colD)).map nameK).Nodup := fun nd => by
  rw [List.map_append, List.map_cons, nameK_col, hd] at nd
  obtain ⟨_, n2, n3⟩ := List.nodup_append.mp nd
  rcases h with h | h
  · exact n3 (Sum.inr (tx c.nm)) (List.mem_map.mpr ⟨colD c, List.mem_map.mpr ⟨c, h, rfl⟩, rfl⟩) _ List.mem_cons_self rfl
  · exact (List.nodup_cons.mp n2).1 (List.mem_map.mpr ⟨colD c, List.mem_map.mpr ⟨c, h, rfl⟩, rfl⟩)
theorem nice_keys (ks : List (List Nat)) : niceD 3 (.tuple (ks.map keyD)) = true := nice_tuple fun d hd => by
  obtain ⟨k, _, rfl⟩ := List.mem_map.mp hd
  exact nice_key k
theorem ne_keys (ks : List (List Nat)) : neD (.tuple (ks.map keyD)) (.tuple []) = some (.bool (!decide (ks = []))) := by
  have := neD_nice (niceD_mono (nice_keys ks) (by decide : 3 ≤ 64)) (niceD_mono (nice_keys []) (by decide : 3 ≤ 64))
  rw [show PyData.eqv (.tuple (ks.map keyD)) (.tuple (([] : List (List Nat)).map keyD)) = decide (ks = []) by
    cases ks with
    | nil => simp [PyData.eqv, PyData.eqvAll]
    | cons k r => simp [PyData.eqv, PyData.eqvAll]] at this
  exact this
def K5 : PyData := .tuple [.tuple [.int 0], .tuple [.int 1], .tuple [.int 2], .tuple [.int 3], .tuple [.int 4]]
def KB4 : List PyData := [.tuple [.tuple [.bool false]], .tuple [.tuple [.bool true]], .tuple [.tuple [.int 0, .bool true]], .tuple [.tuple [.int 1], .tuple [.bool false, .int 1]]]
def C2 : List PyData := [.tuple [.str (tx [107]), .str (tx [105, 110, 116]), .bool false], .tuple [.str (tx [110]), .str (tx [116, 101, 120, 116]), .bool false]]
theorem kb4_bad : ∀ d ∈ KB4, keysB C2 d = false := by
  have : (KB4.all fun d => !keysB C2 d) = true := by decide +kernel
  intro d hd
  simpa using List.all_eq_true.mp this d hd
def BK : List PyData := [.str (tx [102, 108, 111, 97, 116]), .str (tx []), .none, .str (tx [73, 110, 116])]
theorem bk_bad : ∀ d ∈ BK, kdB d = false := by
  have : (BK.all fun d => !kdB d) = true := by decide +kernel
  intro d hd
  simpa using List.all_eq_true.mp this d hd
def BB : List PyData := [.none, .int 2, .str (tx []), .str (tx [121, 101, 115])]
theorem bb_bad : ∀ d ∈ BB, isBool d = false := by
  have : (BB.all fun d => !isBool d) = true := by decide +kernel
  intro d hd
  simpa using List.all_eq_true.mp this d hd
theorem colB_k {n k b : PyData} (h : kdB k = false) : colB (.tuple [n, k, b]) = false := by
  show (nmB n && (kdB k && isBool b)) = false
  rw [h]; cases nmB n <;> rfl
theorem colB_b {n k b : PyData} (h : isBool b = false) : colB (.tuple [n, k, b]) = false := by
  show (nmB n && (kdB k && isBool b)) = false
  rw [h]; cases nmB n <;> cases kdB k <;> rfl
theorem colB_n {n k b : PyData} (h : nmB n = false) : colB (.tuple [n, k, b]) = false := by
  show (nmB n && (kdB k && isBool b)) = false
  rw [h]; rfl
theorem five_comp (s0 s1 s2 s3 s4 s5 s6 s7 s8 s9 s10 s11 : Sl) : ∃ ys : List PyData, compL (bName 10) tYesD e1_law_changed [s0, s1, s2, s3, s4, s5, s6, s7, s8, s9, s10, s11] (([97, 98, 99, 100, 101] : List Nat).map fun c => .str (tx [c])) = .ok ys ∧ ys.length = 5 ∧ ∀ y ∈ ys, ShC y := by
  obtain ⟨ys, h1, h2, h3⟩ := compL_all [s0, s1, s2, s3, s4, s5, s6, s7, s8, s9, s10, s11] e1_law_changed 10 (P := ShC) (([97, 98, 99, 100, 101] : List Nat).map fun c => .str (tx [c])) fun d hd => by
    obtain ⟨c, _, rfl⟩ := List.mem_map.mp hd
    refine ⟨.tuple [.str (tx [107, c]), .str (tx [105, 110, 116]), .bool false], ?_, ?_⟩
    · unfold e1_law_changed
      simp
    · show (tx [107, c]).length ≤ 1000
      rw [tx_len]
      show 2 ≤ 1000
      decide
  exact ⟨ys, h1, by rw [h2]; rfl, h3⟩
theorem thirteen_comp (s0 s1 s2 s3 s4 s5 s6 s7 s8 s9 s10 s11 : Sl) : ∃ ys : List PyData, compL (bName 11) tYesD e2_law_changed [s0, s1, s2, s3, s4, s5, s6, s7, s8, s9, s10, s11] (rangeD 0 13) = .ok ys ∧ ys.length = 13 ∧ ∀ y ∈ ys, ShC y := by
  obtain ⟨ys, h1, h2, h3⟩ := compL_all [s0, s1, s2, s3, s4, s5, s6, s7, s8, s9, s10, s11] e2_law_changed 11 (P := ShC) (rangeD 0 13) fun d hd => by
    obtain ⟨j, hj, rfl⟩ := rangeD_mem0 hd
    obtain ⟨c, hc, _⟩ := atI_mem (xs := ([97, 98, 99, 100, 101, 102, 103, 104, 105, 106, 107, 108, 109] : List Nat)) (i := (j : Int)) (by omega) (by simp; omega)
    refine ⟨.tuple [.str (tx [99, c]), .str (tx [105, 110, 116]), .bool true], ?_, ?_⟩
    · unfold e2_law_changed
      simp [hc]
    · show (tx [99, c]).length ≤ 1000
      rw [tx_len]
      show 2 ≤ 1000
      decide
  exact ⟨ys, h1, by rw [h2, rangeD_length], h3⟩
theorem changed_is {S : Sch} (h : S.Ok) (xs : List Int) (hx : xs.length = 6) : ∃ d, m_law_changed [S.dat, .list (xs.map .int)] = .ok d ∧ ShS d ∧ schB d = false := by
  obtain ⟨x0, e0⟩ := draw_at xs (i := 0) (by omega) (by omega)
  obtain ⟨x1, e1⟩ := draw_at xs (i := 1) (by omega) (by omega)
  obtain ⟨x2, e2⟩ := draw_at xs (i := 2) (by omega) (by omega)
  obtain ⟨x5, e5⟩ := draw_at xs (i := 5) (by omega) (by omega)
  have f0 : (xs.map PyData.int)[0]? = some (.int x0) := by rw [← atI_zero]; exact e0
  have f1 : (xs.map PyData.int)[1]? = some (.int x1) := by rw [← atI_one]; exact e1
  have f2 : (xs.map PyData.int)[2]? = some (.int x2) := by rw [← atI_2]; exact e2
  have f5 : (xs.map PyData.int)[5]? = some (.int x5) := by rw [← atI_5]; exact e5
  rw [List.getElem?_map] at f0 f1 f2 f5
  obtain ⟨a, ha, hal⟩ := mul_at (x := x5) (show 0 < S.cs.length from h.c1)
  obtain ⟨c, hca, hc, hat, _⟩ := at_col hal
  have cd : colD c = .tuple [.str (tx c.nm), .str (tx c.kd), .bool c.nb] := rfl
  have hs := sh_nm h.t
  have hsc := shC_cols h.c
  have hcl : (S.cs.map colD).length = S.cs.length := List.length_map ..
  have hkl : (S.ks.map keyD).length = S.ks.length := List.length_map ..
  have c1 := h.c1
  have c12 := h.c12
  have hc0 : S.cs ≠ [] := fun e => by rw [e] at c1; cases c1
  have wi := fun d => with_is (S.cs.map colD) a d (by rw [hcl]; omega)
  have sw := fun d => sh_with h.c a (d := d)
  have mem : ∀ d : PyData, d ∈ (S.cs.map colD).take a ++ (d :: (S.cs.map colD).drop (a + 1)) := fun d => List.mem_append_right _ List.mem_cons_self
  have b12 := fmod_bound (a := x0) (b := 12) (by decide)
  have cdat : S.dat = .tuple [.str (tx S.t), .tuple (S.cs.map colD), .tuple (S.ks.map keyD)] := rfl
  rw [cdat]
  by_cases w9 : x0.fmod 12 = 9
  · obtain ⟨ys, q1, q2, q3⟩ := five_comp (.val S.dat) (.val (.list (xs.map .int))) (.val (.str (tx S.t))) (.val (.tuple (S.cs.map colD))) (.val (.tuple (S.ks.map keyD))) (.val (.int a)) (.val (colD c)) (.val (.int 9)) .un .un .un .un
    rw [cdat] at q1
    refine ⟨.tuple [.str (tx S.t), .tuple ys, K5], ?_, ⟨hs, q3⟩, schB_k (keysB_len (by decide))⟩
    unfold K5
    generalize S.cs.map colD = CD at *
    generalize S.ks.map keyD = KD at *
    simp at q1
    unfold m_law_changed g_law_changed
    simp [f0, f1, f2, f5, hcl, hc0, ha, hat, w9, q1]
  by_cases w10 : x0.fmod 12 = 10
  · have b4 := fmod_bound (a := x1) (b := 4) (by decide)
    obtain ⟨d, g, hd⟩ := atI_mem (xs := KB4) b4.1 b4.2
    unfold KB4 at g
    refine ⟨.tuple [.str (tx S.t), .tuple C2, d], ?_, ⟨hs, fun e he => ?_⟩, schB_k (kb4_bad d hd)⟩
    · unfold C2
      generalize S.cs.map colD = CD at *
      generalize S.ks.map keyD = KD at *
      unfold m_law_changed g_law_changed
      simp [f0, f1, f2, f5, hcl, hc0, ha, hat, w9, w10, g]
    · unfold C2 at he
      rcases List.mem_cons.mp he with rfl | he
      · show (tx [107]).length ≤ 1000
        decide
      · rw [List.mem_singleton.mp he]
        show (tx [110]).length ≤ 1000
        decide
  by_cases w11 : x0.fmod 12 = 11
  · have b := fmod_bound (a := x1) (b := 12) (by decide)
    obtain ⟨d, q1, q2, q3⟩ := mis_is h hal (x1.fmod 12) b.1 b.2
    refine ⟨d, ?_, q2, q3⟩
    generalize S.cs.map colD = CD at *
    generalize S.ks.map keyD = KD at *
    unfold m_law_changed g_law_changed
    simp [f0, f1, f2, f5, hcl, hc0, ha, hat, w9, w10, w11, q1]
  by_cases w0 : x0.fmod 12 = 0
  · obtain ⟨d, q1, q2, q3⟩ := bad_name_is xs hx
    refine ⟨.tuple [d, .tuple (S.cs.map colD), .tuple (S.ks.map keyD)], ?_, ⟨q2, hsc⟩, schB_n q3⟩
    generalize S.cs.map colD = CD at *
    generalize S.ks.map keyD = KD at *
    unfold m_law_changed g_law_changed
    simp [f0, f1, f2, f5, hcl, hc0, ha, hat, w9, w10, w11, w0, q1]
  by_cases w1 : x0.fmod 12 = 1
  · obtain ⟨d, q1, q2, q3⟩ := bad_name_is xs hx
    have w := wi (.tuple [d, .str (tx c.kd), .bool c.nb])
    refine ⟨.tuple [.str (tx S.t), .tuple ((S.cs.map colD).take a ++ (.tuple [d, .str (tx c.kd), .bool c.nb] :: (S.cs.map colD).drop (a + 1))), .tuple (S.ks.map keyD)], ?_, ⟨hs, sw _ q2⟩, schB_c (colsB_mem (mem _) (colB_n q3))⟩
    rw [cd] at hat
    generalize (S.cs.map colD).take a = TA at *
    generalize (S.cs.map colD).drop (a + 1) = TB at *
    generalize S.cs.map colD = CD at *
    generalize S.ks.map keyD = KD at *
    unfold m_law_changed g_law_changed
    simp [f0, f1, f2, f5, hcl, hc0, ha, hat, w9, w10, w11, w0, w1, q1, w]
  by_cases w2 : x0.fmod 12 = 2
  · refine ⟨.tuple [.str (tx S.t), .tuple [], .tuple []], ?_, ⟨hs, fun e he => by cases he⟩, schB_c rfl⟩
    generalize S.cs.map colD = CD at *
    generalize S.ks.map keyD = KD at *
    unfold m_law_changed g_law_changed
    simp [f0, f1, f2, f5, hcl, hc0, ha, hat, w9, w10, w11, w0, w1, w2]
  by_cases w3 : x0.fmod 12 = 3
  · obtain ⟨ys, q1, q2, q3⟩ := thirteen_comp (.val S.dat) (.val (.list (xs.map .int))) (.val (.str (tx S.t))) (.val (.tuple (S.cs.map colD))) (.val (.tuple (S.ks.map keyD))) (.val (.int a)) (.val (colD c)) (.val (.int 3)) .un .un .un .un
    rw [cdat] at q1
    refine ⟨.tuple [.str (tx S.t), .tuple ys, .tuple []], ?_, ⟨hs, q3⟩, schB_c (colsB_len (by omega))⟩
    have hr : rng1 [.int 13] = some (rangeD 0 13) := rng1_nat 13 (by decide)
    have hrl : (rangeD 0 13).length = 13 := rangeD_length ..
    generalize S.cs.map colD = CD at *
    generalize S.ks.map keyD = KD at *
    generalize rangeD 0 13 = RD at *
    unfold m_law_changed g_law_changed
    simp [f0, f1, f2, f5, hcl, hc0, ha, hat, w9, w10, w11, w0, w1, w2, w3, hr, hrl, q1]
  by_cases w4 : x0.fmod 12 = 4
  · by_cases h4 : 1 < S.cs.length ∧ x1.fmod 2 = 0
    · obtain ⟨h4a, h4b⟩ := h4
      obtain ⟨j, hj, hjl, hne⟩ := other_at hal h4a x2
      obtain ⟨e, hje, he, het, _⟩ := at_col hjl
      have ced : colD e = .tuple [.str (tx e.nm), .str (tx e.kd), .bool e.nb] := rfl
      have w := wi (colD ⟨e.nm, c.kd, c.nb⟩)
      have dup := dup_names (d := ⟨e.nm, c.kd, c.nb⟩) (twin_mem hje hne) rfl
      rw [List.map_take, List.map_drop] at dup
      refine ⟨.tuple [.str (tx S.t), .tuple ((S.cs.map colD).take a ++ (colD ⟨e.nm, c.kd, c.nb⟩ :: (S.cs.map colD).drop (a + 1))), .tuple []], ?_, ⟨hs, sw _ (sh_nm (h.c.nm e he))⟩, schB_c (colsB_dup dup)⟩
      have cd2 : colD ⟨e.nm, c.kd, c.nb⟩ = .tuple [.str (tx e.nm), .str (tx c.kd), .bool c.nb] := rfl
      rw [cd] at hat
      rw [ced] at het
      rw [cd2] at w ⊢
      have hm1 : ¬ (S.cs.length : Int) - 1 = 0 := by omega
      have h4i : (1 : Int) < (S.cs.length : Int) := by omega
      clear dup
      generalize (S.cs.map colD).take a = TA at *
      generalize (S.cs.map colD).drop (a + 1) = TB at *
      generalize S.cs.map colD = CD at *
      generalize S.ks.map keyD = KD at *
      unfold m_law_changed g_law_changed
      simp [f0, f1, f2, f5, hcl, hc0, ha, hat, w9, w10, w11, w0, w1, w2, w3, w4, h4a, h4i, h4b, hm1, hj, het, w]
    · obtain ⟨j, hj, hjl⟩ := mul_at (n := min 11 S.cs.length) (x := x5) (by omega)
      obtain ⟨e, hje, he, het, _⟩ := at_col (cs := S.cs) (i := j) (by omega)
      have ced : colD e = .tuple [.str (tx e.nm), .str (tx e.kd), .bool e.nb] := rfl
      have hin : e ∈ S.cs.take 11 := List.mem_of_getElem? (i := j) (by rw [List.getElem?_take, if_pos (by omega)]; exact hje)
      have dup := dup_names (A := S.cs.take 11) (B := []) (c := e) (d := ⟨e.nm, e.kd, true⟩) (.inl hin) rfl
      rw [List.map_take] at dup
      have t11 : cutL (S.cs.map colD) none (some (11 : Int)) = (S.cs.map colD).take 11 := cutL_to _ 11
      have t2 : cutL [PyData.str (tx e.nm), PyData.str (tx e.kd), PyData.bool e.nb] none (some (2 : Int)) = [.str (tx e.nm), .str (tx e.kd)] := cutL_to _ 2
      refine ⟨.tuple [.str (tx S.t), .tuple ((S.cs.map colD).take 11 ++ [colD ⟨e.nm, e.kd, true⟩]), .tuple []], ?_, ⟨hs, fun z hz => ?_⟩, schB_c (colsB_dup dup)⟩
      · have cd2 : colD ⟨e.nm, e.kd, true⟩ = .tuple [.str (tx e.nm), .str (tx e.kd), .bool true] := rfl
        rw [ced] at het
        rw [cd2]
        have z1 : ((S.cs.map colD).take 11).length ≤ 16777215 := by rw [List.length_take]; omega
        have hmin : (if (S.cs.length : Int) < 11 then (S.cs.length : Int) else 11) = ((min 11 S.cs.length : Nat) : Int) := by
          by_cases q : S.cs.length < 11
          · rw [if_pos (by omega)]; omega
          · rw [if_neg (by omega)]; omega
        have hm0 : ¬ min 11 S.cs.length = 0 := by omega
        clear dup
        generalize min 11 S.cs.length = M at *
        generalize (S.cs.map colD).take 11 = TA at *
        generalize S.cs.map colD = CD at *
        generalize S.ks.map keyD = KD at *
        unfold m_law_changed g_law_changed
        by_cases h4a : 1 < S.cs.length
        · have h4b : ¬ x1.fmod 2 = 0 := fun q => h4 ⟨h4a, q⟩
          have h4i : (1 : Int) < (S.cs.length : Int) := by omega
          simp [f0, f1, f2, f5, hcl, hc0, ha, hat, w9, w10, w11, w0, w1, w2, w3, w4, h4a, h4i, h4b, cutD_is, t11, hmin, hm0, hj, het, t2, z1]
        · have h4i : ¬ (1 : Int) < (S.cs.length : Int) := by omega
          simp [f0, f1, f2, f5, hcl, hc0, ha, hat, w9, w10, w11, w0, w1, w2, w3, w4, h4a, h4i, cutD_is, t11, hmin, hm0, hj, het, t2, z1]
      · rcases List.mem_append.mp hz with hz | hz
        · exact hsc z (List.mem_of_mem_take hz)
        · rw [List.mem_singleton.mp hz]; exact sh_nm (h.c.nm e he)
  by_cases w5 : x0.fmod 12 = 5
  · have b4 := fmod_bound (a := x1) (b := 4) (by decide)
    obtain ⟨d, g, hd⟩ := atI_mem (xs := BK) b4.1 b4.2
    unfold BK at g
    have w := wi (.tuple [.str (tx c.nm), d, .bool c.nb])
    refine ⟨.tuple [.str (tx S.t), .tuple ((S.cs.map colD).take a ++ (.tuple [.str (tx c.nm), d, .bool c.nb] :: (S.cs.map colD).drop (a + 1))), .tuple []], ?_, ⟨hs, sw _ (sh_nm (h.c.nm c hc))⟩, schB_c (colsB_mem (mem _) (colB_k (bk_bad d hd)))⟩
    rw [cd] at hat
    generalize (S.cs.map colD).take a = TA at *
    generalize (S.cs.map colD).drop (a + 1) = TB at *
    generalize S.cs.map colD = CD at *
    generalize S.ks.map keyD = KD at *
    unfold m_law_changed g_law_changed
    simp [f0, f1, f2, f5, hcl, hc0, ha, hat, w9, w10, w11, w0, w1, w2, w3, w4, w5, g, w]
  by_cases w6 : x0.fmod 12 = 6
  · have b4 := fmod_bound (a := x1) (b := 4) (by decide)
    obtain ⟨d, g, hd⟩ := atI_mem (xs := BB) b4.1 b4.2
    unfold BB at g
    have w := wi (.tuple [.str (tx c.nm), .str (tx c.kd), d])
    refine ⟨.tuple [.str (tx S.t), .tuple ((S.cs.map colD).take a ++ (.tuple [.str (tx c.nm), .str (tx c.kd), d] :: (S.cs.map colD).drop (a + 1))), .tuple []], ?_, ⟨hs, sw _ (sh_nm (h.c.nm c hc))⟩, schB_c (colsB_mem (mem _) (colB_b (bb_bad d hd)))⟩
    rw [cd] at hat
    generalize (S.cs.map colD).take a = TA at *
    generalize (S.cs.map colD).drop (a + 1) = TB at *
    generalize S.cs.map colD = CD at *
    generalize S.ks.map keyD = KD at *
    unfold m_law_changed g_law_changed
    simp [f0, f1, f2, f5, hcl, hc0, ha, hat, w9, w10, w11, w0, w1, w2, w3, w4, w5, w6, g, w]
  have nk := ne_keys S.ks
  by_cases w7 : x0.fmod 12 = 7 ∧ S.ks ≠ []
  · obtain ⟨w7, hk0⟩ := w7
    have k4 := h.k4
    have k1 : 0 < S.ks.length := List.length_pos_iff.mpr hk0
    obtain ⟨i, hi, hil⟩ := mul_at (x := x1) k1
    have hget : atI (S.ks.map keyD) (i : Int) = some (keyD S.ks[i]) := by rw [atI_nat, List.getElem?_map, List.getElem?_eq_getElem hil]; rfl
    have hmem : S.ks[i] ∈ S.ks := List.getElem_mem hil
    generalize S.ks[i] = K at *
    have b2 := fmod_bound (a := x2) (b := 2) (by decide)
    have dup1 : ¬ ((S.ks.map keyD ++ [keyD K]).map intsK).Nodup := fun nd => by
      rw [List.map_append] at nd
      exact (List.nodup_append.mp nd).2.2 (intsK (keyD K)) (List.mem_map.mpr ⟨_, List.mem_map.mpr ⟨K, hmem, rfl⟩, rfl⟩) _ (List.mem_singleton.mpr rfl) rfl
    have dup2 : ¬ ((keyD K :: S.ks.map keyD).map intsK).Nodup := fun nd => by
      rw [List.map_cons] at nd
      exact (List.nodup_cons.mp nd).1 (List.mem_map.mpr ⟨_, List.mem_map.mpr ⟨K, hmem, rfl⟩, rfl⟩)
    have z1 : S.ks.length ≤ 16777215 := by omega
    have z2 : 1 + S.ks.length ≤ 16777216 := by omega
    by_cases q : x2.fmod 2 = 0
    · refine ⟨.tuple [.str (tx S.t), .tuple (S.cs.map colD), .tuple (S.ks.map keyD ++ [keyD K])], ?_, ⟨hs, hsc⟩, schB_k (keysB_dup dup1)⟩
      clear dup1 dup2
      generalize S.cs.map colD = CD at *
      generalize S.ks.map keyD = KD at *
      unfold m_law_changed g_law_changed
      simp [f0, f1, f2, f5, hcl, hc0, ha, hat, w9, w10, w11, w0, w1, w2, w3, w4, w5, w6, w7, nk, hk0, hkl, hi, hget, q, z1, z2]
    · have q1 : x2.fmod 2 = 1 := by omega
      refine ⟨.tuple [.str (tx S.t), .tuple (S.cs.map colD), .tuple (keyD K :: S.ks.map keyD)], ?_, ⟨hs, hsc⟩, schB_k (keysB_dup dup2)⟩
      clear dup1 dup2
      generalize S.cs.map colD = CD at *
      generalize S.ks.map keyD = KD at *
      unfold m_law_changed g_law_changed
      simp [f0, f1, f2, f5, hcl, hc0, ha, hat, w9, w10, w11, w0, w1, w2, w3, w4, w5, w6, w7, nk, hk0, hkl, hi, hget, q1, z1, z2]
  · obtain ⟨kl, q1, d, hd, q2⟩ := bad_key_is h.c12 S.ks h.k4 xs hx
    refine ⟨.tuple [.str (tx S.t), .tuple (S.cs.map colD), .tuple kl], ?_, ⟨hs, hsc⟩, schB_k (keysB_mem hd q2)⟩
    clear q2 hd
    generalize S.cs.map colD = CD at *
    generalize S.ks.map keyD = KD at *
    unfold m_law_changed g_law_changed
    by_cases w7a : x0.fmod 12 = 7
    · have hk0 : S.ks = [] := Classical.byContradiction fun e => w7 ⟨w7a, e⟩
      simp [f0, f1, f2, f5, hcl, hc0, ha, hat, w9, w10, w11, w0, w1, w2, w3, w4, w5, w6, w7a, nk, hk0, q1]
    · simp [f0, f1, f2, f5, hcl, hc0, ha, hat, w9, w10, w11, w0, w1, w2, w3, w4, w5, w6, w7a, q1]
theorem turn_is (ns : List Int) {S : Sch} (h : S.Ok) (s1 s2 s3 : Sl) (k : Nat) : b1_law [.val (.list (ns.map .int)), s1, s2, s3, .val S.dat, .val (.int k)] = .nx [.val (.list (ns.map .int)), s1, s2, s3, .val S.dat, .val (.int k)] := by
  obtain ⟨g1, g2⟩ := sch_good h
  have hc := check_is S.dat g2
  rw [g1] at hc
  obtain ⟨v, hv⟩ := cell_is ns (15 + k)
  have hv' : m_law_cell [.list (ns.map .int), .int (15 + (k : Int))] = .ok (.int v) := by rw [← hv]; simp
  obtain ⟨xs, hd, hl, _⟩ := draws_is v 6 (by decide)
  have hd' : m_law_draws [.int v, .int 6] = .ok (.list (xs.map .int)) := hd
  obtain ⟨d, q1, q2, q3⟩ := changed_is h xs hl
  have hr := refused_is q2 q3
  generalize S.dat = D at *
  unfold b1_law
  simp [hc, hv', hd', q1, hr]
theorem law_true : ∀ ns : List Int, ns.length ≤ 63 → m_law [.list (ns.map .int)] = .ok (.bool true) := fun ns hn => by
  obtain ⟨v0, hv0⟩ := cell_is ns 0
  have hv0' : m_law_cell [.list (ns.map .int), .int 0] = .ok (.int v0) := hv0
  obtain ⟨xs, hd, hl, _⟩ := draws_is v0 20 (by decide)
  have hd' : m_law_draws [.int v0, .int 20] = .ok (.list (xs.map .int)) := hd
  obtain ⟨x6, e6⟩ := draw_at xs (i := 6) (by omega) (by omega)
  obtain ⟨x7, e7⟩ := draw_at xs (i := 7) (by omega) (by omega)
  have f6 : (xs.map PyData.int)[6]? = some (.int x6) := by rw [← atI_6]; exact e6
  have f7 : (xs.map PyData.int)[7]? = some (.int x7) := by rw [← atI_7]; exact e7
  rw [List.getElem?_map] at f6 f7
  have b6 := fmod_bound (a := x6) (b := 6) (by decide)
  obtain ⟨v1, hv1⟩ := cell_is ns 1
  have hv1' : m_law_cell [.list (ns.map .int), .int 1] = .ok (.int v1) := hv1
  obtain ⟨ys, hy, hyl, _⟩ := draws_is v1 6 (by decide)
  have hy' : m_law_draws [.int v1, .int 6] = .ok (.list (ys.map .int)) := hy
  have hcut : cutL (xs.map PyData.int) (some (8 : Int)) none = (xs.drop 8).map .int := by
    have h8 : cutL (xs.map PyData.int) (some (8 : Int)) none = (xs.map PyData.int).drop 8 := cutL_from (xs.map PyData.int) 8
    rw [h8, List.map_drop]
  obtain ⟨t, ht, htg⟩ := lname_is (xs.drop 8) (by rw [List.length_drop]; omega)
  have hr3 : rng1 [.int 3] = some (rangeD 0 3) := rng1_nat 3 (by decide)
  have go : ∀ n : Nat, 1 ≤ n → n ≤ 12 → ((x7.fmod 6 = 0 ∧ n = 12) ∨ (x7.fmod 6 ≠ 0 ∧ 1 + x6.fmod 6 = (n : Int))) → m_law [.list (ns.map .int)] = .ok (.bool true) := fun n n1 n12 hcase => by
    obtain ⟨cs, hcs, gc, hcl⟩ := columns_is ns n n12
    obtain ⟨ks, hks, gk, hkl⟩ := keys_is cs (by omega) ys hyl
    have S : Sch.Ok ⟨t, cs, ks⟩ := ⟨htg, gc, gk, by show 1 ≤ cs.length; omega, by show cs.length ≤ 12; omega, hkl⟩
    obtain ⟨g1, g2⟩ := sch_good S
    have hc := check_is _ g2
    rw [g1] at hc
    have hdat : Sch.dat ⟨t, cs, ks⟩ = .tuple [.str (tx t), .tuple (cs.map colD), .tuple (ks.map keyD)] := rfl
    have tn := turn_is ns S (.val (.list (xs.map .int))) (.val (.int n)) (.val (.tuple (cs.map colD)))
    have t0 := tn 0
    have t1 := tn 1
    have t2 := tn 2
    have hR : rangeD 0 3 = [.int 0, .int 1, .int 2] := rfl
    rw [hdat] at hc t0 t1 t2
    clear tn
    generalize cs.map colD = CD at *
    generalize ks.map keyD = KD at *
    generalize (xs.drop 8).map PyData.int = XD at *
    rw [hR] at hr3
    simp at t0 t1 t2
    unfold m_law g_law
    rcases hcase with ⟨q0, rfl⟩ | ⟨q0, q1⟩
    · simp at hcs t0 t1 t2
      simp [hv0', hd', f6, f7, q0, hcs, cutD_is, hcut, ht, hv1', hy', hks, hr3, forL_name, t0, t1, t2, hc]
    · simp [hv0', hd', f6, f7, q0, q1, hcs, cutD_is, hcut, ht, hv1', hy', hks, hr3, forL_name, t0, t1, t2, hc]
  by_cases q : x7.fmod 6 = 0
  · exact go 12 (by decide) (by decide) (.inl ⟨q, rfl⟩)
  · exact go (1 + x6.fmod 6).toNat (by omega) (by omega) (.inr ⟨q, by omega⟩)
end DL.Pure

open PySem PySem.Spec PyProof.Rows L2 DL
theorem PySem.Challenge.cw_peristyle_k15_schemas_holds : PySem.Challenge.rw_peristyle_k15_schemas.Holds := by
  w_on; o_law; k_head; (case hw => w_witness2)
  k_fill
  refine L2.walk_of (l := PySem.Challenge.rw_peristyle_k15_schemas) (n := 63) (k := 7) (x := "script") (CX := fun w => L2.CX PySem.Challenge.rw_peristyle_k15_schemas.prog w) (sp := fun w => DL.spL _) rfl (by decide) rfl ⟨rfl, by decide, by decide⟩ (fun w h Y => PySem.W.kIn_of Y) ?F (fun _ _ a ns hl _ hS => ⟨a, ns, rfl, hS, hl, fun _ => rfl⟩) (fun w H s e s' z => DL.cx_false z)
  case F =>
    intro w mg fa h KX G hmg
    refine' Wk.all_mk KX G hmg Pure.law_true ?a0 ?l0 ?c0 ?k0 ?a1 ?l1 ?c1 ?k1 ?a2 ?l2 ?c2 ?k2 ?a3 ?l3 ?c3 ?k3 ?a4 ?l4 ?c4 ?k4 ?a5 ?l5 ?c5 ?k5 ?a6 ?l6 ?c6 ?k6 ?a7 ?l7 ?c7 ?k7 ?a8 ?l8 ?c8 ?k8 ?a9 ?l9 ?c9 ?k9 ?a10 ?l10 ?c10 ?k10 ?a11 ?l11 ?c11 ?k11 ?a12 ?l12 ?c12 ?k12 ?a13 ?l13 ?c13 ?k13 ?a14 ?l14 ?c14 ?k14 ?a15 ?l15 ?c15 ?k15 ?a16 ?l16 ?c16 ?k16 ?a17 ?l17 ?c17 ?k17 ?a18 ?l18 ?c18 ?k18 ?a19 ?l19 ?c19 ?k19 ?a20 ?l20 ?c20 ?k20 ?a21 ?l21 ?c21 ?k21 ?a22 ?l22 ?c22 ?k22 ?z0 ?z1 ?z2 ?z3 ?z4 ?z5 ?z6 ?z7 ?z8 ?z9 ?z10 ?y0 ?x0 ?y1 ?y2 ?y3 ?y4 ?x4 ?ga_BadForm ?xx_BadForm ?kx_BadForm ?bx_BadForm ?tx_BadForm ?et_BadForm ?ga_BadName ?ga_PeristyleError ?em_BadForm_BadForm ?ei_BadForm_BadName ?ei_BadForm_PeristyleError ?ei_BadForm_ValueError
    (case a0 => k_is); (case l0 => k_is); (case c0 => k_is); (case k0 => k_is); (case a1 => k_is); (case l1 => k_is); (case c1 => k_is); (case k1 => k_is)
    (case a2 => k_is); (case l2 => k_is); (case c2 => k_is); (case k2 => k_is); (case a3 => k_is); (case l3 => k_is); (case c3 => k_is); (case k3 => k_is)
    (case a4 => k_is); (case l4 => k_is); (case c4 => k_is); (case k4 => k_is); (case a5 => k_is); (case l5 => k_is); (case c5 => k_is); (case k5 => k_is)
    (case a6 => k_is); (case l6 => k_is); (case c6 => k_is); (case k6 => k_is); (case a7 => k_is); (case l7 => k_is); (case c7 => k_is); (case k7 => k_is)
    (case a8 => k_is); (case l8 => k_is); (case c8 => k_is); (case k8 => k_is); (case a9 => k_is); (case l9 => k_is); (case c9 => k_is); (case k9 => k_is)
    (case a10 => k_is); (case l10 => k_is); (case c10 => k_is); (case k10 => k_is); (case a11 => k_is); (case l11 => k_is); (case c11 => k_is); (case k11 => k_is)
    (case a12 => k_is); (case l12 => k_is); (case c12 => k_is); (case k12 => k_is); (case a13 => k_is); (case l13 => k_is); (case c13 => k_is); (case k13 => k_is)
    (case a14 => k_is); (case l14 => k_is); (case c14 => k_is); (case k14 => k_is); (case a15 => k_is); (case l15 => k_is); (case c15 => k_is); (case k15 => k_is)
    (case a16 => k_is); (case l16 => k_is); (case c16 => k_is); (case k16 => k_is); (case a17 => k_is); (case l17 => k_is); (case c17 => k_is); (case k17 => k_is)
    (case a18 => k_is); (case l18 => k_is); (case c18 => k_is); (case k18 => k_is); (case a19 => k_is); (case l19 => k_is); (case c19 => k_is); (case k19 => k_is)
    (case a20 => k_is); (case l20 => k_is); (case c20 => k_is); (case k20 => k_is); (case a21 => k_is); (case l21 => k_is); (case c21 => k_is); (case k21 => k_is)
    (case a22 => k_is); (case l22 => k_is); (case c22 => k_is); (case k22 => k_is); (case z0 => k_is); (case z1 => k_is); (case z2 => k_is); (case z3 => k_is)
    (case z4 => k_is); (case z5 => k_is); (case z6 => k_is); (case z7 => k_is); (case z8 => k_is); (case z9 => k_is); (case z10 => k_is); (case y0 => k_is)
    (case x0 => kernel_rfl); (case y1 => k_is); (case y2 => k_is); (case y3 => k_is); (case y4 => k_is); (case x4 => kernel_rfl); (case ga_BadForm => k_is); (case xx_BadForm => k_exc)
    (case kx_BadForm => k_is); (case bx_BadForm => k_is); (case tx_BadForm => k_is); (case et_BadForm => kernel_rfl); (case ga_BadName => k_is); (case ga_PeristyleError => k_is); (case em_BadForm_BadForm => kernel_rfl); (case ei_BadForm_BadName => kernel_rfl)
    (case ei_BadForm_PeristyleError => kernel_rfl); (case ei_BadForm_ValueError => kernel_rfl)

