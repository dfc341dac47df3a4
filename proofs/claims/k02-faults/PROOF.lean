import PyProof.Rows.All
import Wide.All
import OpenK.AllK
import Wide.FinOn
import HandS.ForMost
import HandS.ForExc
import HandS.Zip
import HandS.Deep
import HandS.IsInst
import HandS.TupAny
import HandS.Flow
import KE.DataEq
import KE.DataIsa
import KE.DataMinMax
import KE.DataCmp
import KE.DataAny
import KE.SortData
import HandS.Style
import HandS.SortKw
import HandS.More
import HandS.LawCells
import PySem.Challenge.RW_throughroads_k02_faults
set_option Elab.async false
set_option linter.all false
set_option autoImplicit false
set_option maxRecDepth 100000
set_option maxHeartbeats 4000000
/-! ## The data layer: a def's slots hold data; what an expression is worth is data -/
namespace DL
open PySem PySem.Spec PyProof.Rows L2

/-! ### heaps that grow -/
def Ex (H H' : Hp) : Prop := ∀ a o, H a = some o → H' a = some o
theorem Ex.refl (H : Hp) : Ex H H := fun _ _ h => h
theorem Ex.trans {H H1 H2 : Hp} (a : Ex H H1) (b : Ex H1 H2) : Ex H H2 := fun x o h => b x o (a x o h)
theorem Ex.new {H : Hp} {p : Addr} {o : HO} (h : H p = none) : Ex H (upd H p o) := fun a u e => by
  rw [upd_ne (ne_of_none e h)]
  exact e
theorem Ex.back {H H' : Hp} {p : Addr} (e : Ex H H') (h : H' p = none) : H p = none := by
  cases q : H p with
  | none => rfl
  | some o => rw [e p o q] at h; cases h
theorem Ex.rd {H H' : Hp} {a : Addr} {u : HO} (e : Ex H H') (h : Rd H a u) : Rd H' a u := by
  rcases h with h | ⟨o, h⟩
  · exact .inl (e a _ h)
  · exact .inr ⟨o, e a _ h⟩
theorem Ex.sqL {K : PySem.W.Frag} {H H' : Hp} {a : Addr} {xs : List V} (e : Ex H H') (h : SqL K H a xs) : SqL K H' a xs := by
  rcases h with h | h
  · exact .inl (e.rd h)
  · exact .inr h
theorem Ex.sqT {K : PySem.W.Frag} {H H' : Hp} {a : Addr} {xs : List V} (e : Ex H H') (h : SqT K H a xs) : SqT K H' a xs := by
  rcases h with h | h
  · exact .inl (e.rd h)
  · exact .inr h

/-- data in a heap: lists and tuples are tracked -/
inductive Dt (F : Hp) : V → PyData → Prop
  | non : Dt F .non .none
  | bl (b : Bool) : Dt F (.bl b) (.bool b)
  | int (i : Int) : Dt F (.int i) (.int i)
  | str (x : Str) : Dt F (.str x) (.str x)
  | lst {a : Addr} {xs : List V} {ds : List PyData} : F a = some (.lst xs) → xs.length = ds.length → (∀ (i : Nat) (x : V) (d : PyData), xs[i]? = some x → ds[i]? = some d → Dt F x d) → Dt F (.ref a) (.list ds)
  | tup {a : Addr} {xs : List V} {ds : List PyData} : F a = some (.tup xs) → xs.length = ds.length → (∀ (i : Nat) (x : V) (d : PyData), xs[i]? = some x → ds[i]? = some d → Dt F x d) → Dt F (.ref a) (.tuple ds)
/-- item by item -/
def Dts (F : Hp) (xs : List V) (ds : List PyData) : Prop := xs.length = ds.length ∧ ∀ (i : Nat) (x : V) (d : PyData), xs[i]? = some x → ds[i]? = some d → Dt F x d
theorem Dts.nil {F : Hp} : Dts F [] [] := ⟨rfl, fun i x d h _ => by simp at h⟩
theorem Dts.cons {F : Hp} {v : V} {d : PyData} {vs : List V} {ds : List PyData} (h : Dt F v d) (t : Dts F vs ds) : Dts F (v :: vs) (d :: ds) := ⟨by simp [t.1], fun i x e hx he => by
  cases i with
  | zero => simp at hx he; subst hx; subst he; exact h
  | succ i => simp at hx he; exact t.2 i x e hx he⟩
theorem Dts.head {F : Hp} {v : V} {d : PyData} {vs : List V} {ds : List PyData} (t : Dts F (v :: vs) (d :: ds)) : Dt F v d := t.2 0 v d rfl rfl
theorem Dts.tail {F : Hp} {v : V} {d : PyData} {vs : List V} {ds : List PyData} (t : Dts F (v :: vs) (d :: ds)) : Dts F vs ds := ⟨by simpa using t.1, fun i x e hx he => t.2 (i + 1) x e (by simpa using hx) (by simpa using he)⟩
theorem Dts.cases_cons {F : Hp} {vs : List V} {d : PyData} {ds : List PyData} (t : Dts F vs (d :: ds)) : ∃ v r, vs = v :: r ∧ Dt F v d ∧ Dts F r ds := by
  cases vs with
  | nil => have := t.1; simp at this
  | cons v r => exact ⟨v, r, rfl, t.head, t.tail⟩
theorem Dts.cases_nil {F : Hp} {vs : List V} (t : Dts F vs []) : vs = [] := by
  cases vs with
  | nil => rfl
  | cons v r => have := t.1; simp at this
theorem Dts.append {F : Hp} : ∀ {vs : List V} {ds : List PyData} {ws : List V} {es : List PyData}, Dts F vs ds → Dts F ws es → Dts F (vs ++ ws) (ds ++ es)
  | [], [], _, _, _, t => t
  | _ :: _, [], _, _, h, _ => by have := h.1; simp at this
  | [], _ :: _, _, _, h, _ => by have := h.1; simp at this
  | _ :: _, _ :: _, _, _, h, t => .cons h.head (Dts.append h.tail t)
theorem Dts.take {F : Hp} : ∀ {vs : List V} {ds : List PyData} (n : Nat), Dts F vs ds → Dts F (vs.take n) (ds.take n)
  | _, _, 0, _ => by simp; exact .nil
  | [], [], _ + 1, _ => .nil
  | _ :: _, [], _ + 1, h => by have := h.1; simp at this
  | [], _ :: _, _ + 1, h => by have := h.1; simp at this
  | _ :: _, _ :: _, n + 1, h => .cons h.head (Dts.take n h.tail)
theorem Dts.drop {F : Hp} : ∀ {vs : List V} {ds : List PyData} (n : Nat), Dts F vs ds → Dts F (vs.drop n) (ds.drop n)
  | _, _, 0, h => h
  | [], [], _ + 1, _ => .nil
  | _ :: _, [], _ + 1, h => by have := h.1; simp at this
  | [], _ :: _, _ + 1, h => by have := h.1; simp at this
  | _ :: _, _ :: _, n + 1, h => Dts.drop n h.tail
theorem Dts.at {F : Hp} {vs : List V} {ds : List PyData} {i : Nat} {d : PyData} (h : Dts F vs ds) (e : ds[i]? = some d) : ∃ v, vs[i]? = some v ∧ Dt F v d := by
  have hl := h.1
  have hi : i < ds.length := (List.getElem?_eq_some_iff.mp e).1
  have hv : vs[i]? = some vs[i] := List.getElem?_eq_getElem (by omega)
  exact ⟨_, hv, h.2 i _ d hv e⟩
theorem Dts.at' {F : Hp} {vs : List V} {ds : List PyData} {i : Nat} {v : V} (h : Dts F vs ds) (e : vs[i]? = some v) : ∃ d, ds[i]? = some d ∧ Dt F v d := by
  have hl := h.1
  have hi : i < vs.length := (List.getElem?_eq_some_iff.mp e).1
  have hv : ds[i]? = some ds[i] := List.getElem?_eq_getElem (by omega)
  exact ⟨_, hv, h.2 i v _ e hv⟩
theorem Dts.reverse {F : Hp} {vs : List V} {ds : List PyData} (h : Dts F vs ds) : Dts F vs.reverse ds.reverse := by
  induction vs generalizing ds with
  | nil => cases ds with
    | nil => exact .nil
    | cons d ds => have := h.1; simp at this
  | cons v vs ih => cases ds with
    | nil => have := h.1; simp at this
    | cons d ds =>
      rw [List.reverse_cons, List.reverse_cons]
      exact (ih h.tail).append (.cons h.head .nil)
theorem Dt.mono {F F' : Hp} (e : Ex F F') {v : V} {d : PyData} (h : Dt F v d) : Dt F' v d := by
  induction h with
  | non => exact .non
  | bl b => exact .bl b
  | int i => exact .int i
  | str x => exact .str x
  | lst ha hl _ ih => exact .lst (e _ _ ha) hl ih
  | tup ha hl _ ih => exact .tup (e _ _ ha) hl ih
theorem Dts.mono {F F' : Hp} (e : Ex F F') {vs : List V} {ds : List PyData} (h : Dts F vs ds) : Dts F' vs ds := ⟨h.1, fun i x d hx hd => (h.2 i x d hx hd).mono e⟩
theorem Dt.mkL {F : Hp} {a : Addr} {xs : List V} {ds : List PyData} (h : F a = some (.lst xs)) (t : Dts F xs ds) : Dt F (.ref a) (.list ds) := .lst h t.1 t.2
theorem Dt.mkT {F : Hp} {a : Addr} {xs : List V} {ds : List PyData} (h : F a = some (.tup xs)) (t : Dts F xs ds) : Dt F (.ref a) (.tuple ds) := .tup h t.1 t.2
theorem Dt.isL {F : Hp} {v : V} {ds : List PyData} (h : Dt F v (.list ds)) : ∃ a xs, v = .ref a ∧ F a = some (.lst xs) ∧ Dts F xs ds := by
  cases h with
  | lst ha hl hi => exact ⟨_, _, rfl, ha, hl, hi⟩
theorem Dt.isT {F : Hp} {v : V} {ds : List PyData} (h : Dt F v (.tuple ds)) : ∃ a xs, v = .ref a ∧ F a = some (.tup xs) ∧ Dts F xs ds := by
  cases h with
  | tup ha hl hi => exact ⟨_, _, rfl, ha, hl, hi⟩
theorem Dt.isI {F : Hp} {v : V} {i : Int} (h : Dt F v (.int i)) : v = .int i := by cases h; rfl
theorem Dt.isB {F : Hp} {v : V} {b : Bool} (h : Dt F v (.bool b)) : v = .bl b := by cases h; rfl
theorem Dt.isS {F : Hp} {v : V} {x : Str} (h : Dt F v (.str x)) : v = .str x := by cases h; rfl
theorem Dt.isN {F : Hp} {v : V} (h : Dt F v .none) : v = .non := by cases h; rfl
/-- the layer's own data -/
theorem dpAll_of {K : PySem.W.Frag} {H : Hp} : ∀ (xs : List V) (ds : List PyData), xs.length = ds.length → (∀ (i : Nat) (x : V) (d : PyData), xs[i]? = some x → ds[i]? = some d → Dp K H x d) → DpAll K H xs ds
  | [], [], _, _ => .nil
  | _ :: _, [], h, _ => by simp at h
  | [], _ :: _, h, _ => by simp at h
  | x :: xs, d :: ds, h, k => .cons (k 0 x d rfl rfl) (dpAll_of xs ds (by simpa using h) fun i y e hy he => k (i + 1) y e (by simpa using hy) (by simpa using he))
theorem Dt.dp {K : PySem.W.Frag} {F : Hp} {v : V} {d : PyData} (h : Dt F v d) : Dp K F v d := by
  induction h with
  | non => exact .non
  | bl b => exact .bl b
  | int i => exact .int i
  | str x => exact .str x
  | lst ha hl _ ih => exact .lst (SqL.of ha) (dpAll_of _ _ hl ih)
  | tup ha hl _ ih => exact .tup (SqT.of ha) (dpAll_of _ _ hl ih)
theorem Dts.dp {K : PySem.W.Frag} {F : Hp} {vs : List V} {ds : List PyData} (h : Dts F vs ds) : DpAll K F vs ds := dpAll_of _ _ h.1 fun i x d hx hd => (h.2 i x d hx hd).dp

/-- F is a part of H whose data stand; new data may come, at new places alone -/
structure Grow (F H F' H' : Hp) : Prop where
  hh : Ex H H'
  ff : Ex F F'
  fh : Ex F' H'
  old : ∀ a o, H a = some o → F' a = F a
theorem Grow.refl {F H : Hp} (e : Ex F H) : Grow F H F H := ⟨.refl H, .refl F, e, fun _ _ _ => rfl⟩
theorem Grow.trans {F H F1 H1 F2 H2 : Hp} (a : Grow F H F1 H1) (b : Grow F1 H1 F2 H2) : Grow F H F2 H2 :=
  ⟨a.hh.trans b.hh, a.ff.trans b.ff, b.fh, fun x o h => (b.old x o (a.hh x o h)).trans (a.old x o h)⟩
theorem Grow.new {F H : Hp} {p : Addr} {o : HO} (e : Ex F H) (h : H p = none) : Grow F H (upd F p o) (upd H p o) :=
  ⟨.new h, .new (e.back h), fun a u q => by
    by_cases ha : a = p
    · subst ha; rw [upd_same] at q ⊢; exact q
    · rw [upd_ne ha] at q ⊢; exact e a u q, fun a u q => upd_ne (ne_of_none q h)⟩
/-- a new object that is not data yet -/
theorem Grow.apart {F H : Hp} {p : Addr} {o : HO} (e : Ex F H) (h : H p = none) : Grow F H F (upd H p o) :=
  ⟨.new h, .refl F, e.trans (.new h), fun _ _ _ => rfl⟩

/-- what a slot holds: nothing that is known; data; a list of its own; a dict of its own whose keys are tuples of ints -/
inductive Sl where
  | no
  | d (x : PyData)
  | l (xs : List PyData)
  | m (kvs : List (List Int × PyData))
  | s (K : PySem.W.Frag) (ns : List Int)
def Sl.own : Sl → Bool
  | .l _ => true
  | .m _ => true
  | _ => false
/-- a dict's entries -/
def Dkv (F : Hp) (kvs' : List (List Key × V)) (kvs : List (List Int × PyData)) : Prop := kvs'.map (·.1) = kvs.map (fun p => p.1.map Sum.inl) ∧ Dts F (kvs'.map (·.2)) (kvs.map (·.2))
theorem Dkv.mono {F F' : Hp} (e : Ex F F') {k' : List (List Key × V)} {k : List (List Int × PyData)} (h : Dkv F k' k) : Dkv F' k' k := ⟨h.1, h.2.mono e⟩
def SlOk (F H0 H : Hp) (o : Option V) : Sl → Prop
  | .no => True
  | .d x => ∃ v, o = some v ∧ Dt F v x
  | .l xs => ∃ a vs, o = some (.ref a) ∧ H a = some (.lst vs) ∧ F a = none ∧ H0 a = none ∧ Dts F vs xs
  | .m kvs => ∃ a kvs', o = some (.ref a) ∧ H a = some (.dT kvs') ∧ F a = none ∧ H0 a = none ∧ Dkv F kvs' kvs
  | .s K ns => ∃ a, o = some (.ref a) ∧ SqL K F a (ns.map V.int)
theorem SlOk.grow {F H0 H F' H' : Hp} {o : Option V} {sl : Sl} (g : Grow F H F' H') (h : SlOk F H0 H o sl) : SlOk F' H0 H' o sl := by
  cases sl with
  | no => trivial
  | d x => obtain ⟨v, e, k⟩ := h; exact ⟨v, e, k.mono g.ff⟩
  | l xs => obtain ⟨a, vs, e, k, f, f0, t⟩ := h; exact ⟨a, vs, e, g.hh _ _ k, (g.old _ _ k).trans f, f0, t.mono g.ff⟩
  | m kvs => obtain ⟨a, vs, e, k, f, f0, t⟩ := h; exact ⟨a, vs, e, g.hh _ _ k, (g.old _ _ k).trans f, f0, t.mono g.ff⟩
  | s K ns => obtain ⟨a, e, k⟩ := h; exact ⟨a, e, g.ff.sqL k⟩

structure Met (F0 H0 F H : Hp) (σ : L2.St) (ρ : List Sl) : Prop where
  g : Grow F0 H0 F H
  len : σ.length = ρ.length
  sl : ∀ (i : Nat) (o : Option V) (s : Sl), σ[i]? = some o → ρ[i]? = some s → SlOk F H0 H o s
  ne : ∀ (i j : Nat) (s t : Sl) (a : Addr), i ≠ j → ρ[i]? = some s → ρ[j]? = some t → s.own = true → t.own = true → σ[i]? = some (some (.ref a)) → σ[j]? ≠ some (some (.ref a))
theorem Met.grow {F0 H0 F H F' H' : Hp} {σ : L2.St} {ρ : List Sl} (e : Met F0 H0 F H σ ρ) (g : Grow F H F' H') : Met F0 H0 F' H' σ ρ :=
  ⟨e.g.trans g, e.len, fun i o s h1 h2 => (e.sl i o s h1 h2).grow g, e.ne⟩
theorem Met.get {F0 H0 F H : Hp} {σ : L2.St} {ρ : List Sl} (e : Met F0 H0 F H σ ρ) {i : Nat} {x : PyData} (h : ρ[i]? = some (.d x)) : ∃ v, σ[i]? = some (some v) ∧ Dt F v x := by
  have hi : i < σ.length := by rw [e.len]; exact (List.getElem?_eq_some_iff.mp h).1
  have q := List.getElem?_eq_getElem hi
  obtain ⟨v, e1, k⟩ := e.sl i _ _ q h
  exact ⟨v, by rw [q, e1], k⟩
theorem Met.getL {F0 H0 F H : Hp} {σ : L2.St} {ρ : List Sl} (e : Met F0 H0 F H σ ρ) {i : Nat} {xs : List PyData} (h : ρ[i]? = some (.l xs)) : ∃ a vs, σ[i]? = some (some (.ref a)) ∧ H a = some (.lst vs) ∧ F a = none ∧ H0 a = none ∧ Dts F vs xs := by
  have hi : i < σ.length := by rw [e.len]; exact (List.getElem?_eq_some_iff.mp h).1
  have q := List.getElem?_eq_getElem hi
  obtain ⟨a, vs, e1, k⟩ := e.sl i _ _ q h
  exact ⟨a, vs, by rw [q, e1], k⟩
theorem Met.getM {F0 H0 F H : Hp} {σ : L2.St} {ρ : List Sl} (e : Met F0 H0 F H σ ρ) {i : Nat} {kvs : List (List Int × PyData)} (h : ρ[i]? = some (.m kvs)) : ∃ a kvs', σ[i]? = some (some (.ref a)) ∧ H a = some (.dT kvs') ∧ F a = none ∧ H0 a = none ∧ Dkv F kvs' kvs := by
  have hi : i < σ.length := by rw [e.len]; exact (List.getElem?_eq_some_iff.mp h).1
  have q := List.getElem?_eq_getElem hi
  obtain ⟨a, vs, e1, k⟩ := e.sl i _ _ q h
  exact ⟨a, vs, by rw [q, e1], k⟩
theorem Met.getS {F0 H0 F H : Hp} {σ : L2.St} {ρ : List Sl} (e : Met F0 H0 F H σ ρ) {i : Nat} {K : PySem.W.Frag} {ns : List Int} (h : ρ[i]? = some (.s K ns)) : ∃ a, σ[i]? = some (some (.ref a)) ∧ SqL K F a (ns.map V.int) := by
  have hi : i < σ.length := by rw [e.len]; exact (List.getElem?_eq_some_iff.mp h).1
  have q := List.getElem?_eq_getElem hi
  obtain ⟨a, e1, k⟩ := e.sl i _ _ q h
  exact ⟨a, by rw [q, e1], k⟩
/-- a slot is given data -/
theorem Met.set {F0 H0 F H : Hp} {σ : L2.St} {ρ : List Sl} (e : Met F0 H0 F H σ ρ) (j : Nat) {v : V} {x : PyData} (h : Dt F v x) : Met F0 H0 F H (σ.set j (some v)) (ρ.set j (.d x)) := by
  refine ⟨e.g, by simp [e.len], fun i o s h1 h2 => ?_, fun i k s t a hik h1 h2 o1 o2 q1 => ?_⟩
  · by_cases hij : j = i
    · subst hij
      rw [List.getElem?_set] at h1 h2
      simp only [if_true] at h1 h2
      split at h1
      · rename_i z
        rw [if_pos (by rw [← e.len]; exact z)] at h2
        cases h1; cases h2
        exact ⟨v, rfl, h⟩
      · cases h1
    · rw [List.getElem?_set_ne hij] at h1 h2
      exact e.sl i o s h1 h2
  · have ne : ∀ {m : Nat} {u : Sl}, (ρ.set j (.d x))[m]? = some u → u.own = true → m ≠ j := fun {m u} hm ho hj => by
      subst hj
      rw [List.getElem?_set] at hm
      simp only [if_true] at hm
      split at hm
      · cases hm; cases ho
      · cases hm
    have n1 := ne h1 o1
    have n2 := ne h2 o2
    rw [List.getElem?_set_ne (Ne.symm n1)] at h1 q1
    rw [List.getElem?_set_ne (Ne.symm n2)] at h2 ⊢
    exact e.ne i k s t a hik h1 h2 o1 o2 q1
/-- less is known -/
def Le (ρ' ρ : List Sl) : Prop := ρ'.length = ρ.length ∧ ∀ (i : Nat) (s : Sl), ρ'[i]? = some s → s = .no ∨ ρ[i]? = some s
theorem Le.refl (ρ : List Sl) : Le ρ ρ := ⟨rfl, fun _ _ h => .inr h⟩
theorem Met.weak {F0 H0 F H : Hp} {σ : L2.St} {ρ ρ' : List Sl} (e : Met F0 H0 F H σ ρ) (l : Le ρ' ρ) : Met F0 H0 F H σ ρ' := by
  refine ⟨e.g, by rw [e.len, l.1], fun i o s h1 h2 => ?_, fun i k s t a hik h1 h2 o1 o2 q1 => ?_⟩
  · rcases l.2 i s h2 with z | z
    · subst z; trivial
    · exact e.sl i o s h1 z
  · have z1 := (l.2 i s h1).resolve_left (by rintro rfl; cases o1)
    have z2 := (l.2 k t h2).resolve_left (by rintro rfl; cases o2)
    exact e.ne i k s t a hik z1 z2 o1 o2 q1

/-! ### the canonical readings -/
def tD (ρ : List Sl) (d : PyData) : TE := fun σ H Q => ∃ F0 H0 F, Met F0 H0 F H σ ρ ∧ ∀ v F' H', Grow F H F' H' → Dt F' v d → Q v H'
def tDT (ρ : List Sl) (b : Bool) : TT := fun σ H Q => ∃ F0 H0 F, Met F0 H0 F H σ ρ ∧ ∀ F' H', Grow F H F' H' → Q b H'
def tDA (ρ : List Sl) (ds : List PyData) : TA := fun σ H Q => ∃ F0 H0 F, Met F0 H0 F H σ ρ ∧ ∀ vs F' H', Grow F H F' H' → Dts F' vs ds → Q vs H'
/-- an expression is worth d; a test; arguments -/
def DE (X : Cx) (ρ : List Sl) (e : Expr) (d : PyData) : Prop := PE X e (tD ρ d)
def DT (X : Cx) (ρ : List Sl) (e : Expr) (b : Bool) : Prop := PT X e (tDT ρ b)
def DW (X : Cx) (ρ : List Sl) (e : Expr) (b : Bool) : Prop := PW X e (tDT ρ b)
def DA (X : Cx) (ρ : List Sl) (es : List Expr) (ds : List PyData) : Prop := PA X es (tDA ρ ds)
/-- an operation of two values, of one, a call, over data -/
def BinD (r : R2) (x y z : PyData) : Prop := ∀ (F H : Hp) (u v : V) (Q : VK), Ex F H → Dt F u x → Dt F v y → (∀ w F' H', Grow F H F' H' → Dt F' w z → Q w H') → r u v H Q
def UnD (r : V → Hp → VK → Prop) (x z : PyData) : Prop := ∀ (F H : Hp) (u : V) (Q : VK), Ex F H → Dt F u x → (∀ w F' H', Grow F H F' H' → Dt F' w z → Q w H') → r u H Q
def CallD (r : List V → Hp → VK → Prop) (xs : List PyData) (z : PyData) : Prop := ∀ (F H : Hp) (us : List V) (Q : VK), Ex F H → Dts F us xs → (∀ w F' H', Grow F H F' H' → Dt F' w z → Q w H') → r us H Q
section
variable {X : Cx} {ρ : List Sl} {e a b c : Expr} {es : List Expr} {d x y z : PyData} {pos : Pos} {r : R2} {k k' : Bool}
theorem PE.imp {t t' : TE} (h : PE X e t) (i : ∀ σ H Q, t' σ H Q → t σ H Q) : PE X e t' := ⟨fun pins s σ H Q I q => h.run pins s σ H Q I (i σ H Q q)⟩
theorem PT.imp {t t' : TT} (h : PT X e t) (i : ∀ σ H Q, t' σ H Q → t σ H Q) : PT X e t' := ⟨fun pins s σ H Q I q => h.run pins s σ H Q I (i σ H Q q)⟩
theorem PW.imp {t t' : TT} (h : PW X e t) (i : ∀ σ H Q, t' σ H Q → t σ H Q) : PW X e t' := ⟨fun w pins s σ H Q I q => h.run w pins s σ H Q I (i σ H Q q)⟩
theorem PA.imp {t t' : TA} (h : PA X es t) (i : ∀ σ H Q, t' σ H Q → t σ H Q) : PA X es t' := ⟨fun p pins s σ H Q I q => h.run p pins s σ H Q I (i σ H Q q)⟩
/-- the reading of an expression that is worth d, in a state that meets ρ -/
theorem tD.mk {σ : L2.St} {F0 H0 F H : Hp} {Q : VK} (E : Met F0 H0 F H σ ρ) (q : ∀ v F' H', Grow F H F' H' → Dt F' v d → Q v H') : tD ρ d σ H Q := ⟨F0, H0, F, E, q⟩
theorem de_var (i : Nat) {n : Str} (hx : ρ[i]? = some (.d x) := by rfl) (hN : X.N[i]? = some n := by rfl) (hv : Vis X.env.scope n := by first | exact Or.inl rfl | exact Or.inr (Or.inl rfl) | exact Or.inr (Or.inr rfl))
    (hd : (n == ("__debug__" : Str)) = false := by decide) (hcd : (n == ("__classdict__" : Str)) = false := by decide) : DE X ρ (.Name n pos) x :=
  PE.imp (pe_var hN hv hd hcd) fun σ H Q ⟨F0, H0, F, E, q⟩ => by
    obtain ⟨v, e, k⟩ := E.get hx
    exact ⟨v, e, q v F H (.refl E.g.fh) k⟩
theorem de_int {i : Int} {j : Nat} : DE X ρ (.Constant (.int i) j pos) (.int i) := PE.imp pe_int fun σ H Q ⟨F0, H0, F, E, q⟩ => q _ F H (.refl E.g.fh) (.int i)
theorem de_bool {i : Bool} {j : Nat} : DE X ρ (.Constant (.bool i) j pos) (.bool i) := PE.imp pe_bl fun σ H Q ⟨F0, H0, F, E, q⟩ => q _ F H (.refl E.g.fh) (.bl i)
theorem de_none {j : Nat} : DE X ρ (.Constant .none j pos) .none := PE.imp pe_non fun σ H Q ⟨F0, H0, F, E, q⟩ => q _ F H (.refl E.g.fh) .non
theorem de_str {i : Str} {j : Nat} : DE X ρ (.Constant (.str i) j pos) (.str i) := PE.imp pe_str fun σ H Q ⟨F0, H0, F, E, q⟩ => q _ F H (.refl E.g.fh) (.str i)
theorem da_nil : DA X ρ [] [] := PA.imp pa_nil fun σ H Q ⟨F0, H0, F, E, q⟩ => q [] F H (.refl E.g.fh) .nil
theorem da_cons {ds : List PyData} (h : DE X ρ e d) (t : DA X ρ es ds) (he : starEach (e :: es) X.env = (false, eval e X.env) :: starEach es X.env := by rfl) : DA X ρ (e :: es) (d :: ds) :=
  PA.imp (pa_cons h t he) fun σ H Q ⟨F0, H0, F, E, q⟩ => ⟨F0, H0, F, E, fun v F1 H1 g1 k1 => ⟨F0, H0, F1, E.grow g1, fun vs F2 H2 g2 k2 => q (v :: vs) F2 H2 (g1.trans g2) (.cons (k1.mono g2.ff) k2)⟩⟩
theorem de_tup {ds : List PyData} {kk : Nat} (h : DA X ρ es ds) (hl : ds.length ≤ 100000 := by exact Nat.le_of_ble_eq_true rfl) : DE X ρ (.Tuple es kk pos) (.tuple ds) :=
  PE.imp (pe_tup h) fun σ H Q ⟨F0, H0, F, E, q⟩ => ⟨F0, H0, F, E, fun vs F1 H1 g1 k1 => ⟨by rw [k1.1]; exact Nat.le_trans hl (by decide), fun p hp =>
    q _ _ _ (g1.trans (Grow.new g1.fh hp)) (.mkT upd_same (k1.mono (.new (g1.fh.back hp))))⟩⟩
theorem de_lst {ds : List PyData} (h : DA X ρ es ds) (hl : ds.length ≤ 100000 := by exact Nat.le_of_ble_eq_true rfl) : DE X ρ (.List es pos) (.list ds) :=
  PE.imp (pe_lst h) fun σ H Q ⟨F0, H0, F, E, q⟩ => ⟨F0, H0, F, E, fun vs F1 H1 g1 k1 => ⟨by rw [k1.1]; exact Nat.le_trans hl (by decide), fun p hp =>
    q _ _ _ (g1.trans (Grow.new g1.fh hp)) (.mkL upd_same (k1.mono (.new (g1.fh.back hp))))⟩⟩
theorem tOp_of {ta tb : TE} (hr : BinD r x y z) : ∀ σ H Q, tD ρ z σ H Q → tOp r (tD ρ x) (tD ρ y) σ H Q := fun σ H Q ⟨F0, H0, F, E, q⟩ =>
  ⟨F0, H0, F, E, fun v F1 H1 g1 k1 => ⟨F0, H0, F1, E.grow g1, fun w F2 H2 g2 k2 => hr F2 H2 v w Q g2.fh (k1.mono g2.ff) k2 fun u F3 H3 g3 k3 => q u F3 H3 ((g1.trans g2).trans g3) k3⟩⟩
theorem de_op {op : Operator} (ho : OpR X (binaryOp op) r) (hr : BinD r x y z) (ha : DE X ρ a x) (hb : DE X ρ b y) : DE X ρ (.BinOp a op b pos) z := PE.imp (pe_op ho ha hb) (tOp_of (ta := tD ρ x) (tb := tD ρ y) hr)
theorem de_cmp {op : CmpOp} (ho : OpR X (compareOp op) r) (hr : BinD r x y z) (ha : DE X ρ a x) (hb : DE X ρ b y) (hm : behindInMarks op b = false) : DE X ρ (.Compare a [op] [b] pos) z := PE.imp (pe_cmpR ho ha hb hm) (tOp_of (ta := tD ρ x) (tb := tD ρ y) hr)
theorem dt_cmp {op : CmpOp} (ho : OpR X (compareOp op) r) (hr : BinD r x y (.bool k)) (ha : DE X ρ a x) (hb : DE X ρ b y) (hm : behindInMarks op b = false) : DT X ρ (.Compare a [op] [b] pos) k :=
  PT.imp (pt_cmpR ho ha hb hm) fun σ H Q ⟨F0, H0, F, E, q⟩ => tOp_of (ta := tD ρ x) (tb := tD ρ y) hr σ H _ ⟨F0, H0, F, E, fun v F' H' g h => ⟨k, h.isB, q F' H' g⟩⟩
theorem de_ix (hr : IxR X r) (hd : BinD r x y z) (ha : DE X ρ a x) (hb : DE X ρ b y) (hs : PlainIx b) : DE X ρ (.Subscript a b pos) z := PE.imp (pe_ix hr ha hb hs) (tOp_of (ta := tD ρ x) (tb := tD ρ y) hd)
/-- a bool as a test -/
theorem dt_val (h : DE X ρ e (.bool k)) (he : ∀ whole, isTrue e X.env whole = (do let v ← whole; standAt e.pos; holding [v] (truthy v)) := by intro _; rfl) : DT X ρ e k :=
  PT.imp (pt_val h he) fun σ H Q ⟨F0, H0, F, E, q⟩ => ⟨F0, H0, F, E, fun v F' H' g w => ⟨k, w.isB, q F' H' g⟩⟩
theorem dt_not (h : DT X ρ e k) : DT X ρ (.UnaryOp .Not e pos) (!k) := PT.imp (pt_not h) fun σ H Q ⟨F0, H0, F, E, q⟩ => ⟨F0, H0, F, E, fun F' H' g => q F' H' g⟩
theorem DW.t (h : DW X ρ e k) : DT X ρ e k := PW.pt h
theorem dw_and1 (h : DT X ρ a k) : DW X ρ (.BoolOp .And [a] pos) k := pw_and1 h
theorem dw_or1 (h : DT X ρ a k) : DW X ρ (.BoolOp .Or [a] pos) k := pw_or1 h
theorem pt_false {t : TT} : PT X e (fun _ _ _ => False) := ⟨fun _ _ _ _ _ _ h => h.elim⟩
theorem pw_false {t : TT} : PW X e (fun _ _ _ => False) := ⟨fun _ _ _ _ _ _ _ h => h.elim⟩
theorem pe_false : PE X e (fun _ _ _ => False) := ⟨fun _ _ _ _ _ _ h => h.elim⟩
/-- a test whose right part matters only where the left one says so -/
theorem pt_if {p : Prop} {t : TT} (h : p → PT X e t) : PT X e (fun σ H Q => p ∧ t σ H Q) := ⟨fun pins s σ H Q I q => (h q.1).run pins s σ H Q I q.2⟩
theorem pw_if {p : Prop} {t : TT} (h : p → PW X e t) : PW X e (fun σ H Q => p ∧ t σ H Q) := ⟨fun w pins s σ H Q I q => (h q.1).run w pins s σ H Q I q.2⟩
theorem pe_if {p : Prop} {t : TE} (h : p → PE X e t) : PE X e (fun σ H Q => p ∧ t σ H Q) := ⟨fun pins s σ H Q I q => (h q.1).run pins s σ H Q I q.2⟩
theorem dw_and {rest : List Expr} (h : DT X ρ a k) (t : k = true → DW X ρ (.BoolOp .And (b :: rest) pos) k') : DW X ρ (.BoolOp .And (a :: b :: rest) pos) (k && k') :=
  PW.imp (pw_and h (pw_if t)) fun σ H Q ⟨F0, H0, F, E, q⟩ => ⟨F0, H0, F, E, fun F' H' g => by
    cases k with
    | true => exact ⟨rfl, F0, H0, F', E.grow g, fun F2 H2 g2 => q F2 H2 (g.trans g2)⟩
    | false => exact q F' H' g⟩
theorem dw_or {rest : List Expr} (h : DT X ρ a k) (t : k = false → DW X ρ (.BoolOp .Or (b :: rest) pos) k') : DW X ρ (.BoolOp .Or (a :: b :: rest) pos) (k || k') :=
  PW.imp (pw_or h (pw_if t)) fun σ H Q ⟨F0, H0, F, E, q⟩ => ⟨F0, H0, F, E, fun F' H' g => by
    cases k with
    | true => exact q F' H' g
    | false => exact ⟨rfl, F0, H0, F', E.grow g, fun F2 H2 g2 => q F2 H2 (g.trans g2)⟩⟩
/-- and, or, not as values (bools) -/
theorem de_one {op : BoolOp} (h : DE X ρ a x) : DE X ρ (.BoolOp op [a] pos) x := pe_one h
theorem de_and {rest : List Expr} (h : DE X ρ a (.bool k)) (t : k = true → DE X ρ (.BoolOp .And (b :: rest) pos) (.bool k')) : DE X ρ (.BoolOp .And (a :: b :: rest) pos) (.bool (k && k')) :=
  PE.imp (pe_and h (pe_if t)) fun σ H Q ⟨F0, H0, F, E, q⟩ => ⟨F0, H0, F, E, fun v F' H' g w => ⟨k, w.isB, by
    cases k with
    | true => exact ⟨rfl, F0, H0, F', E.grow g, fun u F2 H2 g2 => q u F2 H2 (g.trans g2)⟩
    | false => exact q _ F' H' g (.bl false)⟩⟩
theorem de_or {rest : List Expr} (h : DE X ρ a (.bool k)) (t : k = false → DE X ρ (.BoolOp .Or (b :: rest) pos) (.bool k')) : DE X ρ (.BoolOp .Or (a :: b :: rest) pos) (.bool (k || k')) :=
  PE.imp (pe_or h (pe_if t)) fun σ H Q ⟨F0, H0, F, E, q⟩ => ⟨F0, H0, F, E, fun v F' H' g w => ⟨k, w.isB, by
    cases k with
    | true => exact q _ F' H' g (.bl true)
    | false => exact ⟨rfl, F0, H0, F', E.grow g, fun u F2 H2 g2 => q u F2 H2 (g.trans g2)⟩⟩⟩
theorem de_not (h : DE X ρ a (.bool k)) : DE X ρ (.UnaryOp .Not a pos) (.bool (!k)) :=
  PE.imp (pe_not h) fun σ H Q ⟨F0, H0, F, E, q⟩ => ⟨F0, H0, F, E, fun v F' H' g w => ⟨k, w.isB, q _ F' H' g (.bl _)⟩⟩
/-- a if t else b -/
theorem de_if (h : DT X ρ c k) (h1 : k = true → DE X ρ a x) (h2 : k = false → DE X ρ b x) : DE X ρ (.IfExp c a b pos) x :=
  PE.imp (pe_ifExp h (pe_if h1) (pe_if h2)) fun σ H Q ⟨F0, H0, F, E, q⟩ => ⟨F0, H0, F, E, fun F' H' g => by
    cases k with
    | true => exact ⟨rfl, F0, H0, F', E.grow g, fun u F2 H2 g2 => q u F2 H2 (g.trans g2)⟩
    | false => exact ⟨rfl, F0, H0, F', E.grow g, fun u F2 H2 g2 => q u F2 H2 (g.trans g2)⟩⟩
theorem DE.of (h : DE X ρ e x) (q : x = y) : DE X ρ e y := q ▸ h
theorem DT.of (h : DT X ρ e k) (q : k = k') : DT X ρ e k' := q ▸ h
theorem DW.of (h : DW X ρ e k) (q : k = k') : DW X ρ e k' := q ▸ h
theorem DE.weak {ρ' : List Sl} (h : DE X ρ' e x) (l : Le ρ' ρ) : DE X ρ e x := PE.imp h fun σ H Q ⟨F0, H0, F, E, q⟩ => ⟨F0, H0, F, E.weak l, q⟩
/-- a call of a built-in by its name -/
theorem tCB_of {ds : List PyData} {r : List V → Hp → VK → Prop} (hr : CallD r ds z) : ∀ σ H Q, tD ρ z σ H Q → tCB r (tDA ρ ds) σ H Q := fun σ H Q ⟨F0, H0, F, E, q⟩ =>
  ⟨F0, H0, F, E, fun vs F1 H1 g1 k1 => hr F1 H1 vs Q g1.fh k1 fun u F3 H3 g3 k3 => q u F3 H3 (g1.trans g3) k3⟩
theorem de_callB {n : Str} {id : String} {p : Pos} {ds : List PyData} {r : List V → Hp → VK → Prop} (hc : CallR X (.builtin id) r) (hr : CallD r ds z) (hg : Gl X n) (hm : X.mg n = none) (hv : bootBuiltins n = some (.builtin id)) (ha : DA X ρ (e :: es) ds) (hn : n ≠ "__name__" := by decide) (hdb : (n == ("__debug__" : Str)) = false := by decide)
    (he : starEach (e :: es) X.env = (false, eval e X.env) :: starEach es X.env := by rfl) (hpl : (backTo pos (starEach es X.env)).any (·.1) = false := by rfl) : DE X ρ (.Call (.Name n p) (e :: es) [] pos) z :=
  PE.imp (pe_callB hc hg hm hv ha hn hdb he hpl) (tCB_of hr)
theorem de_callTy {n : Str} {T : String} {p : Pos} {ds : List PyData} {r : List V → Hp → VK → Prop} (hc : CallR X (.type T) r) (hr : CallD r ds z) (hg : Gl X n) (hm : X.mg n = none) (hv : bootBuiltins n = some (.type T)) (ha : DA X ρ (e :: es) ds) (hn : n ≠ "__name__" := by decide) (hdb : (n == ("__debug__" : Str)) = false := by decide)
    (he : starEach (e :: es) X.env = (false, eval e X.env) :: starEach es X.env := by rfl) (hpl : (backTo pos (starEach es X.env)).any (·.1) = false := by rfl) : DE X ρ (.Call (.Name n p) (e :: es) [] pos) z :=
  PE.imp (pe_callTy hc hg hm hv ha hn hdb he hpl) (tCB_of hr)
end
end DL

namespace DL
open PySem PySem.Spec PyProof.Rows L2

theorem Dt.plain {F : Hp} {v : V} {d : PyData} (h : Dt F v d) : d.plain = true := by
  have all : ∀ (xs : List V) (ds : List PyData), xs.length = ds.length → (∀ (i : Nat) (x : V) (e : PyData), xs[i]? = some x → ds[i]? = some e → e.plain = true) → PyData.plainAll ds = true := by
    intro xs
    induction xs with
    | nil => intro ds hl _; cases ds with
      | nil => rfl
      | cons d ds => simp at hl
    | cons x xs ih => intro ds hl k; cases ds with
      | nil => rfl
      | cons d ds =>
        have h1 := k 0 x d rfl rfl
        have h2 := ih ds (by simpa using hl) fun i y e hy he => k (i + 1) y e (by simpa using hy) (by simpa using he)
        show (d.plain && PyData.plainAll ds) = true
        rw [h1, h2]; rfl
  induction h with
  | non => rfl
  | bl b => rfl
  | int i => rfl
  | str x => rfl
  | lst ha hl _ ih => exact all _ _ hl ih
  | tup ha hl _ ih => exact all _ _ hl ih
theorem Dts.plain {F : Hp} {vs : List V} {ds : List PyData} (h : Dts F vs ds) : PyData.plainAll ds = true := by
  have := (Dt.mkL (F := upd F 0 (.lst vs)) (a := 0) (xs := vs) (ds := []))
  induction ds generalizing vs with
  | nil => rfl
  | cons d ds ih =>
    obtain ⟨v, r, rfl, h1, h2⟩ := h.cases_cons
    show (d.plain && PyData.plainAll ds) = true
    rw [h1.plain, ih h2 (fun a b => .mkL a b)]; rfl
theorem Dt.reads {X : Cx} {pins : List (Addr × Obj)} {σ : L2.St} {H : Hp} {s : Shared} (I : Inv X pins σ H s) {v : V} {u : Value} {d : PyData} (h : Dt H v d) (r : RelV v u) : ∃ as, Reads s.heap u d as := Dp.reads I d v u h.dp r

/-! ### ints -/
theorem bd_I0 {g : Int → Int → V} {i j : Int} {z : PyData} (hz : ∀ F, Dt F (g i j) z) : BinD (rI0 g) (.int i) (.int j) z := fun F H u v Q e hu hv q => ⟨i, j, hu.isI, hv.isI, q _ F H (.refl e) (hz F)⟩
theorem bd_I {C : Int → Int → Prop} {g : Int → Int → V} {i j : Int} {z : PyData} (hc : C i j) (hz : ∀ F, Dt F (g i j) z) : BinD (rI C g) (.int i) (.int j) z := fun F H u v Q e hu hv q => ⟨i, j, hu.isI, hv.isI, hc, q _ F H (.refl e) (hz F)⟩
section
variable {X : Cx} {ρ : List Sl} {e a b c : Expr} {es : List Expr} {d x y z : PyData} {pos : Pos} {i j : Int} {k k' : Bool} {ds xs ys : List PyData}
theorem de_add (ha : DE X ρ a (.int i)) (hb : DE X ρ b (.int j)) : DE X ρ (.BinOp a .Add b pos) (.int (i + j)) := de_op op_add (bd_I0 fun _ => .int _) ha hb
theorem de_sub (ha : DE X ρ a (.int i)) (hb : DE X ρ b (.int j)) : DE X ρ (.BinOp a .Sub b pos) (.int (i - j)) := de_op op_sub (bd_I0 fun _ => .int _) ha hb
theorem de_mul (ha : DE X ρ a (.int i)) (hb : DE X ρ b (.int j)) (hc : (-(2 ^ 64) < i ∧ i < 2 ^ 64) ∨ (-(2 ^ 64) < j ∧ j < 2 ^ 64)) : DE X ρ (.BinOp a .Mult b pos) (.int (i * j)) := de_op op_mul (bd_I hc fun _ => .int _) ha hb
theorem de_mod (ha : DE X ρ a (.int i)) (hb : DE X ρ b (.int j)) (hc : 0 < j) : DE X ρ (.BinOp a .Mod b pos) (.int (i % j)) := de_op op_mod (bd_I hc fun _ => .int _) ha hb
theorem de_fdiv (ha : DE X ρ a (.int i)) (hb : DE X ρ b (.int j)) (hc : 0 < j) (hc' : j < 1073741824) : DE X ρ (.BinOp a .FloorDiv b pos) (.int (i / j)) := de_op op_fdiv (bd_I ⟨hc, hc'⟩ fun _ => .int _) ha hb
theorem de_neg (ha : DE X ρ a (.int i)) : DE X ρ (.UnaryOp .USub a pos) (.int (-i)) := PE.imp (pe_un un_neg ha) fun σ H Q ⟨F0, H0, F, E, q⟩ => ⟨F0, H0, F, E, fun v F1 H1 g1 k1 => ⟨i, k1.isI, q _ F1 H1 g1 (.int _)⟩⟩
theorem de_lt (ha : DE X ρ a (.int i)) (hb : DE X ρ b (.int j)) : DE X ρ (.Compare a [.Lt] [b] pos) (.bool (decide (i < j))) := de_cmp op_lt (bd_I0 fun _ => .bl _) ha hb (nomark _)
theorem de_le (ha : DE X ρ a (.int i)) (hb : DE X ρ b (.int j)) : DE X ρ (.Compare a [.LtE] [b] pos) (.bool (decide (i ≤ j))) := de_cmp op_le (bd_I0 fun _ => .bl _) ha hb (nomark _)
theorem de_gt (ha : DE X ρ a (.int i)) (hb : DE X ρ b (.int j)) : DE X ρ (.Compare a [.Gt] [b] pos) (.bool (decide (j < i))) := de_cmp op_gt (bd_I0 fun _ => .bl _) ha hb (nomark _)
theorem de_ge (ha : DE X ρ a (.int i)) (hb : DE X ρ b (.int j)) : DE X ρ (.Compare a [.GtE] [b] pos) (.bool (decide (j ≤ i))) := de_cmp op_ge (bd_I0 fun _ => .bl _) ha hb (nomark _)
theorem dt_lt (ha : DE X ρ a (.int i)) (hb : DE X ρ b (.int j)) : DT X ρ (.Compare a [.Lt] [b] pos) (decide (i < j)) := dt_cmp op_lt (bd_I0 fun _ => .bl _) ha hb (nomark _)
theorem dt_le (ha : DE X ρ a (.int i)) (hb : DE X ρ b (.int j)) : DT X ρ (.Compare a [.LtE] [b] pos) (decide (i ≤ j)) := dt_cmp op_le (bd_I0 fun _ => .bl _) ha hb (nomark _)
theorem dt_gt (ha : DE X ρ a (.int i)) (hb : DE X ρ b (.int j)) : DT X ρ (.Compare a [.Gt] [b] pos) (decide (j < i)) := dt_cmp op_gt (bd_I0 fun _ => .bl _) ha hb (nomark _)
theorem dt_ge (ha : DE X ρ a (.int i)) (hb : DE X ρ b (.int j)) : DT X ρ (.Compare a [.GtE] [b] pos) (decide (j ≤ i)) := dt_cmp op_ge (bd_I0 fun _ => .bl _) ha hb (nomark _)
/-- a <= b <= c -/
theorem de_lele {m : Int} (ha : DE X ρ a (.int i)) (hb : DE X ρ b (.int j)) (hc : DE X ρ c (.int m)) (hm : lastMarks [.LtE, .LtE] [b, c] = false := by with_unfolding_all rfl) : DE X ρ (.Compare a [.LtE, .LtE] [b, c] pos) (.bool (decide (i ≤ j) && decide (j ≤ m))) :=
  PE.imp (pe_chain op_le op_le ha hb hc hm) fun σ H Q ⟨F0, H0, F, E, q⟩ => ⟨F0, H0, F, E, fun v F1 H1 g1 k1 => ⟨F0, H0, F1, E.grow g1, fun w F2 H2 g2 k2 => ⟨i, j, k1.isI, k2.isI, decide (i ≤ j), rfl, by
    cases h : decide (i ≤ j) with
    | true => exact ⟨F0, H0, F2, (E.grow g1).grow g2, fun u F3 H3 g3 k3 => ⟨j, m, k2.isI, k3.isI, q _ F3 H3 ((g1.trans g2).trans g3) (by rw [h]; exact .bl _)⟩⟩
    | false => exact q _ F2 H2 (g1.trans g2) (by rw [h]; exact .bl _)⟩⟩⟩
/-! ### == and in over data -/
def rEqP : R2 := fun x y H Q => ∃ d e, Dt H x d ∧ Dt H y e ∧ min d.depth e.depth ≤ 60 ∧ Q (.bl (PyData.eqv d e)) H
def rNeP : R2 := fun x y H Q => ∃ d e, Dt H x d ∧ Dt H y e ∧ min d.depth e.depth ≤ 60 ∧ Q (.bl (!PyData.eqv d e)) H
theorem op_eqP (hu : X.A.units + 64 < cLine) : OpR X (compareOp .Eq) rEqP := by
  intro pins s σ H x y v u Q I rx ry h
  obtain ⟨d, e, hd, he, hm, q⟩ := h
  obtain ⟨as, r1⟩ := hd.reads I rx
  obtain ⟨bs, r2⟩ := he.reads I ry
  exact SeqAt.eq_plain r1 r2 hd.plain he.plain (by omega) ⟨.bl _, H, I, rfl, q⟩
theorem op_neP (hu : X.A.units + 64 < cLine) : OpR X (compareOp .NotEq) rNeP := by
  intro pins s σ H x y v u Q I rx ry h
  obtain ⟨d, e, hd, he, hm, q⟩ := h
  obtain ⟨as, r1⟩ := hd.reads I rx
  obtain ⟨bs, r2⟩ := he.reads I ry
  exact SeqAt.ne_plain r1 r2 hd.plain he.plain (by omega) ⟨.bl _, H, I, rfl, q⟩
theorem bd_eq (h : min x.depth y.depth ≤ 60) : BinD rEqP x y (.bool (PyData.eqv x y)) := fun F H u v Q e hu hv q => ⟨x, y, hu.mono e, hv.mono e, h, q _ F H (.refl e) (.bl _)⟩
theorem bd_ne (h : min x.depth y.depth ≤ 60) : BinD rNeP x y (.bool (!PyData.eqv x y)) := fun F H u v Q e hu hv q => ⟨x, y, hu.mono e, hv.mono e, h, q _ F H (.refl e) (.bl _)⟩
theorem de_eq (hu : X.A.units + 64 < cLine) (ha : DE X ρ a x) (hb : DE X ρ b y) (h : min x.depth y.depth ≤ 60) : DE X ρ (.Compare a [.Eq] [b] pos) (.bool (PyData.eqv x y)) := de_cmp (op_eqP hu) (bd_eq h) ha hb (nomark _)
theorem de_ne (hu : X.A.units + 64 < cLine) (ha : DE X ρ a x) (hb : DE X ρ b y) (h : min x.depth y.depth ≤ 60) : DE X ρ (.Compare a [.NotEq] [b] pos) (.bool (!PyData.eqv x y)) := de_cmp (op_neP hu) (bd_ne h) ha hb (nomark _)
theorem dt_eq (hu : X.A.units + 64 < cLine) (ha : DE X ρ a x) (hb : DE X ρ b y) (h : min x.depth y.depth ≤ 60) : DT X ρ (.Compare a [.Eq] [b] pos) (PyData.eqv x y) := dt_cmp (op_eqP hu) (bd_eq h) ha hb (nomark _)
theorem dt_ne (hu : X.A.units + 64 < cLine) (ha : DE X ρ a x) (hb : DE X ρ b y) (h : min x.depth y.depth ≤ 60) : DT X ρ (.Compare a [.NotEq] [b] pos) (!PyData.eqv x y) := dt_cmp (op_neP hu) (bd_ne h) ha hb (nomark _)
/-- == of two ints: no room asked -/
def rInP : R2 := fun x y H Q => ∃ d ds, Dt H x d ∧ (Dt H y (.list ds) ∨ Dt H y (.tuple ds)) ∧ min (PyData.depthAll ds) d.depth ≤ 60 ∧ Q (.bl (ds.any fun z => PyData.eqv z d)) H
def rNinP : R2 := fun x y H Q => ∃ d ds, Dt H x d ∧ (Dt H y (.list ds) ∨ Dt H y (.tuple ds)) ∧ min (PyData.depthAll ds) d.depth ≤ 60 ∧ Q (.bl (!ds.any fun z => PyData.eqv z d)) H
theorem op_inP (hu : X.A.units + 64 < cLine) : OpR X (compareOp .In) rInP := by
  intro pins s σ H x y v u Q I rx ry h
  obtain ⟨d, ds, hd, he, hm, q⟩ := h
  obtain ⟨as, r1⟩ := hd.reads I rx
  rcases he with he | he
  · obtain ⟨bs, r2⟩ := he.reads I ry
    exact SeqAt.in_list_data r2 r1 he.plain hd.plain (by omega) ⟨.bl _, H, I, rfl, q⟩
  · obtain ⟨bs, r2⟩ := he.reads I ry
    exact SeqAt.in_tuple_data r2 r1 he.plain hd.plain (by omega) ⟨.bl _, H, I, rfl, q⟩
theorem op_ninP (hu : X.A.units + 64 < cLine) : OpR X (compareOp .NotIn) rNinP := by
  intro pins s σ H x y v u Q I rx ry h
  obtain ⟨d, ds, hd, he, hm, q⟩ := h
  obtain ⟨as, r1⟩ := hd.reads I rx
  rcases he with he | he
  · obtain ⟨bs, r2⟩ := he.reads I ry
    exact SeqAt.notIn_list_data r2 r1 he.plain hd.plain (by omega) ⟨.bl _, H, I, rfl, q⟩
  · obtain ⟨bs, r2⟩ := he.reads I ry
    exact SeqAt.notIn_tuple_data r2 r1 he.plain hd.plain (by omega) ⟨.bl _, H, I, rfl, q⟩
/-- a list or a tuple of ds -/
def IsSeq (y : PyData) (ds : List PyData) : Prop := y = .list ds ∨ y = .tuple ds
theorem isL : IsSeq (.list ds) ds := .inl rfl
theorem isT : IsSeq (.tuple ds) ds := .inr rfl
theorem bd_in (hy : IsSeq y ds) (h : x.depth ≤ 60) : BinD rInP x y (.bool (ds.any fun z => PyData.eqv z x)) := fun F H u v Q e hu hv q => ⟨x, ds, hu.mono e, by
  rcases hy with rfl | rfl
  · exact .inl (hv.mono e)
  · exact .inr (hv.mono e), by omega, q _ F H (.refl e) (.bl _)⟩
theorem bd_nin (hy : IsSeq y ds) (h : x.depth ≤ 60) : BinD rNinP x y (.bool (!ds.any fun z => PyData.eqv z x)) := fun F H u v Q e hu hv q => ⟨x, ds, hu.mono e, by
  rcases hy with rfl | rfl
  · exact .inl (hv.mono e)
  · exact .inr (hv.mono e), by omega, q _ F H (.refl e) (.bl _)⟩
theorem de_in (hu : X.A.units + 64 < cLine) (hy : IsSeq y ds) (ha : DE X ρ a x) (hb : DE X ρ b y) (h : x.depth ≤ 60) (hm : behindInMarks .In b = false := by rfl) : DE X ρ (.Compare a [.In] [b] pos) (.bool (ds.any fun z => PyData.eqv z x)) := de_cmp (op_inP hu) (bd_in hy h) ha hb hm
theorem de_nin (hu : X.A.units + 64 < cLine) (hy : IsSeq y ds) (ha : DE X ρ a x) (hb : DE X ρ b y) (h : x.depth ≤ 60) (hm : behindInMarks .NotIn b = false := by rfl) : DE X ρ (.Compare a [.NotIn] [b] pos) (.bool (!ds.any fun z => PyData.eqv z x)) := de_cmp (op_ninP hu) (bd_nin hy h) ha hb hm
theorem dt_in (hu : X.A.units + 64 < cLine) (hy : IsSeq y ds) (ha : DE X ρ a x) (hb : DE X ρ b y) (h : x.depth ≤ 60) (hm : behindInMarks .In b = false := by rfl) : DT X ρ (.Compare a [.In] [b] pos) (ds.any fun z => PyData.eqv z x) := dt_cmp (op_inP hu) (bd_in hy h) ha hb hm
theorem dt_nin (hu : X.A.units + 64 < cLine) (hy : IsSeq y ds) (ha : DE X ρ a x) (hb : DE X ρ b y) (h : x.depth ≤ 60) (hm : behindInMarks .NotIn b = false := by rfl) : DT X ρ (.Compare a [.NotIn] [b] pos) (!ds.any fun z => PyData.eqv z x) := dt_cmp (op_ninP hu) (bd_nin hy h) ha hb hm
/-! ### is None -/
def PyData.isNo : PyData → Bool
  | .none => true
  | _ => false
theorem Dt.isNo {F : Hp} {v : V} (h : Dt F v x) : decide (v = .non) = PyData.isNo x := by cases h <;> rfl
theorem de_isN (ha : DE X ρ a x) {jj : Nat} {p : Pos} : DE X ρ (.Compare a [.Is] [.Constant .none jj p] pos) (.bool (PyData.isNo x)) :=
  PE.imp (pe_cmp (pc_isN ha)) fun σ H Q ⟨F0, H0, F, E, q⟩ => ⟨F0, H0, F, E, fun v F1 H1 g1 k1 => q _ F1 H1 g1 (by rw [k1.isNo]; exact .bl _)⟩
theorem de_notN (ha : DE X ρ a x) {jj : Nat} {p : Pos} : DE X ρ (.Compare a [.IsNot] [.Constant .none jj p] pos) (.bool (!PyData.isNo x)) :=
  PE.imp (pe_cmp (pc_notN ha)) fun σ H Q ⟨F0, H0, F, E, q⟩ => ⟨F0, H0, F, E, fun v F1 H1 g1 k1 => q _ F1 H1 g1 (by rw [k1.isNo]; exact .bl _)⟩
theorem dt_isN (ha : DE X ρ a x) {jj : Nat} {p : Pos} : DT X ρ (.Compare a [.Is] [.Constant .none jj p] pos) (PyData.isNo x) :=
  PT.imp (pt_cmp (pc_isN ha)) fun σ H Q ⟨F0, H0, F, E, q⟩ => ⟨F0, H0, F, E, fun v F1 H1 g1 k1 => ⟨_, rfl, by rw [k1.isNo]; exact q F1 H1 g1⟩⟩
theorem dt_notN (ha : DE X ρ a x) {jj : Nat} {p : Pos} : DT X ρ (.Compare a [.IsNot] [.Constant .none jj p] pos) (!PyData.isNo x) :=
  PT.imp (pt_cmp (pc_notN ha)) fun σ H Q ⟨F0, H0, F, E, q⟩ => ⟨F0, H0, F, E, fun v F1 H1 g1 k1 => ⟨_, rfl, by rw [k1.isNo]; exact q F1 H1 g1⟩⟩
/-! ### truth of data -/
theorem dt_truth (ha : DE X ρ a x) (hf : x.fits63) (he : ∀ whole, isTrue a X.env whole = (do let v ← whole; standAt a.pos; holding [v] (truthy v)) := by intro _; rfl) : DT X ρ a x.truthy := by
  refine ⟨fun pins s σ H Q I h => ?_⟩
  obtain ⟨F0, H0, F, E, q⟩ := h
  refine isTrue_plain (thn (PE.run ha pins s σ H (fun v H1 => ∃ F1, Grow F H F1 H1 ∧ Dt F1 v x) I ⟨F0, H0, F, E, fun v F1 H1 g k => ⟨F1, g, k⟩⟩) fun v s1 ⟨w, H1, I1, r1, F1, g, k⟩ => ?_) (he _)
  obtain ⟨as, r⟩ := (k.mono g.fh).reads I1 r1
  exact W.truthy_data r k.plain hf fun tk _ => ⟨H1, I1.tok _, q F1 H1 g⟩
/-! ### subscripts, len, slices -/
theorem Dts.atI {F : Hp} {vs : List V} (h : Dts F vs ds) (e : L2.atI ds i = some d) : ∃ v, L2.atI vs i = some v ∧ Dt F v d := by
  unfold L2.atI at e ⊢
  rw [h.1]
  cases q : ixN ds.length i with
  | none => rw [q] at e; cases e
  | some j =>
    rw [q] at e
    exact h.at e
theorem bd_ixL {K : PySem.W.Frag} (e : L2.atI ds i = some d) : BinD (rIxL K) (.list ds) (.int i) d := fun F H u v Q ee hu hv q => by
  obtain ⟨p, xs, rfl, hp, ht⟩ := hu.isL
  obtain ⟨w, h1, h2⟩ := ht.atI e
  exact ⟨p, xs, i, w, rfl, hv.isI, .of (ee _ _ hp), h1, q w F H (.refl ee) h2⟩
theorem bd_ixT {K : PySem.W.Frag} (e : L2.atI ds i = some d) : BinD (rIxT K) (.tuple ds) (.int i) d := fun F H u v Q ee hu hv q => by
  obtain ⟨p, xs, rfl, hp, ht⟩ := hu.isT
  obtain ⟨w, h1, h2⟩ := ht.atI e
  exact ⟨p, xs, i, w, rfl, hv.isI, .of (ee _ _ hp), h1, q w F H (.refl ee) h2⟩
theorem de_ixL (ha : DE X ρ a (.list ds)) (hb : DE X ρ b (.int i)) (e : L2.atI ds i = some d) (hs : PlainIx b := by exact fun _ _ => rfl) : DE X ρ (.Subscript a b pos) d := de_ix ix_list (bd_ixL e) ha hb hs
theorem de_ixT (ha : DE X ρ a (.tuple ds)) (hb : DE X ρ b (.int i)) (e : L2.atI ds i = some d) (hs : PlainIx b := by exact fun _ _ => rfl) : DE X ρ (.Subscript a b pos) d := de_ix ix_tup (bd_ixT e) ha hb hs
/-- the place of a written index -/
theorem at_nat {α : Type} {xs : List α} {v : α} (j : Nat) (h : xs[j]? = some v := by rfl) : L2.atI xs (j : Int) = some v := atI_nat h
def slcD {α : Type} (xs : List α) (lo hi : Option Int) : List α := (xs.drop (HT.sIx xs.length 0 lo)).take (HT.sIx xs.length xs.length hi - HT.sIx xs.length 0 lo)
theorem Dts.cut {F : Hp} {vs : List V} (h : Dts F vs ds) (lo hi : Option Int) : Dts F (cutV vs lo hi) (slcD ds lo hi) := by
  unfold cutV slcD
  rw [h.1]
  exact (h.drop _).take _
def tDO (ρ : List Sl) (o : Option Int) : TO := fun σ H Q => ∃ F0 H0 F, Met F0 H0 F H σ ρ ∧ ∀ F' H', Grow F H F' H' → Q o H'
def DO (X : Cx) (ρ : List Sl) (e : Option Expr) (o : Option Int) : Prop := PO X e (tDO ρ o)
theorem PO.imp {e : Option Expr} {t t' : TO} (h : PO X e t) (i : ∀ σ H Q, t' σ H Q → t σ H Q) : PO X e t' := ⟨fun pins s σ H Q I q => h.run pins s σ H Q I (i σ H Q q)⟩
theorem do_none : DO X ρ none none := PO.imp po_none fun σ H Q ⟨F0, H0, F, E, q⟩ => q F H (.refl E.g.fh)
theorem do_some (h : DE X ρ e (.int i)) : DO X ρ (some e) (some i) := PO.imp (po_some h) fun σ H Q ⟨F0, H0, F, E, q⟩ => ⟨F0, H0, F, E, fun v F1 H1 g1 k1 => ⟨i, k1.isI, q F1 H1 g1⟩⟩
theorem de_slL {lo hi : Option Expr} {l h : Option Int} {p2 : Pos} (ha : DE X ρ a (.list ds)) (hl : DO X ρ lo l) (hh : DO X ρ hi h) : DE X ρ (.Subscript a (.Slice lo hi none p2) pos) (.list (slcD ds l h)) :=
  PE.imp (pe_slice sl_list ha hl hh) fun σ H Q ⟨F0, H0, F, E, q⟩ => ⟨F0, H0, F, E, fun v F1 H1 g1 k1 => ⟨F0, H0, F1, E.grow g1, fun F2 H2 g2 => ⟨F0, H0, F2, (E.grow g1).grow g2, fun F3 H3 g3 => by
    obtain ⟨p, xs, rfl, hp, ht⟩ := (k1.mono (g2.ff.trans g3.ff)).isL
    exact ⟨p, xs, rfl, .of (g3.fh _ _ hp), fun n hn => q _ _ _ (((g1.trans g2).trans g3).trans (Grow.new g3.fh hn)) (.mkL upd_same ((ht.cut l h).mono (.new (g3.fh.back hn))))⟩⟩⟩⟩
theorem de_slT {lo hi : Option Expr} {l h : Option Int} {p2 : Pos} (ha : DE X ρ a (.tuple ds)) (hl : DO X ρ lo l) (hh : DO X ρ hi h) : DE X ρ (.Subscript a (.Slice lo hi none p2) pos) (.tuple (slcD ds l h)) :=
  PE.imp (pe_slice sl_tupA ha hl hh) fun σ H Q ⟨F0, H0, F, E, q⟩ => ⟨F0, H0, F, E, fun v F1 H1 g1 k1 => ⟨F0, H0, F1, E.grow g1, fun F2 H2 g2 => ⟨F0, H0, F2, (E.grow g1).grow g2, fun F3 H3 g3 => by
    obtain ⟨p, xs, rfl, hp, ht⟩ := (k1.mono (g2.ff.trans g3.ff)).isT
    exact ⟨p, xs, rfl, .of (g3.fh _ _ hp), ⟨fun hc => q _ _ _ ((g1.trans g2).trans g3) (.mkT hp (by have := ht.cut l h; unfold cutV at this; rw [hc.1, hc.2] at this; simpa using this)), fun _ n hn => q _ _ _ (((g1.trans g2).trans g3).trans (Grow.new g3.fh hn)) (.mkT upd_same ((ht.cut l h).mono (.new (g3.fh.back hn))))⟩⟩⟩⟩⟩
def PyData.items : PyData → Option (List PyData)
  | .list xs => some xs
  | .tuple xs => some xs
  | _ => none
theorem cd_len {K : PySem.W.Frag} (hx : IsSeq x ds) : CallD (fun xs H Q => ∃ x n, xs = [x] ∧ LenV K x H n ∧ Q (.int n) H) [x] (.int ds.length) := fun F H us Q e hu q => by
  obtain ⟨u, r, rfl, h1, h2⟩ := hu.cases_cons
  obtain rfl := h2.cases_nil
  rcases hx with rfl | rfl
  · obtain ⟨p, xs, rfl, hp, ht⟩ := h1.isL
    exact ⟨_, ds.length, rfl, .inl ⟨xs, .of (e _ _ hp), ht.1.symm⟩, q _ F H (.refl e) (.int _)⟩
  · obtain ⟨p, xs, rfl, hp, ht⟩ := h1.isT
    exact ⟨_, ds.length, rfl, .inr ⟨xs, .of (e _ _ hp), ht.1.symm⟩, q _ F H (.refl e) (.int _)⟩
theorem cd_lenS {K : PySem.W.Frag} {t : Str} (ht : t.length ≤ 100000) : CallD (fun xs H Q => ∃ x n, xs = [x] ∧ LenV K x H n ∧ Q (.int n) H) [.str t] (.int t.length) := fun F H us Q e hu q => by
  obtain ⟨u, r, rfl, h1, h2⟩ := hu.cases_cons
  obtain rfl := h2.cases_nil
  obtain rfl := h1.isS
  exact ⟨_, t.length, rfl, ⟨Nat.le_trans ht (by decide), rfl⟩, q _ F H (.refl e) (.int _)⟩
theorem de_len {p : Pos} (hm : X.mg "len" = none) (hx : IsSeq x ds) (ha : DE X ρ a x) (hg : Gl X "len" := by rfl) (he : starEach (a :: []) X.env = (false, eval a X.env) :: starEach [] X.env := by rfl) (hpl : (backTo pos (starEach [] X.env)).any (·.1) = false := by rfl) : DE X ρ (.Call (.Name "len" p) [a] [] pos) (.int ds.length) :=
  de_callB call_len (cd_len hx) hg hm PySem.boot_len (da_cons ha da_nil he) (by decide) (by decide) he hpl
theorem de_lenS {p : Pos} {t : Str} (hm : X.mg "len" = none) (ht : t.length ≤ 100000) (ha : DE X ρ a (.str t)) (hg : Gl X "len" := by rfl) (he : starEach (a :: []) X.env = (false, eval a X.env) :: starEach [] X.env := by rfl) (hpl : (backTo pos (starEach [] X.env)).any (·.1) = false := by rfl) : DE X ρ (.Call (.Name "len" p) [a] [] pos) (.int t.length) :=
  de_callB call_len (cd_lenS ht) hg hm PySem.boot_len (da_cons ha da_nil he) (by decide) (by decide) he hpl
/-! ### + of lists, of tuples; * -/
theorem de_catL (ha : DE X ρ a (.list xs)) (hb : DE X ρ b (.list ys)) (hl : xs.length + ys.length ≤ 100000) : DE X ρ (.BinOp a .Add b pos) (.list (xs ++ ys)) := de_op op_cat (fun F H u v Q e hu hv q => by
  obtain ⟨p, us, rfl, hp, ht⟩ := hu.isL
  obtain ⟨p', ws, rfl, hp', ht'⟩ := hv.isL
  exact ⟨p, p', us, ws, rfl, rfl, e _ _ hp, e _ _ hp', by rw [ht.1, ht'.1]; exact Nat.le_trans hl (by decide), fun n hn => q _ _ _ (Grow.new e hn) (.mkL upd_same ((ht.append ht').mono (.new (e.back hn))))⟩) ha hb
theorem de_catT (ha : DE X ρ a (.tuple xs)) (hb : DE X ρ b (.tuple ys)) (hl : xs.length + ys.length ≤ 100000) : DE X ρ (.BinOp a .Add b pos) (.tuple (xs ++ ys)) := de_op op_catA (fun F H u v Q e hu hv q => by
  obtain ⟨p, us, rfl, hp, ht⟩ := hu.isT
  obtain ⟨p', ws, rfl, hp', ht'⟩ := hv.isT
  refine ⟨p, p', us, ws, rfl, rfl, .of (e _ _ hp), .of (e _ _ hp'), by rw [ht.1, ht'.1]; exact Nat.le_trans hl (by decide), ?_, ?_, ?_⟩
  · intro h
    subst h
    obtain rfl : xs = [] := by cases xs with
      | nil => rfl
      | cons x xs => have := ht.1; simp at this
    exact q _ F H (.refl e) (.mkT hp' ht')
  · intro _ h
    subst h
    obtain rfl : ys = [] := by cases ys with
      | nil => rfl
      | cons x xs => have := ht'.1; simp at this
    exact q _ F H (.refl e) (by rw [List.append_nil]; exact .mkT hp ht)
  · intro _ _ n hn
    exact q _ _ _ (Grow.new e hn) (.mkT upd_same ((ht.append ht').mono (.new (e.back hn))))) ha hb
end
end DL

namespace DL
open PySem PySem.Spec PyProof.Rows L2

/-! ### what is walked -/
def Walks (J : It) (F : Hp) (xs : List PyData) : Prop := ∀ (i : Nat) (F2 H2 : Hp), Ex F F2 → Ex F2 H2 →
  (∀ d, xs[i]? = some d → J.go i H2 ∧ ∀ x H3, J.yld i H2 x H3 → ∃ F3, Grow F2 H2 F3 H3 ∧ Dt F3 x d) ∧ (xs.length ≤ i → J.stop i H2)
def tDI (ρ : List Sl) (xs : List PyData) : TI := fun σ H R => ∃ F0 H0 F, Met F0 H0 F H σ ρ ∧ ∀ J F' H', Grow F H F' H' → Walks J F' xs → R J H'
def DI (X : Cx) (tg : Expr) (ρ : List Sl) (iter : Expr) (xs : List PyData) : Prop := PI X tg iter (tDI ρ xs)
section
variable {X : Cx} {ρ : List Sl} {e a b c tg iter : Expr} {es : List Expr} {d x y z : PyData} {pos : Pos} {i j : Int} {k k' : Bool} {ds xs ys : List PyData}
theorem PI.imp {t t' : TI} (h : PI X tg iter t) (i : ∀ σ H R, t' σ H R → t σ H R) : PI X tg iter t' := ⟨fun pins s σ H Q I q => h.run pins s σ H Q I (i σ H Q q)⟩
theorem walks_list {K : PySem.W.Frag} {F : Hp} {p : Addr} {vs : List V} (hp : F p = some (.lst vs)) (ht : Dts F vs xs) : Walks (Itl K p) F xs := fun i F2 H2 e2 h2 => ⟨fun d hd => by
  obtain ⟨v, hv, k⟩ := ht.at hd
  have q : SqL K H2 p vs := .of (h2 _ _ (e2 _ _ hp))
  refine ⟨⟨vs, v, q, hv⟩, fun w H3 hy => ?_⟩
  obtain ⟨rfl, hy⟩ := hy
  have := hy vs q
  rw [hv] at this
  cases this
  exact ⟨F2, .refl h2, k.mono e2⟩, fun hl => ⟨vs, .of (h2 _ _ (e2 _ _ hp)), by rw [ht.1]; exact hl⟩⟩
theorem walks_tup {K : PySem.W.Frag} {F : Hp} {p : Addr} {vs : List V} (hp : F p = some (.tup vs)) (ht : Dts F vs xs) : Walks (Itt K p) F xs := fun i F2 H2 e2 h2 => ⟨fun d hd => by
  obtain ⟨v, hv, k⟩ := ht.at hd
  have q : SqT K H2 p vs := .of (h2 _ _ (e2 _ _ hp))
  refine ⟨⟨vs, v, q, hv⟩, fun w H3 hy => ?_⟩
  obtain ⟨rfl, hy⟩ := hy
  have := hy vs q
  rw [hv] at this
  cases this
  exact ⟨F2, .refl h2, k.mono e2⟩, fun hl => ⟨vs, .of (h2 _ _ (e2 _ _ hp)), by rw [ht.1]; exact hl⟩⟩
def rangeD (lo : Int) (n : Nat) : List PyData := (List.range n).map fun i : Nat => .int (lo + (i : Int))
theorem walks_range {F : Hp} {lo : Int} {n : Nat} : Walks (Itr lo n) F (rangeD lo n) := fun i F2 H2 e2 h2 => ⟨fun d hd => by
  unfold rangeD at hd
  rw [List.getElem?_map] at hd
  have hi : i < n := by
    cases q : (List.range n)[i]? with
    | none => rw [q] at hd; cases hd
    | some m => have := (List.getElem?_eq_some_iff.mp q).1; simpa using this
  rw [List.getElem?_range hi] at hd
  cases hd
  refine ⟨hi, fun w H3 hy => ?_⟩
  obtain ⟨rfl, rfl⟩ := hy
  exact ⟨F2, .refl h2, .int _⟩, fun hl => by show n ≤ i; simpa [rangeD] using hl⟩
theorem di_list (h : DE X ρ a (.list xs)) : DI X tg ρ a xs := PI.imp (pi_list h) fun σ H R ⟨F0, H0, F, E, q⟩ => ⟨F0, H0, F, E, fun v F1 H1 g1 k1 => by
  obtain ⟨p, vs, rfl, hp, ht⟩ := k1.isL
  exact ⟨p, rfl, ⟨vs, .of (g1.fh _ _ hp)⟩, q _ F1 H1 g1 (walks_list hp ht)⟩⟩
theorem di_tup (h : DE X ρ a (.tuple xs)) : DI X tg ρ a xs := PI.imp (pi_tup h) fun σ H R ⟨F0, H0, F, E, q⟩ => ⟨F0, H0, F, E, fun v F1 H1 g1 k1 => by
  obtain ⟨p, vs, rfl, hp, ht⟩ := k1.isT
  exact ⟨p, rfl, ⟨vs, .of (g1.fh _ _ hp)⟩, q _ F1 H1 g1 (walks_tup hp ht)⟩⟩
theorem di_range1 {p : Pos} (hm : X.mg "range" = none) (h : DE X ρ a (.int j)) (hj : j ≤ 100000) (hj0 : -100000 ≤ j) (hg : Gl X "range" := by rfl) (hs : starEach [a] X.env = [(false, eval a X.env)] := by rfl) : DI X tg ρ (.Call (.Name "range" p) [a] [] pos) (rangeD 0 j.toNat) :=
  PI.imp (pi_range1 hg hm (da_cons h da_nil hs) hs) fun σ H R ⟨F0, H0, F, E, q⟩ => ⟨F0, H0, F, E, fun vs F1 H1 g1 k1 => by
    obtain ⟨v, r, rfl, h1, h2⟩ := k1.cases_cons
    obtain rfl := h2.cases_nil
    obtain rfl := h1.isI
    exact ⟨j, rfl, by omega, by omega, q _ F1 H1 g1 walks_range⟩⟩
theorem di_range2 {p : Pos} (hm : X.mg "range" = none) (h : DE X ρ a (.int i)) (h' : DE X ρ b (.int j)) (hj : j ≤ 100000) (hj0 : -100000 ≤ j) (hi : i ≤ 100000) (hi0 : -100000 ≤ i) (hg : Gl X "range" := by rfl) (hs : starEach [a, b] X.env = [(false, eval a X.env), (false, eval b X.env)] := by rfl) (hs2 : starEach [b] X.env = [(false, eval b X.env)] := by rfl) : DI X tg ρ (.Call (.Name "range" p) [a, b] [] pos) (rangeD i (j - i).toNat) :=
  PI.imp (pi_range2 hg hm (da_cons h (da_cons h' da_nil hs2) (by rw [hs, hs2])) hs hs2) fun σ H R ⟨F0, H0, F, E, q⟩ => ⟨F0, H0, F, E, fun vs F1 H1 g1 k1 => by
    obtain ⟨v, r, rfl, h1, h2⟩ := k1.cases_cons
    obtain ⟨v', r', rfl, h3, h4⟩ := h2.cases_cons
    obtain rfl := h4.cases_nil
    obtain rfl := h1.isI
    obtain rfl := h3.isI
    exact ⟨i, j, rfl, ⟨by omega, by omega, by omega, by omega⟩, q _ F1 H1 g1 walks_range⟩⟩
end
/-! ### targets -/
structure TgOk (g : TG) (vs : List Nat) (S : List Sl → PyData → Option (List Sl)) : Prop where
  run : ∀ (F0 H0 F H : Hp) (σ : L2.St) (ρ ρ' : List Sl) (v : V) (x : PyData) (Q : L2.St → Hp → Prop), Met F0 H0 F H σ ρ → Dt F v x → S ρ x = some ρ' → (∀ σ', Met F0 H0 F H σ' ρ' → wipe σ' vs = wipe σ vs → Q σ' H) → g v σ H Q
theorem set_comm' {α : Type} (l : List α) (i j : Nat) (a b : α) (h : i ≠ j) : (l.set i a).set j b = (l.set j b).set i a := List.set_comm a b h
theorem wipe_set {σ : L2.St} {j : Nat} {v : Option V} : ∀ {vs : List Nat}, j ∈ vs → wipe (σ.set j v) vs = wipe σ vs
  | [], h => nomatch h
  | k :: vs, h => by
    unfold wipe
    by_cases hk : j ∈ vs
    · rw [wipe_set hk]
    · have e : j = k := by
        rcases List.mem_cons.mp h with h | h
        · exact h
        · exact absurd h hk
      subst e
      have aux : ∀ (vs : List Nat), j ∉ vs → ∀ σ : L2.St, wipe (σ.set j v) vs = (wipe σ vs).set j v := by
        intro vs
        induction vs with
        | nil => intro _ σ; rfl
        | cons m vs ih =>
          intro hm σ
          unfold wipe
          have h1 : j ≠ m := fun q => hm (by simp [q])
          rw [ih (fun q => hm (List.mem_cons_of_mem _ q)) σ]
          exact set_comm' _ _ _ _ _ h1
      rw [aux vs hk σ, List.set_set]
def sName (j : Nat) : List Sl → PyData → Option (List Sl) := fun ρ x => some (ρ.set j (.d x))
def sPair (i j : Nat) : List Sl → PyData → Option (List Sl) := fun ρ x => match x with
  | .tuple [a, b] => some ((ρ.set i (.d a)).set j (.d b))
  | _ => none
theorem tg_name {j : Nat} {vs : List Nat} (h : j ∈ vs) : TgOk (gName j) vs (sName j) := ⟨fun F0 H0 F H σ ρ ρ' v x Q E k hs q => by
  cases hs
  exact q _ (E.set j k) (wipe_set h)⟩
theorem tg_pair {K : PySem.W.Frag} {i j : Nat} {vs : List Nat} (hi : i ∈ vs) (hj : j ∈ vs) : TgOk (gTup K 2 (gCons (gName i) (gCons (gName j) gNil))) vs (sPair i j) := ⟨fun F0 H0 F H σ ρ ρ' v x Q E k hs q => by
  unfold sPair at hs
  split at hs
  · rename_i a b
    cases hs
    obtain ⟨p, us, rfl, hp, ht⟩ := k.isT
    obtain ⟨u, r, rfl, h1, h2⟩ := ht.cases_cons
    obtain ⟨u', r', rfl, h3, h4⟩ := h2.cases_cons
    obtain rfl := h4.cases_nil
    refine ⟨p, _, rfl, .of (E.g.fh _ _ hp), rfl, u, [u'], rfl, u', [], rfl, rfl, q _ ((E.set i h1).set j h3) ?_⟩
    rw [wipe_set hj, wipe_set hi]
  · cases hs⟩
/-! ### comprehensions -/
def wipeS (ρ : List Sl) : List Nat → List Sl
  | [] => ρ
  | v :: vs => (wipeS ρ vs).set v .no
theorem Met.wipe {F0 H0 F H : Hp} {σ : L2.St} {ρ : List Sl} (E : Met F0 H0 F H σ ρ) : ∀ vs : List Nat, Met F0 H0 F H (L2.wipe σ vs) (wipeS ρ vs)
  | [] => E
  | v :: vs => by
    have ih := E.wipe vs
    unfold L2.wipe wipeS
    refine ⟨ih.g, by simp [ih.len], fun i o s h1 h2 => ?_, fun i m s t a hik h1 h2 o1 o2 q1 => ?_⟩
    · by_cases hij : v = i
      · subst hij
        rw [List.getElem?_set] at h2
        simp only [if_true] at h2
        split at h2
        · cases h2; trivial
        · cases h2
      · rw [List.getElem?_set_ne hij] at h1 h2
        exact ih.sl i o s h1 h2
    · have ne : ∀ {m : Nat} {u : Sl}, ((wipeS ρ vs).set v .no)[m]? = some u → u.own = true → m ≠ v := fun {m u} hm ho hj => by
        subst hj
        rw [List.getElem?_set] at hm
        simp only [if_true] at hm
        split at hm
        · cases hm; cases ho
        · cases hm
      have n1 := ne h1 o1
      have n2 := ne h2 o2
      rw [List.getElem?_set_ne (Ne.symm n1)] at h1 q1
      rw [List.getElem?_set_ne (Ne.symm n2)] at h2 ⊢
      exact ih.ne i m s t a hik h1 h2 o1 o2 q1
def DTs (X : Cx) (ρ : List Sl) (es : List Expr) (b : Bool) : Prop := PTs X es (tDT ρ b)
section
variable {X : Cx} {ρ : List Sl} {e a b c tg iter : Expr} {es : List Expr} {d x y z : PyData} {pos : Pos} {i j : Int} {k k' : Bool} {ds xs ys : List PyData}
theorem dts_nil : DTs X ρ [] true := ⟨fun pins s σ H Q I ⟨F0, H0, F, E, q⟩ => pts_nil.run pins s σ H Q I (q F H (.refl E.g.fh))⟩
theorem dts_one (h : DT X ρ e k) : DTs X ρ [e] k := pts_one h
theorem filter_snoc {α : Type} (l : List α) (x : α) (p : α → Bool) : (l ++ [x]).filter p = l.filter p ++ (if p x then [x] else []) := by
  rw [List.filter_append, List.filter_cons]
  cases p x <;> rfl
theorem take_snoc {α : Type} {l : List α} {i : Nat} {x : α} (h : l[i]? = some x) : l.take (i + 1) = l.take i ++ [x] := by
  rw [List.take_add_one, h]; rfl
/-- the turns of a comprehension, by its items -/
theorem lc_turns {α : Type} {as : List α} {enc : α → PyData} {p : α → Bool} {f : α → PyData} {g : TG} {tt : TT} {te : TE} {vs : List Nat} {S : List Sl → PyData → Option (List Sl)}
    (T : TgOk g vs S) (hl : as.length ≤ 100000) {J : It} {F0 H0 F1 H1 : Hp} {σ : L2.St} (E1 : Met F0 H0 F1 H1 σ ρ) (wk : Walks J F1 (as.map enc))
    (hb : ∀ (i : Nat) (x : α), as[i]? = some x → ∃ ρ', S (wipeS ρ vs) (enc x) = some ρ' ∧ (∀ σ H Q, tDT ρ' (p x) σ H Q → tt σ H Q) ∧ (p x = true → ∀ σ H Q, tD ρ' (f x) σ H Q → te σ H Q))
    {Q : VK} (q : ∀ v F' H', Grow F1 H1 F' H' → Dt F' v (.list ((as.filter p).map f)) → Q v H') :
    ∀ D, H1 D = none → ∃ W : Nat → Nat → Hp → Prop, (∃ m, W 0 m (upd H1 D (.lst []))) ∧ ∀ i m H, W i m H →
      (J.stop i H ∧ Q (.ref D) H) ∨ (J.go i H ∧ ∃ Nx : Hp → Prop, (∀ H', Nx H' → ∃ m', m' < m ∧ W (i + 1) m' H') ∧ ∀ x H', J.yld i H x H' → g x (wipe σ vs) H' fun σ2 H2 => wipe σ2 vs = wipe σ vs ∧ tt σ2 H2 fun b H3 =>
        if b = true then te σ2 H3 fun y H4 => ∃ acc, H4 D = some (.lst acc) ∧ acc.length < sizeLine ∧ Nx (upd H4 D (.lst (acc ++ [y]))) else Nx H3) := by
  intro D hD
  have fD : F1 D = none := E1.g.fh.back hD
  refine ⟨fun i m H => i + m = as.length ∧ ∃ F us, Grow F1 H1 F H ∧ F D = none ∧ H D = some (.lst us) ∧ Dts F us (((as.take i).filter p).map f),
    ⟨as.length, by omega, F1, [], Grow.apart E1.g.fh hD, fD, upd_same, by simpa using Dts.nil⟩, ?_⟩
  rintro i m H ⟨him, F, us, gr, fd, hd, ht⟩
  have wi := wk i F H gr.ff gr.fh
  by_cases hi : i < as.length
  · right
    obtain ⟨x, hx⟩ : ∃ x, as[i]? = some x := ⟨as[i], List.getElem?_eq_getElem hi⟩
    obtain ⟨ρ', hS, h1, h2⟩ := hb i x hx
    have hxe : (as.map enc)[i]? = some (enc x) := by rw [List.getElem?_map, hx]; rfl
    obtain ⟨w1, w2⟩ := wi.1 _ hxe
    have hus : us.length < sizeLine := by
      rw [ht.1, List.length_map]
      have a1 : ((as.take i).filter p).length ≤ (as.take i).length := List.length_filter_le _ _
      have a2 : (as.take i).length ≤ i := List.length_take_le _ _
      exact Nat.lt_of_lt_of_le (show ((as.take i).filter p).length < 100001 by omega) (by decide)
    have hst : (as.take (i + 1)).filter p = (as.take i).filter p ++ (if p x then [x] else []) := by rw [take_snoc hx, filter_snoc]
    refine ⟨w1, fun H' => ∃ F us, Grow F1 H1 F H' ∧ F D = none ∧ H' D = some (.lst us) ∧ Dts F us (((as.take (i + 1)).filter p).map f), fun H' ⟨F', us', z⟩ => ⟨m - 1, by omega, by omega, F', us', z⟩, fun v H2 hy => ?_⟩
    obtain ⟨F2, g2, k2⟩ := w2 v H2 hy
    have E2 : Met F0 H0 F2 H2 (wipe σ vs) (wipeS ρ vs) := ((E1.grow gr).grow g2).wipe vs
    refine T.run F0 H0 F2 H2 _ _ ρ' v (enc x) _ E2 k2 hS fun σ' E3 hw => ⟨?_, h1 _ _ _ ⟨F0, H0, F2, E3, fun F3 H3 g3 => ?_⟩⟩
    · rw [hw]
      have ww : ∀ (l : List Nat) (τ : L2.St), (∀ j ∈ l, j ∈ vs) → wipe (wipe σ vs) l = wipe σ vs := by
        intro l
        induction l with
        | nil => intro _ _; rfl
        | cons m l ih =>
          intro τ hm
          unfold wipe
          rw [ih τ fun j hj => hm j (List.mem_cons_of_mem _ hj)]
          have hmv := hm m List.mem_cons_self
          have aux : ∀ (l : List Nat), m ∈ l → (wipe σ l).set m none = wipe σ l := by
            intro l
            induction l with
            | nil => intro h; exact nomatch h
            | cons n l ih2 =>
              intro h
              unfold wipe
              by_cases hn : n = m
              · subst hn; rw [List.set_set]
              · rcases List.mem_cons.mp h with h | h
                · exact absurd h.symm hn
                · rw [set_comm' _ _ _ _ _ hn, ih2 h]
          cases vs with
          | nil => exact nomatch hmv
          | cons n vs => exact aux _ hmv
      exact ww vs σ fun j hj => hj
    · have hd3 : H3 D = some (.lst us) := g3.hh _ _ (g2.hh _ _ hd)
      have fd3 : F3 D = none := by rw [g3.old D _ (g2.hh _ _ hd), g2.old D _ hd, fd]
      have gr3 : Grow F1 H1 F3 H3 := (gr.trans g2).trans g3
      cases hp : p x with
      | true =>
        show te σ' H3 _
        refine h2 hp _ _ _ ⟨F0, H0, F3, E3.grow g3, fun y F4 H4 g4 k4 => ⟨us, g4.hh _ _ hd3, hus, F4, us ++ [y], ?_, ?_, upd_same, ?_⟩⟩
        · have gr4 := gr3.trans g4
          refine ⟨fun b o hb => ?_, gr4.ff, fun b o hb => ?_, gr4.old⟩
          · rw [upd_ne (ne_of_none hb hD)]; exact gr4.hh b o hb
          · have : b ≠ D := fun q => by
              subst q
              rw [g4.old b _ hd3, fd3] at hb
              cases hb
            rw [upd_ne this]; exact gr4.fh b o hb
        · rw [g4.old D _ hd3]; exact fd3
        · rw [hst, hp, if_pos rfl, List.map_append]
          exact (ht.mono ((g2.ff.trans g3.ff).trans g4.ff)).append (.cons k4 .nil)
      | false =>
        show ∃ F us, _
        refine ⟨F3, us, gr3, fd3, hd3, ?_⟩
        rw [hst, hp, if_neg Bool.false_ne_true, List.append_nil]
        exact ht.mono (g2.ff.trans g3.ff)
  · left
    have hi' : as.length ≤ i := by omega
    refine ⟨wi.2 (by simpa using hi'), q (.ref D) (upd F D (.lst us)) H ⟨gr.hh, fun b o hb => ?_, fun b o hb => ?_, fun b o hb => ?_⟩ (.mkL upd_same ?_)⟩
    · rw [upd_ne (ne_of_none (gr.ff b o hb) fd)]; exact gr.ff b o hb
    · by_cases hbD : b = D
      · subst hbD; rw [upd_same] at hb; rw [hd]; exact hb
      · rw [upd_ne hbD] at hb; exact gr.fh b o hb
    · rw [upd_ne (ne_of_none hb hD)]; exact gr.old b o hb
    · rw [List.take_of_length_le hi'] at ht
      exact ht.mono (.new fd)
def uT (X : Cx) (scope : Scope) (ifs : List Expr) : TT := fun σ H Q => ∃ ρ' b, (∀ (s : Shared) (H : Hp) (C : Addr) (cl : List (Str × Addr)) (fp : List Addr), DTs (X.blk s H scope (compEnvC scope cl C X.env) fp) ρ' ifs b) ∧ tDT ρ' b σ H Q
def uE (X : Cx) (scope : Scope) (elt : Expr) : TE := fun σ H Q => ∃ ρ' d, (∀ (s : Shared) (H : Hp) (C : Addr) (cl : List (Str × Addr)) (fp : List Addr), DE (X.blk s H scope (compEnvC scope cl C X.env) fp) ρ' elt d) ∧ tD ρ' d σ H Q
theorem de_lc {α : Type} (as : List α) (enc : α → PyData) (p : α → Bool) (f : α → PyData) {elt tg iter : Expr} {ifs : List Expr} {scope : Scope} (own : List (Str × Nat)) {g : TG} {S : List Sl → PyData → Option (List Sl)}
    (hc : X.calm = true) (hN : X.N.Nodup) (ok : BlkOk X.N X.env.scope scope own) (T : TgOk g (own.map (·.2)) S)
    (hg : ∀ (s : Shared) (H : Hp) (C : Addr) (cl : List (Str × Addr)) (fp : List Addr), PG (X.blk s H scope (compEnvC scope cl C X.env) fp) tg g)
    (hi : DI X tg ρ iter (as.map enc)) (hl : as.length ≤ 100000)
    (hb : ∀ (i : Nat) (x : α), as[i]? = some x → ∃ ρ', S (wipeS ρ (own.map (·.2))) (enc x) = some ρ' ∧
      (∀ (s : Shared) (H : Hp) (C : Addr) (cl : List (Str × Addr)) (fp : List Addr), DTs (X.blk s H scope (compEnvC scope cl C X.env) fp) ρ' ifs (p x)) ∧
      (p x = true → ∀ (s : Shared) (H : Hp) (C : Addr) (cl : List (Str × Addr)) (fp : List Addr), DE (X.blk s H scope (compEnvC scope cl C X.env) fp) ρ' elt (f x)))
    (hs : ∀ x, foldedSetIterable iter X.env x = pure x := by intro _; rfl) :
    DE X ρ (.ListComp elt [⟨tg, iter, ifs, 0⟩] scope pos) (.list ((as.filter p).map f)) := by
  refine PE.imp (pe_lc (own := own) (g := g) (tt := uT X scope ifs) (te := uE X scope elt)
    hc hN hi ok hg (fun s H C cl fp => ⟨fun pins s1 σ H1 Q I ⟨ρ', b, h, t⟩ => PTs.run (h s H C cl fp) pins s1 σ H1 Q I t⟩) (fun s H C cl fp => ⟨fun pins s1 σ H1 Q I ⟨ρ', b, h, t⟩ => PE.run (h s H C cl fp) pins s1 σ H1 Q I t⟩) hs) ?_
  rintro σ H Q ⟨F0, H0, F, E, q⟩
  refine ⟨F0, H0, F, E, fun J F1 H1 g1 wk => ?_⟩
  refine lc_turns (p := p) (f := f) (tt := uT X scope ifs) (te := uE X scope elt) T hl (E.grow g1) wk (fun i x hx => ?_) (fun v F' H' g' k' => q v F' H' (g1.trans g') k')
  obtain ⟨ρ', hS, h1, h2⟩ := hb i x hx
  exact ⟨ρ', hS, fun σ H Q t => ⟨ρ', _, h1, t⟩, fun hp σ H Q t => ⟨ρ', _, h2 hp, t⟩⟩
end
end DL

namespace DL
open PySem PySem.Spec PyProof.Rows L2

/-! ### statements -/
inductive Out where
  | nx (ρ : List Sl)
  | rt (d : PyData)
  | bk (ρ : List Sl)
  | ct (ρ : List Sl)
  | rs (C : Addr)
structure Fin (E : XK) (Φ : Out → Prop) (D : Ends) (F0 H0 F : Hp) : Prop where
  nx : ∀ (ρ : List Sl) (σ : L2.St) (F' H' : Hp), Φ (.nx ρ) → Ex F F' → Met F0 H0 F' H' σ ρ → D.nx σ H'
  rt : ∀ (d : PyData) (v : V) (F' H' : Hp), Φ (.rt d) → Ex F F' → Grow F0 H0 F' H' → Dt F' v d → D.rt v H'
  bk : ∀ (ρ : List Sl) (σ : L2.St) (F' H' : Hp), Φ (.bk ρ) → Ex F F' → Met F0 H0 F' H' σ ρ → D.bk σ H'
  ct : ∀ (ρ : List Sl) (σ : L2.St) (F' H' : Hp), Φ (.ct ρ) → Ex F F' → Met F0 H0 F' H' σ ρ → D.ct σ H'
  rs : ∀ (C : Addr) (F' H' : Hp), Φ (.rs C) → Ex F F' → Grow F0 H0 F' H' → E (.ref C) none H'
theorem Fin.later {E : XK} {Φ : Out → Prop} {D : Ends} {F0 H0 F F1 : Hp} (f : Fin E Φ D F0 H0 F) (e : Ex F F1) : Fin E Φ D F0 H0 F1 :=
  ⟨fun ρ σ F' H' h e' => f.nx ρ σ F' H' h (e.trans e'), fun d v F' H' h e' => f.rt d v F' H' h (e.trans e'), fun ρ σ F' H' h e' => f.bk ρ σ F' H' h (e.trans e'), fun ρ σ F' H' h e' => f.ct ρ σ F' H' h (e.trans e'), fun C F' H' h e' => f.rs C F' H' h (e.trans e')⟩
theorem Fin.imp {E : XK} {Φ Ψ : Out → Prop} {D : Ends} {F0 H0 F : Hp} (f : Fin E Φ D F0 H0 F) (h : ∀ o, Ψ o → Φ o) : Fin E Ψ D F0 H0 F :=
  ⟨fun ρ σ F' H' z => f.nx ρ σ F' H' (h _ z), fun d v F' H' z => f.rt d v F' H' (h _ z), fun ρ σ F' H' z => f.bk ρ σ F' H' (h _ z), fun ρ σ F' H' z => f.ct ρ σ F' H' (h _ z), fun C F' H' z => f.rs C F' H' (h _ z)⟩
def tDS (E : XK) (ρ : List Sl) (Φ : Out → Prop) : TS := fun D σ H => ∃ F0 H0 F, Met F0 H0 F H σ ρ ∧ Fin E Φ D F0 H0 F
def DS (X : Cx) (E : XK) (ρ : List Sl) (st : Stmt) (Φ : Out → Prop) : Prop := PS X st (tDS E ρ Φ)
def DSs (X : Cx) (E : XK) (ρ : List Sl) (sts : List Stmt) (Φ : Out → Prop) : Prop := PSs X sts (tDS E ρ Φ)
/-- an expression that raises -/
def tDR (E : XK) (ρ : List Sl) (C : Addr) : TE := fun σ H Q => ∃ F0 H0 F, Met F0 H0 F H σ ρ ∧ ∀ F' H', Grow F H F' H' → E (.ref C) none H'
def DR (X : Cx) (E : XK) (ρ : List Sl) (e : Expr) (C : Addr) : Prop := PE X e (tDR E ρ C)
def Then (X : Cx) (E : XK) (rest : List Stmt) (Φ : Out → Prop) : Out → Prop
  | .nx ρ => DSs X E ρ rest Φ
  | o => Φ o
section
variable {X : Cx} {E : XK} {ρ : List Sl} {e a b c tg iter : Expr} {es : List Expr} {d x y z : PyData} {pos : Pos} {i j : Nat} {k k' : Bool} {ds xs ys : List PyData} {Φ Ψ : Out → Prop} {st : Stmt} {sts rest : List Stmt} {n n' : Str}
theorem PS.imp {t t' : TS} (h : PS X st t) (i : ∀ D σ H, t' D σ H → t D σ H) : PS X st t' := ⟨fun pins s σ H D I q => h.run pins s σ H D I (i D σ H q)⟩
theorem PSs.imp {t t' : TS} (h : PSs X sts t) (i : ∀ D σ H, t' D σ H → t D σ H) : PSs X sts t' := ⟨fun pins s σ H D I q => h.run pins s σ H D I (i D σ H q)⟩
theorem DS.mono (h : DS X E ρ st Ψ) (m : ∀ o, Ψ o → Φ o) : DS X E ρ st Φ := PS.imp h fun D σ H ⟨F0, H0, F, M, f⟩ => ⟨F0, H0, F, M, f.imp m⟩
theorem DSs.mono (h : DSs X E ρ sts Ψ) (m : ∀ o, Ψ o → Φ o) : DSs X E ρ sts Φ := PSs.imp h fun D σ H ⟨F0, H0, F, M, f⟩ => ⟨F0, H0, F, M, f.imp m⟩
theorem DSs.weak {ρ' : List Sl} (h : DSs X E ρ' sts Φ) (l : Le ρ' ρ) : DSs X E ρ sts Φ := PSs.imp h fun D σ H ⟨F0, H0, F, M, f⟩ => ⟨F0, H0, F, M.weak l, f⟩
theorem dss_nil (h : Φ (.nx ρ)) : DSs X E ρ [] Φ := PSs.imp pss_nil fun D σ H ⟨F0, H0, F, M, f⟩ => f.nx ρ σ F H h (.refl F) M
theorem dss_cons (h : DS X E ρ st (Then X E rest Φ)) : DSs X E ρ (st :: rest) Φ := by
  refine PSs.imp (pss_cons (u := fun D σ H => ∃ ρ', DSs X E ρ' rest Φ ∧ tDS E ρ' Φ D σ H) h ⟨fun pins s σ H D I ⟨ρ', q, t⟩ => PSs.run q pins s σ H D I t⟩) ?_
  rintro D σ H ⟨F0, H0, F, M, f⟩
  exact ⟨F0, H0, F, M, ⟨fun ρ' σ' F' H' z e m => ⟨ρ', z, F0, H0, F', m, f.later e⟩, fun d v F' H' z => f.rt d v F' H' z, fun ρ' σ' F' H' z => f.bk ρ' σ' F' H' z, fun ρ' σ' F' H' z => f.ct ρ' σ' F' H' z, fun C F' H' z => f.rs C F' H' z⟩⟩
/-- a statement, then the rest from what holds between them -/
theorem dss_mid (W : List Sl → Prop) (h : DS X E ρ st (fun o => match o with | .nx ρ' => W ρ' | o => Φ o)) (h2 : ∀ ρ', W ρ' → DSs X E ρ' rest Φ) : DSs X E ρ (st :: rest) Φ :=
  dss_cons (DS.mono h fun o z => match o, z with | .nx ρ', z => h2 ρ' z | .rt _, z => z | .bk _, z => z | .ct _, z => z | .rs _, z => z)
theorem dss_one (h : DS X E ρ st Φ) : DSs X E ρ [st] Φ := pss_one h
theorem ds_asg (i : Nat) (he : DE X ρ e d) (h : Φ (.nx (ρ.set i (.d d)))) {pos' : Pos} (hN : X.N.Nodup) (hi : X.N[i]? = some n := by rfl) (hx : Loc X.env.scope n := by first | exact Or.inl rfl | exact Or.inr rfl) (hs : swapsWith e (some (.Name n pos')) pos.line X.env = pure false := by rfl) (hf : X.fn n = true ∨ X.env.scope.names.lookup n = some .local := by first | exact .inl rfl | exact .inr rfl) :
    DS X E ρ (.Assign [.Name n pos'] e pos) Φ := PS.imp (ps_set hN hi hx he hs hf) fun D σ H ⟨F0, H0, F, M, f⟩ => ⟨F0, H0, F, M, fun v F1 H1 g k => f.nx _ _ F1 H1 h g.ff ((M.grow g).set i k)⟩
theorem ds_ret (he : DE X ρ e d) (h : Φ (.rt d)) : DS X E ρ (.Return (some e) pos) Φ := PS.imp (ps_ret he) fun D σ H ⟨F0, H0, F, M, f⟩ => ⟨F0, H0, F, M, fun v F1 H1 g k => f.rt d v F1 H1 h g.ff (M.g.trans g) k⟩
theorem ds_retN (h : Φ (.rt .none)) : DS X E ρ (.Return none pos) Φ := PS.imp ps_retN fun D σ H ⟨F0, H0, F, M, f⟩ => f.rt .none .non F H h (.refl F) M.g .non
theorem pss_if {p : Prop} {t : TS} (h : p → PSs X sts t) : PSs X sts (fun D σ H => p ∧ t D σ H) := ⟨fun pins s σ H Q I q => (h q.1).run pins s σ H Q I q.2⟩
theorem ds_if {A B : List Stmt} (hc : DT X ρ c k) (h1 : k = true → DSs X E ρ A Φ) (h2 : k = false → DSs X E ρ B Φ) : DS X E ρ (.If c A B pos) Φ :=
  PS.imp (ps_if hc (pss_if h1) (pss_if h2)) fun D σ H ⟨F0, H0, F, M, f⟩ => ⟨F0, H0, F, M, fun F1 H1 g => by
    cases k with
    | true => exact ⟨rfl, F0, H0, F1, M.grow g, f.later g.ff⟩
    | false => exact ⟨rfl, F0, H0, F1, M.grow g, f.later g.ff⟩⟩
theorem ds_expr (he : DE X ρ e d) (h : Φ (.nx ρ)) (hs : swapsWith e none pos.line X.env = pure false := by rfl) : DS X E ρ (.Expr e pos) Φ := PS.imp (ps_expr he hs) fun D σ H ⟨F0, H0, F, M, f⟩ => ⟨F0, H0, F, M, fun v F1 H1 g k => f.nx ρ σ F1 H1 h g.ff (M.grow g)⟩
theorem ds_pass (h : Φ (.nx ρ)) : DS X E ρ (.Pass pos) Φ := PS.imp ps_pass fun D σ H ⟨F0, H0, F, M, f⟩ => f.nx ρ σ F H h (.refl F) M
/-- statements whose expression raises -/
theorem ds_exprR {C : Addr} (he : DR X E ρ e C) (h : Φ (.rs C)) (hs : swapsWith e none pos.line X.env = pure false := by rfl) : DS X E ρ (.Expr e pos) Φ := PS.imp (ps_expr he hs) fun D σ H ⟨F0, H0, F, M, f⟩ => ⟨F0, H0, F, M, fun F1 H1 g => f.rs C F1 H1 h g.ff (M.g.trans g)⟩
theorem ds_retR {C : Addr} (he : DR X E ρ e C) (h : Φ (.rs C)) : DS X E ρ (.Return (some e) pos) Φ := PS.imp (ps_ret he) fun D σ H ⟨F0, H0, F, M, f⟩ => ⟨F0, H0, F, M, fun F1 H1 g => f.rs C F1 H1 h g.ff (M.g.trans g)⟩
theorem ds_asgR {C : Addr} (i : Nat) (he : DR X E ρ e C) (h : Φ (.rs C)) {pos' : Pos} (hN : X.N.Nodup) (hi : X.N[i]? = some n := by rfl) (hx : Loc X.env.scope n := by first | exact Or.inl rfl | exact Or.inr rfl) (hs : swapsWith e (some (.Name n pos')) pos.line X.env = pure false := by rfl) (hf : X.fn n = true ∨ X.env.scope.names.lookup n = some .local := by first | exact .inl rfl | exact .inr rfl) :
    DS X E ρ (.Assign [.Name n pos'] e pos) Φ := PS.imp (ps_set hN hi hx he hs hf) fun D σ H ⟨F0, H0, F, M, f⟩ => ⟨F0, H0, F, M, fun F1 H1 g => f.rs C F1 H1 h g.ff (M.g.trans g)⟩
/-- a, b = e -/
theorem ds_asgP (i j : Nat) (he : DE X ρ e (.tuple [x, y])) (h : Φ (.nx ((ρ.set i (.d x)).set j (.d y)))) {p1 p2 p3 : Pos} {kk : Nat} (hc : X.calm = true) (hN : X.N.Nodup) (hi : X.N[i]? = some n := by rfl) (hj : X.N[j]? = some n' := by rfl) (hx : Loc X.env.scope n := by first | exact Or.inl rfl | exact Or.inr rfl) (hy : Loc X.env.scope n' := by first | exact Or.inl rfl | exact Or.inr rfl)
    (hs : swapsWithSole [.Tuple [.Name n p1, .Name n' p2] kk p3] e pos.line X.env = pure false := by rfl) (hw : swappedStores [.Tuple [.Name n p1, .Name n' p2] kk p3] e X.env = pure none := by rfl)
    (hf : X.fn n = true ∨ X.env.scope.names.lookup n = some .local := by first | exact .inl rfl | exact .inr rfl) (hf' : X.fn n' = true ∨ X.env.scope.names.lookup n' = some .local := by first | exact .inl rfl | exact .inr rfl) :
    DS X E ρ (.Assign [.Tuple [.Name n p1, .Name n' p2] kk p3] e pos) Φ :=
  PS.imp (ps_asg he (pg_tup hc (pgs_cons (pg_name hN hi hx hf) (pgs_cons (pg_name hN hj hy hf') pgs_nil))) hs hw) fun D σ H ⟨F0, H0, F, M, f⟩ => ⟨F0, H0, F, M, fun v F1 H1 g k => by
    obtain ⟨p, us, rfl, hp, ht⟩ := k.isT
    obtain ⟨u, r, rfl, h1, h2⟩ := ht.cases_cons
    obtain ⟨u', r', rfl, h3, h4⟩ := h2.cases_cons
    obtain rfl := h4.cases_nil
    exact ⟨p, _, rfl, .of (g.fh _ _ hp), rfl, u, [u'], rfl, u', [], rfl, rfl, f.nx _ _ F1 H1 h g.ff (((M.grow g).set i h1).set j h3)⟩⟩
/-- a, b = e1, e2 -/
theorem ds_par (i j : Nat) (he : DE X ρ a x) (he' : DE X ρ b y) (h : Φ (.nx ((ρ.set i (.d x)).set j (.d y)))) {p1 p2 p3 p4 : Pos} {kk k2 : Nat} (hc : X.calm = true) (hN : X.N.Nodup) (hi : X.N[i]? = some n := by rfl) (hj : X.N[j]? = some n' := by rfl) (hij : i ≠ j := by decide) (hx : X.env.scope.names.lookup n = some .local := by rfl) (hy : X.env.scope.names.lookup n' = some .local := by rfl)
    (hw : swappedStores [.Tuple [.Name n p1, .Name n' p2] kk p3] (.Tuple [a, b] k2 p4) X.env = pure (some [n, n']) := by rfl) (hs : swapsWithSole [.Tuple [.Name n p1, .Name n' p2] kk p3] (.Tuple [a, b] k2 p4) pos.line X.env = pure false := by rfl)
    (hs1 : starEach [a, b] X.env = (false, eval a X.env) :: starEach [b] X.env := by rfl) (hs2 : starEach [b] X.env = (false, eval b X.env) :: starEach [] X.env := by rfl) :
    DS X E ρ (.Assign [.Tuple [.Name n p1, .Name n' p2] kk p3] (.Tuple [a, b] k2 p4) pos) Φ :=
  PS.imp (ps_par hc hN hi hj hij hx hy (da_cons he (da_cons he' da_nil hs2) hs1) hw hs) fun D σ H ⟨F0, H0, F, M, f⟩ => ⟨F0, H0, F, M, fun vs F1 H1 g k => by
    obtain ⟨u, r, rfl, h1, h2⟩ := k.cases_cons
    obtain ⟨u', r', rfl, h3, h4⟩ := h2.cases_cons
    obtain rfl := h4.cases_nil
    exact ⟨u, u', rfl, f.nx _ _ F1 H1 h g.ff (((M.grow g).set i h1).set j h3)⟩⟩
/-! ### lists of one's own -/
theorem Met.setL {F0 H0 F H : Hp} {σ : L2.St} (M : Met F0 H0 F H σ ρ) (j : Nat) {p : Addr} {vs : List V} (hp : H p = none) (t : Dts F vs xs) : Met F0 H0 F (upd H p (.lst vs)) (σ.set j (some (.ref p))) (ρ.set j (.l xs)) := by
  have fp : F p = none := M.g.fh.back hp
  have h0 : H0 p = none := M.g.hh.back hp
  have M1 := M.grow (Grow.apart (o := .lst vs) M.g.fh hp)
  have old : ∀ (m : Nat) (s : Sl) (a : Addr), ρ[m]? = some s → s.own = true → σ[m]? = some (some (.ref a)) → a ≠ p := fun m s a h1 ho h2 e => by
    subst e
    have q := M.sl m _ s h2 h1
    cases s with
    | no => cases ho
    | d x => cases ho
    | l ys => obtain ⟨b, us, e1, hb, _⟩ := q; cases e1; rw [hp] at hb; cases hb
    | m kvs => obtain ⟨b, us, e1, hb, _⟩ := q; cases e1; rw [hp] at hb; cases hb
    | s K ns => cases ho
  refine ⟨M1.g, by simp [M.len], fun m o s h1 h2 => ?_, fun m q s t' a hmq h1 h2 o1 o2 q1 => ?_⟩
  · by_cases hij : j = m
    · subst hij
      rw [List.getElem?_set] at h1 h2
      simp only [if_true] at h1 h2
      split at h1
      · rename_i z
        rw [if_pos (by rw [← M.len]; exact z)] at h2
        cases h1; cases h2
        exact ⟨p, vs, rfl, upd_same, fp, h0, t⟩
      · cases h1
    · rw [List.getElem?_set_ne hij] at h1 h2
      exact M1.sl m o s h1 h2
  · by_cases hm : j = m
    · subst hm
      have hq : j ≠ q := hmq
      rw [List.getElem?_set_ne hq] at h2 ⊢
      rw [List.getElem?_set] at q1
      simp only [if_true] at q1
      split at q1
      · cases q1
        intro z
        exact old q t' p h2 o2 z rfl
      · cases q1
    · rw [List.getElem?_set_ne hm] at h1 q1
      by_cases hq : j = q
      · subst hq
        intro z
        rw [List.getElem?_set] at z
        simp only [if_true] at z
        split at z
        · cases z
          exact old m s p h1 o1 q1 rfl
        · cases z
      · rw [List.getElem?_set_ne hq] at h2 ⊢
        exact M.ne m q s t' a hmq h1 h2 o1 o2 q1
/-- x = [e, ..]: a list of its own -/
theorem ds_new (i : Nat) (he : DA X ρ es ds) (h : Φ (.nx (ρ.set i (.l ds)))) {pos' p2 : Pos} (hN : X.N.Nodup) (hl : ds.length ≤ 100000 := by exact Nat.le_of_ble_eq_true rfl) (hi : X.N[i]? = some n := by rfl) (hx : Loc X.env.scope n := by first | exact Or.inl rfl | exact Or.inr rfl) (hs : swapsWith (.List es p2) (some (.Name n pos')) pos.line X.env = pure false := by rfl) (hf : X.fn n = true ∨ X.env.scope.names.lookup n = some .local := by first | exact .inl rfl | exact .inr rfl) :
    DS X E ρ (.Assign [.Name n pos'] (.List es p2) pos) Φ := PS.imp (ps_set hN hi hx (pe_lst he) hs hf) fun D σ H ⟨F0, H0, F, M, f⟩ => ⟨F0, H0, F, M, fun vs F1 H1 g k => ⟨by rw [k.1]; exact Nat.le_trans hl (by decide), fun p hp => f.nx _ _ F1 _ h g.ff ((M.grow g).setL i hp k)⟩⟩
/-- the list in slot i is changed -/
theorem Met.putL {F0 H0 F H : Hp} {σ : L2.St} (M : Met F0 H0 F H σ ρ) {i : Nat} {p : Addr} {vs : List V} (hi : ρ[i]? = some (.l xs)) (hσ : σ[i]? = some (some (.ref p))) (t : Dts F vs ys) : Met F0 H0 F (upd H p (.lst vs)) σ (ρ.set i (.l ys)) := by
  obtain ⟨p', us, e, hp, fp, h0, _⟩ := M.getL hi
  rw [hσ] at e
  cases e
  refine ⟨⟨fun b o hb => ?_, M.g.ff, fun b o hb => ?_, M.g.old⟩, by simp [M.len], fun m o s h1 h2 => ?_, fun m q s t' a hmq h1 h2 o1 o2 q1 => ?_⟩
  · rw [upd_ne (ne_of_none hb h0)]; exact M.g.hh b o hb
  · rw [upd_ne (ne_of_none hb fp)]; exact M.g.fh b o hb
  · by_cases hij : i = m
    · subst hij
      rw [hσ] at h1
      cases h1
      rw [List.getElem?_set] at h2
      simp only [if_true] at h2
      split at h2
      · cases h2
        exact ⟨p, vs, rfl, upd_same, fp, h0, t⟩
      · cases h2
    · rw [List.getElem?_set_ne hij] at h2
      have q := M.sl m o s h1 h2
      cases s with
      | no => trivial
      | d x => exact q
      | l zs =>
        obtain ⟨b, ws, rfl, hb, r⟩ := q
        have ne : b ≠ p := fun z => by
          subst z
          exact M.ne i m (.l xs) (.l zs) b hij hi h2 rfl rfl hσ h1
        exact ⟨b, ws, rfl, by rw [upd_ne ne]; exact hb, r⟩
      | m kvs =>
        obtain ⟨b, ws, rfl, hb, r⟩ := q
        have ne : b ≠ p := fun z => by
          subst z
          exact M.ne i m (.l xs) (.m kvs) b hij hi h2 rfl rfl hσ h1
        exact ⟨b, ws, rfl, by rw [upd_ne ne]; exact hb, r⟩
      | s K ns => exact q
  · have back : ∀ {m : Nat} {s : Sl}, (ρ.set i (.l ys))[m]? = some s → s.own = true → ∃ s', ρ[m]? = some s' ∧ s'.own = true := fun {m s} hm ho => by
      by_cases hij : i = m
      · subst hij; exact ⟨_, hi, rfl⟩
      · rw [List.getElem?_set_ne hij] at hm
        exact ⟨s, hm, ho⟩
    obtain ⟨s', h1', o1'⟩ := back h1 o1
    obtain ⟨t'', h2', o2'⟩ := back h2 o2
    exact M.ne m q s' t'' a hmq h1' h2' o1' o2' q1
/-- xs.append(e), xs a list of its own in slot i -/
theorem ds_append (i : Nat) (he : DE X ρ e d) (h : Φ (.nx (ρ.set i (.l (xs ++ [d]))))) {p1 p2 p3 : Pos} (hl : xs.length ≤ 100000) (hi : ρ[i]? = some (.l xs) := by rfl) (hN : X.N[i]? = some n := by rfl) (hv : Vis X.env.scope n := by first | exact Or.inl rfl | exact Or.inr (Or.inl rfl) | exact Or.inr (Or.inr rfl))
    (hd : (n == ("__debug__" : Str)) = false := by decide) (hcd : (n == ("__classdict__" : Str)) = false := by decide)
    (hbase : attributeBase (.Name n p1) "append" X.env (eval (.Name n p1) X.env) = eval (.Name n p1) X.env := by rfl)
    (hfew : ((backTo p3 (starEach (e :: []) X.env)).all (fun x => !x.1) && (backToKw p3 (keywordEach [] X.env)).all (fun x => x.1.isSome) && decide ((e :: []).length + ([] : List Keyword).length + (if ([] : List Keyword).isEmpty then 0 else 1) < 30)) = true := by rfl)
    (hline : (p2.endLine == p3.line) = true := by rfl) (hs : starEach (e :: []) X.env = (false, eval e X.env) :: starEach [] X.env := by rfl) (hplain : (backTo p3 (starEach [] X.env)).any (·.1) = false := by rfl)
    (hsw : swapsWith (.Call (.Attribute (.Name n p1) "append" p2) [e] [] p3) none pos.line X.env = pure false := by rfl) :
    DS X E ρ (.Expr (.Call (.Attribute (.Name n p1) "append" p2) [e] [] p3) pos) Φ :=
  PS.imp (ps_expr (pe_bm PySem.F.plainAttrs_list PySem.F.slot_list_append PySem.F.type_list_append mt_append (pe_var hN hv hd hcd) (da_cons he da_nil hs) hbase hfew hline hs hplain) hsw) fun D σ H ⟨F0, H0, F, M, f⟩ => by
    obtain ⟨p, vs, e1, hp, fp, h0, t⟩ := M.getL hi
    refine ⟨_, e1, .inl ⟨rfl, vs, .of hp⟩, F0, H0, F, M, fun us F1 H1 g1 k1 => ?_⟩
    obtain ⟨u, r, rfl, h1, h2⟩ := k1.cases_cons
    obtain rfl := h2.cases_nil
    have hp1 := g1.hh _ _ hp
    exact ⟨p, vs, u, rfl, rfl, hp1, by rw [t.1]; exact Nat.lt_of_le_of_lt hl (by decide), f.nx _ _ F1 _ h g1.ff ((M.grow g1).putL hi e1 ((t.mono g1.ff).append (.cons h1 .nil)))⟩
/-- return xs, a list of its own -/
theorem Met.frz {F0 H0 F H : Hp} {σ : L2.St} (M : Met F0 H0 F H σ ρ) {i : Nat} (hi : ρ[i]? = some (.l xs)) : ∃ p F', σ[i]? = some (some (.ref p)) ∧ Ex F F' ∧ Grow F0 H0 F' H ∧ Dt F' (.ref p) (.list xs) := by
  obtain ⟨p, vs, e1, hp, fp, h0, t⟩ := M.getL hi
  refine ⟨p, upd F p (.lst vs), e1, .new fp, ⟨M.g.hh, M.g.ff.trans (.new fp), fun b o hb => ?_, fun b o hb => ?_⟩, .mkL upd_same (t.mono (.new fp))⟩
  · by_cases hbD : b = p
    · subst hbD; rw [upd_same] at hb; rw [hp]; exact hb
    · rw [upd_ne hbD] at hb; exact M.g.fh b o hb
  · rw [upd_ne (ne_of_none hb h0)]; exact M.g.old b o hb
theorem ds_retL (i : Nat) (h : Φ (.rt (.list xs))) {p1 : Pos} (hi : ρ[i]? = some (.l xs) := by rfl) (hN : X.N[i]? = some n := by rfl) (hv : Vis X.env.scope n := by first | exact Or.inl rfl | exact Or.inr (Or.inl rfl) | exact Or.inr (Or.inr rfl))
    (hd : (n == ("__debug__" : Str)) = false := by decide) (hcd : (n == ("__classdict__" : Str)) = false := by decide) : DS X E ρ (.Return (some (.Name n p1)) pos) Φ :=
  PS.imp (ps_ret (pe_var hN hv hd hcd)) fun D σ H ⟨F0, H0, F, M, f⟩ => by
    obtain ⟨p, F', e1, e2, g, k⟩ := M.frz hi
    exact ⟨_, e1, f.rt _ _ F' H h e2 g k⟩
/-- the list in slot i is data from now on -/
theorem Met.toData {F0 H0 F H : Hp} {σ : L2.St} (M : Met F0 H0 F H σ ρ) {i : Nat} (hi : ρ[i]? = some (.l xs)) : ∃ F', Ex F F' ∧ Met F0 H0 F' H σ (ρ.set i (.d (.list xs))) := by
  obtain ⟨p, vs, e1, hp, fp, h0, t⟩ := M.getL hi
  obtain ⟨p', F', e1', e2, g, k⟩ := M.frz hi
  refine ⟨upd F p (.lst vs), .new fp, ⟨⟨M.g.hh, M.g.ff.trans (.new fp), fun b o hb => ?_, fun b o hb => ?_⟩, by simp [M.len], fun m o s h1 h2 => ?_, fun m q s t' a hmq h1 h2 o1 o2 q1 => ?_⟩⟩
  · by_cases hbD : b = p
    · subst hbD; rw [upd_same] at hb; rw [hp]; exact hb
    · rw [upd_ne hbD] at hb; exact M.g.fh b o hb
  · rw [upd_ne (ne_of_none hb h0)]; exact M.g.old b o hb
  · by_cases hij : i = m
    · subst hij
      rw [e1] at h1
      cases h1
      rw [List.getElem?_set] at h2
      simp only [if_true] at h2
      split at h2
      · cases h2
        exact ⟨_, rfl, .mkL upd_same (t.mono (.new fp))⟩
      · cases h2
    · rw [List.getElem?_set_ne hij] at h2
      have q := M.sl m o s h1 h2
      cases s with
      | no => trivial
      | d x => obtain ⟨v, e, k⟩ := q; exact ⟨v, e, k.mono (.new fp)⟩
      | l zs =>
        obtain ⟨b, ws, rfl, hb, fb, r, tt⟩ := q
        have ne : b ≠ p := fun z => by
          subst z
          exact M.ne i m (.l xs) (.l zs) b hij hi h2 rfl rfl e1 h1
        exact ⟨b, ws, rfl, hb, by rw [upd_ne ne]; exact fb, r, tt.mono (.new fp)⟩
      | m kvs =>
        obtain ⟨b, ws, rfl, hb, fb, r, tt⟩ := q
        have ne : b ≠ p := fun z => by
          subst z
          exact M.ne i m (.l xs) (.m kvs) b hij hi h2 rfl rfl e1 h1
        exact ⟨b, ws, rfl, hb, by rw [upd_ne ne]; exact fb, r, tt.mono (.new fp)⟩
      | s K ns => obtain ⟨b, e, k⟩ := q; exact ⟨b, e, (Ex.new fp).sqL k⟩
  · have back : ∀ {m : Nat} {s : Sl}, (ρ.set i (.d (.list xs)))[m]? = some s → s.own = true → m ≠ i ∧ ρ[m]? = some s := fun {m s} hm ho => by
      by_cases hij : i = m
      · subst hij
        rw [List.getElem?_set] at hm
        simp only [if_true] at hm
        split at hm
        · cases hm; cases ho
        · cases hm
      · rw [List.getElem?_set_ne hij] at hm
        exact ⟨Ne.symm hij, hm⟩
    exact M.ne m q s t' a hmq (back h1 o1).2 (back h2 o2).2 o1 o2 q1
/-- from here on the list in slot i is data -/
theorem dss_data (i : Nat) (h : DSs X E (ρ.set i (.d (.list xs))) sts Φ) (hi : ρ[i]? = some (.l xs) := by rfl) : DSs X E ρ sts Φ := PSs.imp h fun D σ H ⟨F0, H0, F, M, f⟩ => by
  obtain ⟨F', e, M'⟩ := M.toData hi
  exact ⟨F0, H0, F', M', f.later e⟩
/-- a test that reads the list in slot i -/
theorem dt_frz (i : Nat) (h : DT X (ρ.set i (.d (.list xs))) e k) (hi : ρ[i]? = some (.l xs) := by rfl) : DT X ρ e k := PT.imp h fun σ H Q ⟨F0, H0, F, M, q⟩ => by
  obtain ⟨F', e, M'⟩ := M.toData hi
  obtain ⟨p, vs, e1, hp, fp, h0, t⟩ := M.getL hi
  refine ⟨F0, H0, F', M', fun F2 H2 g2 => q F H2 ⟨g2.hh, .refl F, ?_, fun _ _ _ => rfl⟩⟩
  exact M.g.fh.trans g2.hh
/-- a scalar that is reckoned from the list in slot i -/
def PyData.scalar : PyData → Bool
  | .none => true
  | .bool _ => true
  | .int _ => true
  | .str _ => true
  | _ => false
theorem Dt.scal {F F' : Hp} {v : V} (h : Dt F v x) (hs : PyData.scalar x = true) : Dt F' v x := by
  cases h with
  | non => exact .non
  | bl b => exact .bl b
  | int i => exact .int i
  | str x => exact .str x
  | lst _ _ _ => cases hs
  | tup _ _ _ => cases hs
theorem de_frz (i : Nat) (h : DE X (ρ.set i (.d (.list xs))) e x) (hs : PyData.scalar x = true := by rfl) (hi : ρ[i]? = some (.l xs) := by rfl) : DE X ρ e x := PE.imp h fun σ H Q ⟨F0, H0, F, M, q⟩ => by
  obtain ⟨F', e, M'⟩ := M.toData hi
  exact ⟨F0, H0, F', M', fun v F2 H2 g2 k2 => q v F H2 ⟨g2.hh, .refl F, M.g.fh.trans g2.hh, fun _ _ _ => rfl⟩ (k2.scal hs)⟩
/-! ### loops -/
def Turn (i : Nat) (W : Nat → List Sl → Prop) (Φ : Out → Prop) : Out → Prop
  | .nx ρ => W (i + 1) ρ
  | .ct ρ => W (i + 1) ρ
  | .bk ρ => Φ (.nx ρ)
  | .rt d => Φ (.rt d)
  | .rs C => Φ (.rs C)
theorem ds_for {g : TG} {vs : List Nat} {S : List Sl → PyData → Option (List Sl)} (hp : PassesOwn (model X.prog X.w) X.A X.env X.xe) (hc : X.calm = true) (hi : DI X tg ρ iter xs) (hg : PG X tg g) (T : TgOk g vs S)
    (W : Nat → List Sl → Prop) (h0 : W 0 ρ) (hs : ∀ (i : Nat) (x : PyData) (ρ1 : List Sl), xs[i]? = some x → W i ρ1 → ∃ ρ2, S ρ1 x = some ρ2 ∧ DSs X E ρ2 sts (Turn i W Φ)) (hd : ∀ ρ1, W xs.length ρ1 → Φ (.nx ρ1))
    (hfs : ∀ x, foldedSetIterable iter X.env x = pure x := by intro _; rfl) : DS X E ρ (.For tg iter sts [] pos) Φ := by
  refine PS.imp (ps_for (tb := fun D σ H => ∃ i ρ2, DSs X E ρ2 sts (Turn i W Φ) ∧ tDS E ρ2 (Turn i W Φ) D σ H) hp hc hi hg ⟨fun pins s σ H D I ⟨i, ρ', q, t⟩ => PSs.run q pins s σ H D I t⟩ hfs) ?_
  rintro D σ H ⟨F0, H0, F, M, f⟩
  refine ⟨F0, H0, F, M, fun J F1 H1 g1 wk => ⟨fun i m σ' H' => i + m = xs.length ∧ ∃ ρ' F', W i ρ' ∧ Ex F1 F' ∧ Met F0 H0 F' H' σ' ρ', ⟨xs.length, by omega, ρ, F1, h0, .refl _, M.grow g1⟩, ?_⟩⟩
  rintro i m σ1 H2 ⟨him, ρ1, F2, hW, e2, M2⟩
  have wi := wk i F2 H2 e2 M2.g.fh
  by_cases hlt : i < xs.length
  · right
    obtain ⟨x, hx⟩ : ∃ x, xs[i]? = some x := ⟨xs[i], List.getElem?_eq_getElem hlt⟩
    obtain ⟨w1, w2⟩ := wi.1 _ hx
    obtain ⟨ρ2, hS, hB⟩ := hs i x ρ1 hx hW
    refine ⟨w1, fun σ' H' => ∃ ρ' F', W (i + 1) ρ' ∧ Ex F1 F' ∧ Met F0 H0 F' H' σ' ρ', fun σ' H' z => ⟨m - 1, by omega, by omega, z⟩, fun v H3 hy => ?_⟩
    obtain ⟨F3, g3, k3⟩ := w2 v H3 hy
    refine T.run F0 H0 F3 H3 _ _ ρ2 v x _ (M2.grow g3) k3 hS fun σ' M3 _ => ⟨i, ρ2, hB, F0, H0, F3, M3, ?_⟩
    have e3 : Ex F1 F3 := e2.trans g3.ff
    exact ⟨fun ρ' σ' F' H' z e m => ⟨ρ', F', z, e3.trans e, m⟩, fun d v F' H' z e => f.rt d v F' H' z ((g1.ff.trans e3).trans e), fun ρ' σ' F' H' z e m => f.nx ρ' σ' F' H' z ((g1.ff.trans e3).trans e) m, fun ρ' σ' F' H' z e m => ⟨ρ', F', z, e3.trans e, m⟩, fun C F' H' z e => f.rs C F' H' z ((g1.ff.trans e3).trans e)⟩
  · left
    have hi' : xs.length = i := by omega
    exact ⟨wi.2 (by omega), f.nx ρ1 _ F2 H2 (hd ρ1 (hi' ▸ hW)) (g1.ff.trans e2) M2⟩
def WTurn (m : Nat) (W : Nat → List Sl → Prop) (Φ : Out → Prop) : Out → Prop
  | .nx ρ => ∃ m', m' < m ∧ W m' ρ
  | .ct ρ => ∃ m', m' < m ∧ W m' ρ
  | .bk ρ => Φ (.nx ρ)
  | .rt d => Φ (.rt d)
  | .rs C => Φ (.rs C)
theorem ds_while (hp : PassesOwn (model X.prog X.w) X.A X.env X.xe) (W : Nat → List Sl → Prop) (m0 : Nat) (h0 : W m0 ρ)
    (hs : ∀ (m : Nat) (ρ1 : List Sl), W m ρ1 → ∃ k, DT X ρ1 c k ∧ (k = true → DSs X E ρ1 sts (WTurn m W Φ)) ∧ (k = false → Φ (.nx ρ1))) : DS X E ρ (.While c sts [] pos) Φ := by
  refine PS.imp (ps_while (tc := fun σ H Q => ∃ ρ1 k, DT X ρ1 c k ∧ tDT ρ1 k σ H Q) (tb := fun D σ H => ∃ m ρ1, DSs X E ρ1 sts (WTurn m W Φ) ∧ tDS E ρ1 (WTurn m W Φ) D σ H) hp ⟨fun pins s σ H Q I ⟨ρ', k, q, t⟩ => PT.run q pins s σ H Q I t⟩ ⟨fun pins s σ H D I ⟨i, ρ', q, t⟩ => PSs.run q pins s σ H D I t⟩) ?_
  rintro D σ H ⟨F0, H0, F, M, f⟩
  refine ⟨fun m σ' H' => ∃ ρ' F', W m ρ' ∧ Ex F F' ∧ Met F0 H0 F' H' σ' ρ', ⟨m0, ρ, F, h0, .refl F, M⟩, ?_⟩
  rintro m σ1 H1 ⟨ρ1, F1, hW, e1, M1⟩
  obtain ⟨k, hc, ht, hf⟩ := hs m ρ1 hW
  refine ⟨ρ1, k, hc, F0, H0, F1, M1, fun F2 H2 g2 => ?_⟩
  cases k with
  | true =>
    refine ⟨fun σ' H' => ∃ m', m' < m ∧ ∃ ρ' F', W m' ρ' ∧ Ex F F' ∧ Met F0 H0 F' H' σ' ρ', fun σ' H' ⟨m', hm, z⟩ => ⟨m', hm, z⟩, m, ρ1, ht rfl, F0, H0, F2, M1.grow g2, ?_⟩
    have e2 : Ex F F2 := e1.trans g2.ff
    exact ⟨fun ρ' σ' F' H' ⟨m', hm, z⟩ e q => ⟨m', hm, ρ', F', z, e2.trans e, q⟩, fun d v F' H' z e => f.rt d v F' H' z (e2.trans e), fun ρ' σ' F' H' z e q => f.nx ρ' σ' F' H' z (e2.trans e) q, fun ρ' σ' F' H' ⟨m', hm, z⟩ e q => ⟨m', hm, ρ', F', z, e2.trans e, q⟩, fun C F' H' z e => f.rs C F' H' z (e2.trans e)⟩
  | false => exact f.nx ρ1 σ1 F2 H2 (hf rfl) (e1.trans g2.ff) (M1.grow g2)
end
/-! ### defs and calls -/
inductive Res where
  | ok (d : PyData)
  | rs (C : Addr)
def spD (P : List PyData → Res → Prop) : Sp := fun vs H Q E => ∃ F ds r, Ex F H ∧ Dts F vs ds ∧ P ds r ∧ match r with
  | .ok d => ∀ v F' H', Grow F H F' H' → Dt F' v d → Q v H'
  | .rs C => ∀ F' H', Grow F H F' H' → E (.ref C) none H'
def Ret (r : Res) : Out → Prop
  | .rt d => r = .ok d
  | .nx _ => r = .ok .none
  | .rs C => r = .rs C
  | _ => False
def startS (N : List Str) (ds : List PyData) : List Sl := ds.map .d ++ List.replicate (N.length - ds.length) .no
theorem met_start {N : List Str} {F H : Hp} {vs : List V} {ds : List PyData} (e : Ex F H) (t : Dts F vs ds) : Met F H F H (L2.start N vs) (startS N ds) := by
  unfold L2.start startS
  have hl := t.1
  refine ⟨.refl e, by simp [hl], fun i o s h1 h2 => ?_, fun i j s t' a _ h1 _ o1 _ _ => ?_⟩
  · by_cases hi : i < ds.length
    · rw [List.getElem?_append_left (by simpa [hl] using hi), List.getElem?_map] at h1
      rw [List.getElem?_append_left (by simpa using hi), List.getElem?_map] at h2
      obtain ⟨x, hx⟩ : ∃ x, ds[i]? = some x := ⟨ds[i], List.getElem?_eq_getElem hi⟩
      obtain ⟨v, hv, k⟩ := t.at hx
      rw [hv] at h1
      rw [hx] at h2
      cases h1; cases h2
      exact ⟨v, rfl, k⟩
    · rw [List.getElem?_append_right (by simpa using hi)] at h2
      have : s = .no := by
        rw [List.getElem?_replicate] at h2
        split at h2
        · exact (Option.some.inj h2).symm
        · cases h2
      subst this; trivial
  · exfalso
    by_cases hi : i < ds.length
    · rw [List.getElem?_append_left (by simpa using hi), List.getElem?_map] at h1
      cases q : ds[i]? with
      | none => rw [q] at h1; cases h1
      | some x => rw [q] at h1; cases h1; cases o1
    · rw [List.getElem?_append_right (by simpa using hi), List.getElem?_replicate] at h1
      split at h1
      · cases h1; cases o1
      · cases h1
section
variable {P : Program} {w : World} {K : PySem.W.Frag} {mg : Str → Option Value} {base : Heap}
/-- the context of a def's body -/
abbrev cxD (P : Program) (w : World) (K : PySem.W.Frag) (mg : Str → Option Value) (base : Heap) (N : List Str) (qual : Str) (scope : Scope) (f : Addr) (cdv : Value) (A : Around) (outer : List Env) (s : Shared) (H : Hp) (E : XK) : Cx :=
  cxOf (L2.CX P w) P w K mg base N qual scope f cdv A outer s H E
theorem fn_data {x qual : Str} {st : Stmt} {f : Addr} {fd : FuncData} {N ps : List Str} {k : Nat} {R : List PyData → Res → Prop} (F : Fun K x qual st f fd) (S : FnScope N ps (defScope st)) (hlen : ∀ ds r, R ds r → ds.length = ps.length)
    (body : ∀ (ds : List PyData) (r : Res), R ds r → ∀ (cdv : Value) (A : Around) (outer : List Env) (s : Shared) (H : Hp) (E : XK), Room k (A.deeper (envOfC qual (defScope st) s.heap.objs.size f cdv)) →
      DSs (cxD P w K mg base N qual (defScope st) f cdv A outer s H E) E (startS N ds) (defBody st) (Ret r)) : FnOk P w K mg base (L2.CX P w) (k + 1) f fd ps (spD R) := by
  refine F.okX S (fun vs H Q E h => ?_) (fun cdv A outer s H vs Q E hr h => ?_)
  · obtain ⟨F, ds, r, _, t, hR, _⟩ := h
    rw [t.1]; exact hlen ds r hR
  · obtain ⟨F, ds, r, ex, t, hR, q⟩ := h
    refine ⟨_, body ds r hR cdv A outer s H E hr, F, H, F, met_start ex t, ?_⟩
    refine ⟨fun ρ σ F' H' z e m => ?_, fun d v F' H' z e g k => ?_, fun _ _ _ _ z => z.elim, fun _ _ _ _ z => z.elim, fun C F' H' z e g => ?_⟩
    · obtain rfl : r = .ok .none := z
      exact q .non F' H' m.g .non
    · obtain rfl : r = .ok d := z
      exact q v F' H' g k
    · obtain rfl : r = .rs C := z
      exact q F' H' g
end
/-- a def as it is called: where it stands, what it keeps -/
structure Has (P : Program) (w : World) (K : PySem.W.Frag) (mg : Str → Option Value) (base : Heap) (k : Nat) (x : Str) (ps : List Str) (R : List PyData → Res → Prop) : Prop where
  ex : ∃ (f : Addr) (fd : FuncData), FnOk P w K mg base (L2.CX P w) k f fd ps (spD R) ∧ mg x = some (.ref f) ∧ PySem.W.keepIn K (.ref f) = true ∧ Binds K fd ps []
theorem Has.mono {P : Program} {w : World} {K : PySem.W.Frag} {mg : Str → Option Value} {base : Heap} {k k' : Nat} {x : Str} {ps : List Str} {R : List PyData → Res → Prop} (h : Has P w K mg base k x ps R) (l : k ≤ k') : Has P w K mg base k' x ps R := by
  obtain ⟨f, fd, a, b⟩ := h.ex
  exact ⟨f, fd, a.mono l, b⟩
section
variable {X : Cx} {E : XK} {ρ : List Sl} {e : Expr} {es : List Expr} {d : PyData} {pos p : Pos} {ds : List PyData} {x : Str} {ps : List Str} {R : List PyData → Res → Prop} {k : Nat}
theorem de_call (h : Has X.prog X.w X.K X.mg X.base k x ps R) (hr : Room k X.A) (ha : DA X ρ (e :: es) ds) (hR : R ds (.ok d)) (hg : Gl X x := by rfl) (hdb : (x == ("__debug__" : Str)) = false := by decide) (he : starEach (e :: es) X.env = (false, eval e X.env) :: starEach es X.env := by rfl) (hpl : (backTo pos (starEach es X.env)).any (·.1) = false := by rfl) :
    DE X ρ (.Call (.Name x p) (e :: es) [] pos) d := by
  obtain ⟨f, fd, F, hm, hk, hb⟩ := h.ex
  refine PE.imp (pe_call F hr hg hm hk hb .nil passL ha hdb he hpl) fun σ H Q ⟨F0, H0, F, M, q⟩ => ⟨F0, H0, F, M, fun vs F1 H1 g1 k1 => ?_⟩
  show spD R (vs ++ []) H1 Q E0
  rw [List.append_nil]
  exact ⟨F1, ds, .ok d, g1.fh, k1, hR, fun v F' H' g k => q v F' H' (g1.trans g) k⟩
theorem dr_call {C : Addr} (tk : Takes X (fun cls d _ H => E cls d H)) (h : Has X.prog X.w X.K X.mg X.base k x ps R) (hr : Room k X.A) (ha : DA X ρ (e :: es) ds) (hR : R ds (.rs C)) (hg : Gl X x := by rfl) (hdb : (x == ("__debug__" : Str)) = false := by decide) (he : starEach (e :: es) X.env = (false, eval e X.env) :: starEach es X.env := by rfl) (hpl : (backTo pos (starEach es X.env)).any (·.1) = false := by rfl) :
    DR X E ρ (.Call (.Name x p) (e :: es) [] pos) C := by
  obtain ⟨f, fd, F, hm, hk, hb⟩ := h.ex
  refine PE.imp (pe_call (E := E) F hr hg hm hk hb .nil (passes_call tk fun _ _ _ _ z => z) ha hdb he hpl) fun σ H Q ⟨F0, H0, F, M, q⟩ => ⟨F0, H0, F, M, fun vs F1 H1 g1 k1 => ?_⟩
  show spD R (vs ++ []) H1 Q E
  rw [List.append_nil]
  exact ⟨F1, ds, .rs C, g1.fh, k1, hR, fun F' H' g => q F' H' (g1.trans g)⟩
end
end DL

namespace DL
open PySem PySem.Spec PyProof.Rows L2
section
variable {X : Cx} {E : XK} {ρ : List Sl} {e a b c tg iter : Expr} {es : List Expr} {d x y z : PyData} {pos p p' : Pos} {i j : Int} {k k' : Bool} {ds xs ys : List PyData} {Φ Ψ : Out → Prop} {n : Str}
theorem one_arg (he : starEach (a :: []) X.env = (false, eval a X.env) :: starEach [] X.env := by rfl) : starEach (a :: []) X.env = (false, eval a X.env) :: starEach [] X.env := he
/-! ### isinstance with a built-in class -/
def isa (T : String) (d : PyData) : Bool :=
  if T = "int" then d.isInt else if T = "bool" then d.isBool else if T = "tuple" then d.isTuple else if T = "list" then d.isList else if T = "str" then d.isStr else false
def rIsa (T : String) : List V → Hp → VK → Prop := fun us H Q => ∃ u d, us = [u, .ty T] ∧ Dt H u d ∧ Q (.bl (isa T d)) H
theorem call_isa {T : String} (hT : T = "int" ∨ T = "bool" ∨ T = "tuple" ∨ T = "list" ∨ T = "str") : CallR X (.builtin "isinstance") (rIsa T) := by
  intro pins s σ H xs us Q I r h
  obtain ⟨u, d, rfl, hd, q⟩ := h
  cases r with
  | cons r1 rr =>
    cases rr with
    | cons r2 rr =>
      cases rr
      cases r2
      obtain ⟨as, rd⟩ := hd.reads I r1
      have fin : ∀ tk, EP X pins σ Q (.bool (isa T d)) { s with toks := tk } := fun tk => ⟨.bl _, H, I.tok tk, rfl, q⟩
      rcases hT with rfl | rfl | rfl | rfl | rfl
      · exact PySem.W.isinstance_int_data rd fun tk _ => fin tk
      · exact PySem.W.isinstance_bool_data rd fun tk _ => fin tk
      · exact PySem.W.isinstance_tuple_data rd fun tk _ => fin tk
      · exact PySem.W.isinstance_list_data rd fun tk _ => fin tk
      · exact PySem.W.isinstance_str_data rd fun tk _ => fin tk
theorem de_isa {T : String} {t : Str} (hT : T = "int" ∨ T = "bool" ∨ T = "tuple" ∨ T = "list" ∨ T = "str") (hm : X.mg "isinstance" = none) (hmt : X.mg t = none) (hb : bootBuiltins t = some (.type T)) (ha : DE X ρ a x) (hg : Gl X "isinstance" := by rfl) (hgt : Gl X t := by rfl) {p1 p2 : Pos}
    (hn : t ≠ "__name__" := by decide) (hdb : (t == ("__debug__" : Str)) = false := by decide)
    (he : starEach (a :: [.Name t p1]) X.env = (false, eval a X.env) :: starEach [.Name t p1] X.env := by rfl) (he2 : starEach [.Name t p1] X.env = (false, eval (.Name t p1) X.env) :: starEach [] X.env := by rfl) (hpl : (backTo pos (starEach [.Name t p1] X.env)).any (·.1) = false := by rfl) :
    DE X ρ (.Call (.Name "isinstance" p2) [a, .Name t p1] [] pos) (.bool (isa T x)) :=
  PE.imp (pe_callB (call_isa hT) hg hm boot_isinstance (pa_cons ha (pa_cons (pe_bltn (v := .ty T) hgt hmt hb rfl hn hdb) pa_nil he2) he) (by decide) (by decide) he hpl) fun σ H Q ⟨F0, H0, F, M, q⟩ => ⟨F0, H0, F, M, fun v F1 H1 g1 k1 => ⟨v, x, rfl, k1.mono g1.fh, q _ F1 H1 g1 (.bl _)⟩⟩
/-! ### conversions -/
theorem de_tuple (hm : X.mg "tuple" = none) (ha : DE X ρ a (.list xs)) (hg : Gl X "tuple" := by rfl) (he : starEach (a :: []) X.env = (false, eval a X.env) :: starEach [] X.env := by rfl) (hpl : (backTo pos (starEach [] X.env)).any (·.1) = false := by rfl) : DE X ρ (.Call (.Name "tuple" p) [a] [] pos) (.tuple xs) :=
  de_callTy call_tuple_of (fun F H us Q ee hu q => by
    obtain ⟨u, r, rfl, h1, h2⟩ := hu.cases_cons
    obtain rfl := h2.cases_nil
    obtain ⟨p, vs, rfl, hp, ht⟩ := h1.isL
    exact ⟨p, vs, rfl, .inl ⟨.of (ee _ _ hp), fun l hl => q _ _ _ (Grow.new ee hl) (.mkT upd_same (ht.mono (.new (ee.back hl))))⟩⟩) hg hm PyProof.Rows.boot_tuple (da_cons ha da_nil he) (by decide) (by decide) he hpl
theorem de_list (hm : X.mg "list" = none) (hx : IsSeq x xs) (ha : DE X ρ a x) (hg : Gl X "list" := by rfl) (he : starEach (a :: []) X.env = (false, eval a X.env) :: starEach [] X.env := by rfl) (hpl : (backTo pos (starEach [] X.env)).any (·.1) = false := by rfl) : DE X ρ (.Call (.Name "list" p) [a] [] pos) (.list xs) :=
  de_callTy call_list_of (fun F H us Q ee hu q => by
    obtain ⟨u, r, rfl, h1, h2⟩ := hu.cases_cons
    obtain rfl := h2.cases_nil
    rcases hx with rfl | rfl
    · obtain ⟨p, vs, rfl, hp, ht⟩ := h1.isL
      exact ⟨p, vs, rfl, .inl (.of (ee _ _ hp)), fun l hl => q _ _ _ (Grow.new ee hl) (.mkL upd_same (ht.mono (.new (ee.back hl))))⟩
    · obtain ⟨p, vs, rfl, hp, ht⟩ := h1.isT
      exact ⟨p, vs, rfl, .inr (.of (ee _ _ hp)), fun l hl => q _ _ _ (Grow.new ee hl) (.mkL upd_same (ht.mono (.new (ee.back hl))))⟩) hg hm PyProof.Rows.boot_list (da_cons ha da_nil he) (by decide) (by decide) he hpl
theorem de_intB (hm : X.mg "int" = none) (ha : DE X ρ a (.bool k)) (hg : Gl X "int" := by rfl) (he : starEach (a :: []) X.env = (false, eval a X.env) :: starEach [] X.env := by rfl) (hpl : (backTo pos (starEach [] X.env)).any (·.1) = false := by rfl) : DE X ρ (.Call (.Name "int" p) [a] [] pos) (.int (if k then 1 else 0)) :=
  de_callTy call_int1 (fun F H us Q ee hu q => by
    obtain ⟨u, r, rfl, h1, h2⟩ := hu.cases_cons
    obtain rfl := h2.cases_nil
    obtain rfl := h1.isB
    exact .inr ⟨k, rfl, q _ F H (.refl ee) (.int _)⟩) hg hm PyProof.Rows.boot_int (da_cons ha da_nil he) (by decide) (by decide) he hpl
theorem de_min2 (hc : X.calm = true) (hm : X.mg "min" = none) (ha : DE X ρ a (.int i)) (hb : DE X ρ b (.int j)) (hg : Gl X "min" := by rfl) (he : starEach (a :: [b]) X.env = (false, eval a X.env) :: starEach [b] X.env := by rfl) (he2 : starEach (b :: []) X.env = (false, eval b X.env) :: starEach [] X.env := by rfl) (hpl : (backTo pos (starEach [b] X.env)).any (·.1) = false := by rfl) : DE X ρ (.Call (.Name "min" p) [a, b] [] pos) (.int (if j < i then j else i)) :=
  de_callB (call_min2 hc) (fun F H us Q ee hu q => by
    obtain ⟨u, r, rfl, h1, h2⟩ := hu.cases_cons
    obtain ⟨u', r', rfl, h3, h4⟩ := h2.cases_cons
    obtain rfl := h4.cases_nil
    obtain rfl := h1.isI
    obtain rfl := h3.isI
    exact ⟨i, j, rfl, q _ F H (.refl ee) (.int _)⟩) hg hm PyProof.Rows.boot_min (da_cons ha (da_cons hb da_nil he2) he) (by decide) (by decide) he hpl
theorem de_max2 (hc : X.calm = true) (hm : X.mg "max" = none) (ha : DE X ρ a (.int i)) (hb : DE X ρ b (.int j)) (hg : Gl X "max" := by rfl) (he : starEach (a :: [b]) X.env = (false, eval a X.env) :: starEach [b] X.env := by rfl) (he2 : starEach (b :: []) X.env = (false, eval b X.env) :: starEach [] X.env := by rfl) (hpl : (backTo pos (starEach [b] X.env)).any (·.1) = false := by rfl) : DE X ρ (.Call (.Name "max" p) [a, b] [] pos) (.int (if j > i then j else i)) :=
  de_callB (call_max2 hc) (fun F H us Q ee hu q => by
    obtain ⟨u, r, rfl, h1, h2⟩ := hu.cases_cons
    obtain ⟨u', r', rfl, h3, h4⟩ := h2.cases_cons
    obtain rfl := h4.cases_nil
    obtain rfl := h1.isI
    obtain rfl := h3.isI
    exact ⟨i, j, rfl, q _ F H (.refl ee) (.int _)⟩) hg hm PyProof.Rows.boot_max (da_cons ha (da_cons hb da_nil he2) he) (by decide) (by decide) he hpl
/-! ### sorted -/
theorem each_of {pins : List (Addr × Obj)} {σ : L2.St} {G H : Hp} {s : Shared} (I : Inv X pins σ H s) (eG : Ex G H) : ∀ {vs : List V} {its : List Value} {ds : List PyData}, Vals vs its → Dts G vs ds →
    PySem.W.EachIs (fun v (q : V × PyData) => RelV q.1 v ∧ Dt G q.1 q.2) its (vs.zip ds) ∧ PySem.W.EachIs (fun v (q : V × PyData) => ∃ as, Reads s.heap v q.2 as) its (vs.zip ds)
  | [], _, [], .nil, _ => ⟨.nil, .nil⟩
  | _ :: _, _, [], _, h => by have := h.1; simp at this
  | [], _, _ :: _, _, h => by have := h.1; simp at this
  | _ :: _, _, _ :: _, .cons r rr, h => by
    obtain ⟨a1, a2⟩ := each_of I eG rr h.tail
    exact ⟨.cons ⟨r, h.head⟩ a1, .cons ((h.head.mono eG).reads I r) a2⟩
theorem of_each {H : Hp} : ∀ {out : List Value} {bs : List (V × PyData)}, PySem.W.EachIs (fun v (q : V × PyData) => RelV q.1 v ∧ Dt H q.1 q.2) out bs → Vals (bs.map Prod.fst) out ∧ Dts H (bs.map Prod.fst) (bs.map Prod.snd)
  | _, _, .nil => ⟨.nil, .nil⟩
  | _, _, .cons h t => ⟨.cons h.1 (of_each t).1, .cons h.2 (of_each t).2⟩
def leD (x y : PyData) : Bool := !PySem.W.dataLt y x
def sortD (ds : List PyData) : List PyData := ds.mergeSort leD
def rSortD : List V → Hp → VK → Prop := fun us H Q => ∃ G a vs ds, us = [V.ref a] ∧ Ex G H ∧ H a = some (.lst vs) ∧ Dts G vs ds ∧ PySem.W.AllAlike ds ∧ PySem.W.Sortable ds ∧ (∀ d ∈ ds, d.depth ≤ 60) ∧ ∀ l ws, H l = none → Dts G ws (sortD ds) → Q (.ref l) (upd H l (.lst ws))
theorem call_sortD (hu : X.A.units + 64 < cLine) : CallR X (.builtin "sorted") rSortD := by
  intro pins s σ H xs us Q I r h
  obtain ⟨G, a, vs, ds, rfl, eG, hp, ht, hal, hso, hdep, q⟩ := h
  obtain ⟨its, rv, hl, hz⟩ := I.list (SqL.of hp)
  rw [Vals.ref1 r]
  obtain ⟨e1, e2⟩ := each_of I eG rv ht
  have hm : (vs.zip ds).map Prod.snd = ds := by rw [List.map_snd_zip]; have := ht.1; omega
  have hm1 : (vs.zip ds).map (fun q : V × PyData => q.2) = ds := hm
  refine PySem.W.sorted_data (enc := fun q : V × PyData => q.2) hl.isList e1 e2 (by rw [hm1]; exact hal) (by rw [hm1]; exact hso) (by rw [List.length_zip]; omega) (fun b hb => ?_) fun out hlen ho => ?_
  · have : b.2 ∈ ds := by rw [← hm1]; exact List.mem_map_of_mem hb
    have := hdep _ this
    omega
  · obtain ⟨o1, o2⟩ := of_each ho
    have hs : ((vs.zip ds).mergeSort (PySem.W.dataLe false fun q : V × PyData => q.2)).map Prod.snd = sortD ds := by
      have t := PySem.W.sort_maps (r := PySem.W.dataLe false fun q : V × PyData => q.2) (s := leD) Prod.snd (l := vs.zip ds) (fun _ _ _ _ => rfl)
      rw [t, hm]
      rfl
    rw [hs] at o2
    obtain ⟨ep, he'⟩ := PyProof.Rows.sortedAll_at s.heap its out.toArray
    refine ⟨.ref _, upd H (s.heap.objs.size + 1) (.lst (((vs.zip ds).mergeSort (PySem.W.dataLe false fun q : V × PyData => q.2)).map Prod.fst)), I.laid (t' := s.toks) (fun _ _ => PyProof.Rows.sortedAll_old) (Nat.le_succ _) ⟨?_, out, ep, o1, he'⟩, rfl, q _ _ (I.hok.fresh (Nat.le_succ _)) o2⟩
    rw [List.length_map, List.length_mergeSort, List.length_zip]; omega
theorem de_sorted (hu : X.A.units + 64 < cLine) (hm : X.mg "sorted" = none) (ha : DE X ρ a (.list ds)) (hal : PySem.W.AllAlike ds) (hso : PySem.W.Sortable ds) (hdep : ∀ d ∈ ds, d.depth ≤ 60) (hg : Gl X "sorted" := by rfl) (he : starEach (a :: []) X.env = (false, eval a X.env) :: starEach [] X.env := by rfl) (hpl : (backTo pos (starEach [] X.env)).any (·.1) = false := by rfl) : DE X ρ (.Call (.Name "sorted" p) [a] [] pos) (.list (sortD ds)) :=
  de_callB (call_sortD hu) (fun F H us Q ee hu q => by
    obtain ⟨u, r, rfl, h1, h2⟩ := hu.cases_cons
    obtain rfl := h2.cases_nil
    obtain ⟨p, vs, rfl, hp, ht⟩ := h1.isL
    exact ⟨F, p, vs, ds, rfl, ee, ee _ _ hp, ht, hal, hso, hdep, fun l ws hl hw => q _ _ _ (Grow.new ee hl) (.mkL upd_same (hw.mono (.new (ee.back hl))))⟩) hg hm PyProof.Rows.boot_sorted (da_cons ha da_nil he) (by decide) (by decide) he hpl
/-! ### min(xs, default=None) -/
theorem vals_at {vs : List V} {its : List Value} (r : Vals vs its) {m : Nat} {u : Value} (h : its[m]? = some u) : ∃ v, vs[m]? = some v ∧ RelV v u := by
  have hl := r.length
  have hm : m < its.length := (List.getElem?_eq_some_iff.mp h).1
  have hv : vs[m]? = some vs[m] := List.getElem?_eq_getElem (by omega)
  obtain ⟨u', h1, h2⟩ := r.get hv
  rw [h] at h1
  cases h1
  exact ⟨_, hv, h2⟩
def minO : List PyData → PyData
  | [] => .none
  | x :: xs => PySem.W.minD x xs
def rMinO : List V → List V → Hp → VK → Prop := fun us zs H Q => ∃ G a vs ds, us = [V.ref a] ∧ zs = [V.non] ∧ Ex G H ∧ H a = some (.lst vs) ∧ Dts G vs ds ∧ PySem.W.AlikeAll ds ∧ PyData.depthAll ds ≤ 60 ∧ ∀ v, Dt G v (minO ds) → Q v H
theorem call_minO (hc : X.calm = true) (hu : X.A.units + 64 < cLine) : CallRK X (.builtin "min") ["default"] rMinO := by
  intro pins s σ H xs zs us ws Q I r rz h
  obtain ⟨G, a, vs, ds, rfl, rfl, eG, hp, ht, hal, hdep, q⟩ := h
  obtain ⟨its, rv, hl, hz⟩ := I.list (SqL.of hp)
  rw [Vals.ref1 r]
  cases rz with
  | cons r1 rr =>
    cases rr
    cases r1
    obtain ⟨as, hr⟩ := Dp.readsAll I ds vs its (ht.mono eG).dp rv
    show wpAny _ _ (call (.builtin "min") [.ref a] [(Str.ofString "default", .none)]) _ _ _
    refine PySem.W.min_list_default (vs := its.toArray) (I.ok.hd hc) hl.isList hr hal (by omega) (fun h0 h' tk hk => ?_) (fun y ys m v h' tk bs e hv hrd hk => ?_)
    · subst h0
      exact ⟨.non, H, I.kept (t' := tk) hk, rfl, q _ .non⟩
    · obtain ⟨w, hw, rw'⟩ := vals_at rv (by simpa using hv)
      obtain ⟨dd, hd1, hd2⟩ := ht.at' hw
      have I' : Inv X pins σ H { s with heap := h', toks := tk } := I.kept (t' := tk) hk
      obtain ⟨as', hr'⟩ := (hd2.mono eG).reads I' rw'
      have e2 := PySem.SeqAt.plain_unique _ _ _ _ _ hd2.plain hr' hrd
      subst e
      rw [e2] at hd2
      exact ⟨w, H, I', rw', q _ hd2⟩
theorem de_minO (hc : X.calm = true) (hu : X.A.units + 64 < cLine) (hm : X.mg "min" = none) (ha : DE X ρ a (.list ds)) (hal : PySem.W.AlikeAll ds) (hdep : PyData.depthAll ds ≤ 60) {jj : Nat} {p2 p3 : Pos} (hg : Gl X "min" := by rfl)
    (he : backTo pos (starEach (a :: []) X.env) = (false, eval a X.env) :: backTo pos (starEach [] X.env) := by rfl) (hpl : (backTo pos (starEach (a :: []) X.env)).any (·.1) = false := by rfl)
    (hall : (backToKw pos (keywordEach [⟨some "default", .Constant .none jj p2, p3⟩] X.env)).all (·.1.isSome) = true := by rfl) (hnone : (backToKw pos (keywordEach [⟨some "default", .Constant .none jj p2, p3⟩] X.env)).any (·.1.isNone) = false := by rfl) (hks : (backToKw pos (keywordEach [⟨some "default", .Constant .none jj p2, p3⟩] X.env)).filterMap (·.1) = [Str.ofString "default"] := by rfl)
    (he1 : starEach (a :: []) X.env = (false, eval a X.env) :: starEach [] X.env := by rfl) :
    DE X ρ (.Call (.Name "min" p) [a] [⟨some "default", .Constant .none jj p2, p3⟩] pos) (minO ds) :=
  PE.imp (pe_callBK (call_minO hc hu) hg hm PyProof.Rows.boot_min (da_cons ha da_nil he1) (pk_cons pe_non pk_nil) (by decide) (by decide) he hpl hall hnone hks) fun σ H Q ⟨F0, H0, F, M, q⟩ => ⟨F0, H0, F, M, fun vs F1 H1 g1 k1 => by
    obtain ⟨u, r, rfl, h1, h2⟩ := k1.cases_cons
    obtain rfl := h2.cases_nil
    obtain ⟨p, vs, rfl, hp, ht⟩ := h1.isL
    exact ⟨F1, p, vs, ds, rfl, rfl, g1.fh, g1.fh _ _ hp, ht, hal, hdep, fun v hv => q v F1 H1 g1 hv⟩⟩
/-! ### zip -/
def zipD (xs ys : List PyData) : List PyData := List.zipWith (fun x y => .tuple [x, y]) xs ys
theorem zipD_at {m : Nat} {d : PyData} (h : (zipD xs ys)[m]? = some d) : ∃ x y, xs[m]? = some x ∧ ys[m]? = some y ∧ d = .tuple [x, y] := by
  unfold zipD at h
  rw [List.getElem?_zipWith] at h
  cases hx : xs[m]? with
  | none => rw [hx] at h; cases h
  | some x => cases hy : ys[m]? with
    | none => rw [hx, hy] at h; cases h
    | some y => rw [hx, hy] at h; exact ⟨x, y, rfl, rfl, (Option.some.inj h).symm⟩
theorem walks_zip {K : PySem.W.Frag} {F : Hp} {q1 q2 : Addr} {us ws : List V} (h1 : F q1 = some (.lst us)) (t1 : Dts F us xs) (h2 : F q2 = some (.lst ws)) (t2 : Dts F ws ys) : Walks (Itz K q1 q2) F (zipD xs ys) := fun i F2 H2 e2 hh => ⟨fun d hd => by
  obtain ⟨x, y, hx, hy, rfl⟩ := zipD_at hd
  obtain ⟨u, hu, ku⟩ := t1.at hx
  obtain ⟨w, hw, kw⟩ := t2.at hy
  have s1 : SqL K H2 q1 us := .of (hh _ _ (e2 _ _ h1))
  have s2 : SqL K H2 q2 ws := .of (hh _ _ (e2 _ _ h2))
  refine ⟨⟨us, ws, u, w, s1, s2, hu, hw⟩, fun v H3 hy => ?_⟩
  obtain ⟨T, x', y', rfl, hT, rfl, f1, f2⟩ := hy
  have ex := f1 _ s1
  rw [hu] at ex
  cases ex
  have ey := f2 _ s2
  rw [hw] at ey
  cases ey
  exact ⟨_, Grow.new hh hT, .mkT upd_same (.cons (ku.mono (e2.trans (.new (hh.back hT)))) (.cons (kw.mono (e2.trans (.new (hh.back hT)))) .nil))⟩, fun hl => ⟨us, ws, .of (hh _ _ (e2 _ _ h1)), .of (hh _ _ (e2 _ _ h2)), by
    rw [t1.1, t2.1]
    unfold zipD at hl
    rw [List.length_zipWith] at hl
    omega⟩⟩
theorem walks_zipT {K : PySem.W.Frag} {F : Hp} {q1 q2 : Addr} {us ws : List V} (h1 : F q1 = some (.tup us)) (t1 : Dts F us xs) (h2 : F q2 = some (.tup ws)) (t2 : Dts F ws ys) : Walks (RZ.ItzT K q1 q2) F (zipD xs ys) := fun i F2 H2 e2 hh => ⟨fun d hd => by
  obtain ⟨x, y, hx, hy, rfl⟩ := zipD_at hd
  obtain ⟨u, hu, ku⟩ := t1.at hx
  obtain ⟨w, hw, kw⟩ := t2.at hy
  have s1 : SqT K H2 q1 us := .of (hh _ _ (e2 _ _ h1))
  have s2 : SqT K H2 q2 ws := .of (hh _ _ (e2 _ _ h2))
  refine ⟨⟨us, ws, u, w, s1, s2, hu, hw⟩, fun v H3 hy => ?_⟩
  obtain ⟨T, x', y', rfl, hT, rfl, f1, f2⟩ := hy
  have ex := f1 _ s1
  rw [hu] at ex
  cases ex
  have ey := f2 _ s2
  rw [hw] at ey
  cases ey
  exact ⟨_, Grow.new hh hT, .mkT upd_same (.cons (ku.mono (e2.trans (.new (hh.back hT)))) (.cons (kw.mono (e2.trans (.new (hh.back hT)))) .nil))⟩, fun hl => ⟨us, ws, .of (hh _ _ (e2 _ _ h1)), .of (hh _ _ (e2 _ _ h2)), by
    rw [t1.1, t2.1]
    unfold zipD at hl
    rw [List.length_zipWith] at hl
    omega⟩⟩
theorem di_zipT {elts : List Expr} {kk : Nat} {tpos : Pos} (hm : X.mg "zip" = none) (ha : DE X ρ a (.tuple xs)) (hb : DE X ρ b (.tuple ys)) (hg : Gl X "zip" := by rfl) (hs : starEach [a, b] X.env = (false, eval a X.env) :: starEach [b] X.env := by rfl) (hs2 : starEach [b] X.env = (false, eval b X.env) :: starEach [] X.env := by rfl) (hpl : (backTo pos (starEach [b] X.env)).any (·.1) = false := by rfl) :
    DI X (.Tuple elts kk tpos) ρ (.Call (.Name "zip" p) [a, b] [] pos) (zipD xs ys) := PI.imp (RZ.pi_zipA hg hm (da_cons ha (da_cons hb da_nil hs2) hs) hs hpl) fun σ H R ⟨F0, H0, F, M, q⟩ => ⟨F0, H0, F, M, fun vs F1 H1 g1 k1 => by
    obtain ⟨u, r, rfl, h1, h2⟩ := k1.cases_cons
    obtain ⟨u', r', rfl, h3, h4⟩ := h2.cases_cons
    obtain rfl := h4.cases_nil
    obtain ⟨q1, us, rfl, hp1, t1⟩ := h1.isT
    obtain ⟨q2, ws, rfl, hp2, t2⟩ := h3.isT
    exact ⟨q1, q2, us, ws, rfl, .inr ⟨.of (g1.fh _ _ hp1), .of (g1.fh _ _ hp2), q _ F1 H1 g1 (walks_zipT hp1 t1 hp2 t2)⟩⟩⟩
theorem di_zipL {elts : List Expr} {kk : Nat} {tpos : Pos} (hm : X.mg "zip" = none) (ha : DE X ρ a (.list xs)) (hb : DE X ρ b (.list ys)) (hg : Gl X "zip" := by rfl) (hs : starEach [a, b] X.env = (false, eval a X.env) :: starEach [b] X.env := by rfl) (hs2 : starEach [b] X.env = (false, eval b X.env) :: starEach [] X.env := by rfl) (hpl : (backTo pos (starEach [b] X.env)).any (·.1) = false := by rfl) :
    DI X (.Tuple elts kk tpos) ρ (.Call (.Name "zip" p) [a, b] [] pos) (zipD xs ys) := PI.imp (RZ.pi_zipA hg hm (da_cons ha (da_cons hb da_nil hs2) hs) hs hpl) fun σ H R ⟨F0, H0, F, M, q⟩ => ⟨F0, H0, F, M, fun vs F1 H1 g1 k1 => by
    obtain ⟨u, r, rfl, h1, h2⟩ := k1.cases_cons
    obtain ⟨u', r', rfl, h3, h4⟩ := h2.cases_cons
    obtain rfl := h4.cases_nil
    obtain ⟨q1, us, rfl, hp1, t1⟩ := h1.isL
    obtain ⟨q2, ws, rfl, hp2, t2⟩ := h3.isL
    exact ⟨q1, q2, us, ws, rfl, .inl ⟨.of (g1.fh _ _ hp1), .of (g1.fh _ _ hp2), q _ F1 H1 g1 (walks_zip hp1 t1 hp2 t2)⟩⟩⟩
/-! ### y = [..] -/
theorem ds_asgLc {α : Type} (as : List α) (enc : α → PyData) (q : α → Bool) (f : α → PyData) (m : Nat) {elt tg iter : Expr} {ifs : List Expr} {scope : Scope} (own : List (Str × Nat)) {g : TG} {S : List Sl → PyData → Option (List Sl)} {py spos : Pos}
    (hc : X.calm = true) (hN : X.N.Nodup) (ok : BlkOk X.N X.env.scope scope own) (T : TgOk g (own.map (·.2)) S)
    (hg : ∀ (s : Shared) (H : Hp) (C : Addr) (cl : List (Str × Addr)) (fp : List Addr), PG (X.blk s H scope (compEnvC scope cl C X.env) fp) tg g)
    (hi : DI X tg ρ iter (as.map enc)) (hl : as.length ≤ 100000)
    (hb : ∀ (i : Nat) (x : α), as[i]? = some x → ∃ ρ', S (wipeS ρ (own.map (·.2))) (enc x) = some ρ' ∧
      (∀ (s : Shared) (H : Hp) (C : Addr) (cl : List (Str × Addr)) (fp : List Addr), DTs (X.blk s H scope (compEnvC scope cl C X.env) fp) ρ' ifs (q x)) ∧
      (q x = true → ∀ (s : Shared) (H : Hp) (C : Addr) (cl : List (Str × Addr)) (fp : List Addr), DE (X.blk s H scope (compEnvC scope cl C X.env) fp) ρ' elt (f x)))
    (hΦ : Φ (.nx (ρ.set m (.d (.list ((as.filter q).map f)))))) (hy : X.N[m]? = some n := by rfl) (hyl : X.env.scope.names.lookup n = some .local := by rfl)
    (hsw : swapsWith (.ListComp elt [⟨tg, iter, ifs, 0⟩] scope pos) (some (.Name n py)) spos.line X.env = pure true := by exact sw_true rfl rfl rfl (by decide +kernel))
    (hs : ∀ x, foldedSetIterable iter X.env x = pure x := by intro _; rfl) :
    DS X E ρ (.Assign [.Name n py] (.ListComp elt [⟨tg, iter, ifs, 0⟩] scope pos) spos) Φ := by
  refine PS.imp (ps_setLc (own := own) (g := g) (tt := uT X scope ifs) (te := uE X scope elt) hc hN hy hyl hsw hi ok hg
    (fun s H C cl fp => ⟨fun pins s1 σ H1 Q I ⟨ρ', b, h, t⟩ => PTs.run (h s H C cl fp) pins s1 σ H1 Q I t⟩) (fun s H C cl fp => ⟨fun pins s1 σ H1 Q I ⟨ρ', b, h, t⟩ => PE.run (h s H C cl fp) pins s1 σ H1 Q I t⟩) hs) ?_
  rintro D σ H ⟨F0, H0, F, M, fin⟩
  refine ⟨F0, H0, F, M, fun J F1 H1 g1 wk => ?_⟩
  refine lc_turns (p := q) (f := f) (tt := uT X scope ifs) (te := uE X scope elt) T hl (M.grow g1) wk (fun i x hx => ?_) (fun v F' H' g' k' => fin.nx _ _ F' H' hΦ (g1.ff.trans g'.ff) (((M.grow g1).grow g').set m k'))
  obtain ⟨ρ', hS, h1, h2⟩ := hb i x hx
  exact ⟨ρ', hS, fun σ H Q t => ⟨ρ', _, h1, t⟩, fun hp σ H Q t => ⟨ρ', _, h2 hp, t⟩⟩
/-! ### a module's constant; raise -/
theorem de_glob {u : Value} (hm : X.mg n = some u) (hr : ∃ v, RelV v u ∧ ∀ F, Dt F v x) (hg : Gl X n := by rfl) (hd : (n == ("__debug__" : Str)) = false := by decide) : DE X ρ (.Name n pos) x := by
  obtain ⟨v, r, hv⟩ := hr
  exact PE.imp (pe_glob hg hm r hd) fun σ H Q ⟨F0, H0, F, M, q⟩ => q v F H (.refl M.g.fh) (hv F)
theorem ds_raise {C : Addr} (hc : X.calm = true) (tk : Takes X (fun cls d _ H => E cls d H)) (he : PMk X e (fun _ H Q => Q (.ref C) none H)) (h : Φ (.rs C)) : DS X E ρ (.Raise (some e) none pos) Φ :=
  PS.imp (ps_raise hc tk he) fun D σ H ⟨F0, H0, F, M, f⟩ => f.rs C F H h (.refl F) M.g
end
end DL

namespace DL
open PySem PySem.Spec PyProof.Rows L2
section
variable {X : Cx} {E : XK} {ρ : List Sl} {e a b c tg iter : Expr} {es : List Expr} {d x y z : PyData} {pos p p' : Pos} {i j : Int} {k k' : Bool} {ds xs ys : List PyData} {Φ Ψ : Out → Prop} {n : Str}
/-- xs.extend(e), xs a list of its own in slot m -/
theorem ds_extend (m : Nat) (he : DE X ρ e (.list ys)) (h : Φ (.nx (ρ.set m (.l (xs ++ ys))))) {p1 p2 p3 : Pos} (hl : xs.length + ys.length ≤ 100000) (hi : ρ[m]? = some (.l xs) := by rfl) (hN : X.N[m]? = some n := by rfl) (hv : Vis X.env.scope n := by first | exact Or.inl rfl | exact Or.inr (Or.inl rfl) | exact Or.inr (Or.inr rfl))
    (hd : (n == ("__debug__" : Str)) = false := by decide) (hcd : (n == ("__classdict__" : Str)) = false := by decide)
    (hbase : attributeBase (.Name n p1) "extend" X.env (eval (.Name n p1) X.env) = eval (.Name n p1) X.env := by rfl)
    (hfew : ((backTo p3 (starEach (e :: []) X.env)).all (fun x => !x.1) && (backToKw p3 (keywordEach [] X.env)).all (fun x => x.1.isSome) && decide ((e :: []).length + ([] : List Keyword).length + (if ([] : List Keyword).isEmpty then 0 else 1) < 30)) = true := by rfl)
    (hline : (p2.endLine == p3.line) = true := by rfl) (hs : starEach (e :: []) X.env = (false, eval e X.env) :: starEach [] X.env := by rfl) (hplain : (backTo p3 (starEach [] X.env)).any (·.1) = false := by rfl)
    (hsw : swapsWith (.Call (.Attribute (.Name n p1) "extend" p2) [e] [] p3) none pos.line X.env = pure false := by rfl) :
    DS X E ρ (.Expr (.Call (.Attribute (.Name n p1) "extend" p2) [e] [] p3) pos) Φ :=
  PS.imp (ps_expr (pe_bm PySem.F.plainAttrs_list PySem.F.slot_list_extend PySem.F.type_list_extend mt_extend (pe_var hN hv hd hcd) (da_cons he da_nil hs) hbase hfew hline hs hplain) hsw) fun D σ H ⟨F0, H0, F, M, f⟩ => by
    obtain ⟨q, vs, e1, hp, fp, h0, t⟩ := M.getL hi
    refine ⟨_, e1, .inl ⟨rfl, vs, .of hp⟩, F0, H0, F, M, fun us F1 H1 g1 k1 => ?_⟩
    obtain ⟨u, r, rfl, h1, h2⟩ := k1.cases_cons
    obtain rfl := h2.cases_nil
    obtain ⟨q2, ws, rfl, hp2, t2⟩ := h1.isL
    have hp1 := g1.hh _ _ hp
    exact ⟨q, q2, vs, ws, rfl, rfl, hp1, g1.fh _ _ hp2, by rw [t.1, t2.1]; exact Nat.le_trans hl (by decide), f.nx _ _ F1 _ h g1.ff ((M.grow g1).putL hi e1 ((t.mono g1.ff).append t2))⟩
theorem de_repL (ha : DE X ρ a (.list xs)) (hb : DE X ρ b (.int i)) (hi : i ≤ 1000) (hi0 : -1000 ≤ i) (hl : xs.length ≤ 1000) : DE X ρ (.BinOp a .Mult b pos) (.list (List.replicate i.toNat xs).flatten) := de_op op_rep (fun F H u v Q e hu hv q => by
  obtain ⟨p, us, rfl, hp, ht⟩ := hu.isL
  obtain rfl := hv.isI
  have hrep : ∀ m : Nat, Dts F (List.replicate m us).flatten (List.replicate m xs).flatten := by
    intro m
    induction m with
    | zero => exact .nil
    | succ m ih => rw [List.replicate_succ, List.replicate_succ, List.flatten_cons, List.flatten_cons]; exact ht.append ih
  refine ⟨p, i, us, rfl, rfl, e _ _ hp, by omega, by omega, ?_, fun n hn => q _ _ _ (Grow.new e hn) (.mkL upd_same ((hrep _).mono (.new (e.back hn))))⟩
  rw [ht.1]
  have h1 : i.toNat ≤ 1000 := by omega
  exact Nat.le_trans (Nat.mul_le_mul hl h1) (by decide)) ha hb
theorem de_pow (ha : DE X ρ a (.int i)) (hb : DE X ρ b (.int j)) (hc : 0 ≤ j ∧ j ≤ 1000000 ∧ i.natAbs < 2 ^ 64) : DE X ρ (.BinOp a .Pow b pos) (.int (i ^ j.toNat)) := de_op op_pow (bd_I hc fun _ => .int _) ha hb
/-- xs.index(e): the first place -/
theorem de_index {m : Nat} (hu : X.A.units + 65 < cLine) (ha : DE X ρ a (.list ds)) (hb : DE X ρ b x) (hds : SeqAt.shaped (.list ds) = true) (hx : SeqAt.shaped x = true) (hm : ds[m]? = some y) (he : PyData.eqv y x = true) (hno : ∀ (q : Nat) (z : PyData), q < m → ds[q]? = some z → PyData.eqv z x = false) {p2 p3 : Pos}
    (hbase : attributeBase a "index" X.env (eval a X.env) = eval a X.env := by rfl)
    (hfew : ((backTo p3 (starEach (b :: []) X.env)).all (fun x => !x.1) && (backToKw p3 (keywordEach [] X.env)).all (fun x => x.1.isSome) && decide ((b :: []).length + ([] : List Keyword).length + (if ([] : List Keyword).isEmpty then 0 else 1) < 30)) = true := by rfl)
    (hline : (p2.endLine == p3.line) = true := by rfl) (hs : starEach (b :: []) X.env = (false, eval b X.env) :: starEach [] X.env := by rfl) (hplain : (backTo p3 (starEach [] X.env)).any (·.1) = false := by rfl) :
    DE X ρ (.Call (.Attribute a "index" p2) [b] [] p3) (.int (m : Nat)) :=
  PE.imp (pe_bm PySem.F.plainAttrs_list PySem.F.slot_list_index PySem.F.type_list_index (mt_indexD hu) ha (da_cons hb da_nil hs) hbase hfew hline hs hplain) fun σ H Q ⟨F0, H0, F, M, q⟩ => ⟨F0, H0, F, M, fun v F1 H1 g1 k1 => by
    obtain ⟨q1, vs, rfl, hp, ht⟩ := k1.isL
    refine ⟨.inl ⟨rfl, vs, .of (g1.fh _ _ hp)⟩, F0, H0, F1, M.grow g1, fun us F2 H2 g2 k2 => ?_⟩
    obtain ⟨u, r, rfl, h1, h2⟩ := k2.cases_cons
    obtain rfl := h2.cases_nil
    exact ⟨q1, u, x, ds, m, y, rfl, rfl, ((k1.mono g2.ff).mono g2.fh).dp, (h1.mono g2.fh).dp, hds, hx, hm, he, hno, q _ F2 H2 (g1.trans g2) (.int _)⟩⟩
/-- not e, e of any kind -/
theorem de_notT (ha : DE X ρ a x) (hf : x.fits63) : DE X ρ (.UnaryOp .Not a pos) (.bool (!x.truthy)) := by
  refine ⟨fun pins s σ H Q I h => ?_⟩
  obtain ⟨F0, H0, F, M, q⟩ := h
  refine UnaryOp_ (thn (PE.run ha pins s σ H (fun v H1 => ∃ F1, Grow F H F1 H1 ∧ Dt F1 v x) I ⟨F0, H0, F, M, fun v F1 H1 g k => ⟨F1, g, k⟩⟩) fun v s1 ⟨u, H1, I1, r1, F1, g, k⟩ => ?_)
  obtain ⟨as, r⟩ := (k.mono g.fh).reads I1 r1
  exact not_of (PySem.W.truthy_data r k.plain hf fun tk _ => ⟨.bl _, H1, I1.tok _, rfl, q _ F1 H1 g (.bl _)⟩)
/-! ### comparisons of alike data -/
def rGeP : R2 := fun x y H Q => ∃ d e, Dt H x d ∧ Dt H y e ∧ PySem.W.alike d e = true ∧ d ≠ .none ∧ min d.depth e.depth ≤ 60 ∧ Q (.bl (!PySem.W.dataLt d e)) H
theorem op_geP (hu : X.A.units + 64 < cLine) : OpR X (compareOp .GtE) rGeP := by
  intro pins s σ H x y v u Q I rx ry h
  obtain ⟨d, e, hd, he, hal, hn, hm, q⟩ := h
  obtain ⟨as, r1⟩ := hd.reads I rx
  obtain ⟨bs, r2⟩ := he.reads I ry
  exact PySem.W.ge_data r1 r2 hal hn (by omega) ⟨.bl _, H, I, rfl, q⟩
theorem dt_geD (hu : X.A.units + 64 < cLine) (ha : DE X ρ a x) (hb : DE X ρ b y) (hal : PySem.W.alike x y = true) (hn : x ≠ .none) (h : min x.depth y.depth ≤ 60) : DT X ρ (.Compare a [.GtE] [b] pos) (!PySem.W.dataLt x y) := dt_cmp (op_geP hu) (fun F H u v Q e hu hv q => ⟨x, y, hu.mono e, hv.mono e, hal, hn, h, q _ F H (.refl e) (.bl _)⟩) ha hb (nomark _)
def rGtP : R2 := fun x y H Q => ∃ d e, Dt H x d ∧ Dt H y e ∧ PySem.W.alike d e = true ∧ d ≠ .none ∧ min d.depth e.depth ≤ 60 ∧ Q (.bl (PySem.W.dataLt e d)) H
theorem op_gtP (hu : X.A.units + 64 < cLine) : OpR X (compareOp .Gt) rGtP := by
  intro pins s σ H x y v u Q I rx ry h
  obtain ⟨d, e, hd, he, hal, hn, hm, q⟩ := h
  obtain ⟨as, r1⟩ := hd.reads I rx
  obtain ⟨bs, r2⟩ := he.reads I ry
  exact PySem.W.gt_data r1 r2 hal hn (by omega) ⟨.bl _, H, I, rfl, q⟩
theorem dt_gtD (hu : X.A.units + 64 < cLine) (ha : DE X ρ a x) (hb : DE X ρ b y) (hal : PySem.W.alike x y = true) (hn : x ≠ .none) (h : min x.depth y.depth ≤ 60) : DT X ρ (.Compare a [.Gt] [b] pos) (PySem.W.dataLt y x) := dt_cmp (op_gtP hu) (fun F H u v Q e hu hv q => ⟨x, y, hu.mono e, hv.mono e, hal, hn, h, q _ F H (.refl e) (.bl _)⟩) ha hb (nomark _)
end
theorem rangeD_at {lo : Int} {n i : Nat} {x : PyData} (h : (rangeD lo n)[i]? = some x) : i < n ∧ x = .int (lo + (i : Int)) := by
  unfold rangeD at h
  rw [List.getElem?_map] at h
  obtain ⟨t, ht, rfl⟩ := Option.map_eq_some_iff.mp h
  have hi : i < n := by
    have := (List.getElem?_eq_some_iff.mp ht).1
    simpa using this
  rw [List.getElem?_range hi] at ht
  cases ht
  exact ⟨hi, rfl⟩
theorem rangeD_len (lo : Int) (n : Nat) : (rangeD lo n).length = n := by simp [rangeD]
theorem room_u {k : Nat} {A : Around} (hr : Room k A) : A.units + 64 < cLine := by have := hr.un; omega
theorem room_u65 {k : Nat} {A : Around} (hr : Room k A) : A.units + 65 < cLine := by have := hr.un; omega
/-- a def of the text, and its name -/
def FunAt (K : PySem.W.Frag) (mg : Str → Option Value) (x : Str) (st : Stmt) : Prop := ∃ f fd, Fun K x x st f fd ∧ mg x = some (.ref f)
/-- an own class of errors over ValueError, without an __init__ -/
structure ExcAt (K : PySem.W.Frag) (mg : Str → Option Value) (x : Str) (C : Addr) : Prop where
  g : mg x = some (.ref C)
  x : PySem.W.excIn K C [.type "ValueError", .type "Exception", .type "BaseException", .type "object"] "ValueError.__new__" = true
  k : PySem.W.keepIn K (.ref C) = true
  b : PySem.W.subIn K (.ref C) (.type "BaseException") = some true
  t : PySem.W.typeIn K (.ref C) = some (.type "type")
section
variable {P : Program} {w : World} {K : PySem.W.Frag} {mg : Str → Option Value} {base : Heap}
theorem pass_own {N : List Str} {qual : Str} {scope : Scope} {f : Addr} {cdv : Value} {A : Around} {outer : List Env} {s : Shared} {H : Hp} {E : XK} : PassesOwn (model (cxD P w K mg base N qual scope f cdv A outer s H E).prog (cxD P w K mg base N qual scope f cdv A outer s H E).w) (cxD P w K mg base N qual scope f cdv A outer s H E).A (cxD P w K mg base N qual scope f cdv A outer s H E).env (cxD P w K mg base N qual scope f cdv A outer s H E).xe := passes_of rfl
theorem takesD {N : List Str} {qual : Str} {scope : Scope} {f : Addr} {cdv : Value} {A : Around} {outer : List Env} {s : Shared} {H : Hp} {E : XK} : Takes (cxD P w K mg base N qual scope f cdv A outer s H E) (fun cls d _ H => E cls d H) := takes_of rfl rfl rfl rfl
/-- the rule for a def: its body, for each of its promises -/
theorem has_mk {x : Str} {st : Stmt} {N ps : List Str} {k : Nat} {R : List PyData → Res → Prop} (F : FunAt K mg x st) (S : FnScope N ps (defScope st))
    (hb : ∀ (kV doc pm : Value) (an : Option Addr) (cdv ct : Value) (us : List Value), us.length = ps.length → bindArgs (PySem.W.fnOf x x (defArgs st) (defBody st) (defScope st) .none kV doc pm an cdv ct) ⟨us, []⟩ = pure (ps.zip us)) (hlen : ∀ ds r, R ds r → ds.length = ps.length)
    (body : ∀ (f : Addr) (ds : List PyData) (r : Res), R ds r → ∀ (cdv : Value) (A : Around) (outer : List Env) (s : Shared) (H : Hp) (E : XK), Room k (A.deeper (envOfC x (defScope st) s.heap.objs.size f cdv)) →
      DSs (cxD P w K mg base N x (defScope st) f cdv A outer s H E) E (startS N ds) (defBody st) (Ret r)) : Has P w K mg base (k + 1) x ps R := by
  obtain ⟨f, fd, F, hm⟩ := F
  exact ⟨f, fd, fn_data F S hlen (body f), hm, F.kp, F.binds hb⟩
end
/-! ### the script -/
def spS (K : PySem.W.Frag) (R : List Int → List PyData → Res → Prop) : Sp := fun vs H Q E => ∃ F a ns vs' ds r, vs = .ref a :: vs' ∧ Ex F H ∧ SqL K F a (ns.map V.int) ∧ Dts F vs' ds ∧ R ns ds r ∧ match r with
  | .ok d => ∀ v F' H', Grow F H F' H' → Dt F' v d → Q v H'
  | .rs C => ∀ F' H', Grow F H F' H' → E (.ref C) none H'
def startSS (K : PySem.W.Frag) (N : List Str) (ns : List Int) (ds : List PyData) : List Sl := .s K ns :: (ds.map .d ++ List.replicate (N.length - (ds.length + 1)) .no)
theorem met_startS {K : PySem.W.Frag} {N : List Str} {F H : Hp} {a : Addr} {ns : List Int} {vs : List V} {ds : List PyData} (e : Ex F H) (hs : SqL K F a (ns.map V.int)) (t : Dts F vs ds) : Met F H F H (L2.start N (.ref a :: vs)) (startSS K N ns ds) := by
  unfold L2.start startSS
  have hl := t.1
  refine ⟨.refl e, by simp [hl], fun i o s h1 h2 => ?_, fun i j s t' b _ h1 _ o1 _ _ => ?_⟩
  · cases i with
    | zero =>
      simp at h1 h2
      subst h1; subst h2
      exact ⟨a, rfl, hs⟩
    | succ i =>
      simp only [List.map_cons, List.cons_append, List.getElem?_cons_succ] at h1 h2
      by_cases hi : i < ds.length
      · rw [List.getElem?_append_left (by simpa [hl] using hi), List.getElem?_map] at h1
        rw [List.getElem?_append_left (by simpa using hi), List.getElem?_map] at h2
        obtain ⟨x, hx⟩ : ∃ x, ds[i]? = some x := ⟨ds[i], List.getElem?_eq_getElem hi⟩
        obtain ⟨v, hv, k⟩ := t.at hx
        rw [hv] at h1
        rw [hx] at h2
        cases h1; cases h2
        exact ⟨v, rfl, k⟩
      · rw [List.getElem?_append_right (by simpa using hi)] at h2
        have : s = .no := by
          rw [List.getElem?_replicate] at h2
          split at h2
          · exact (Option.some.inj h2).symm
          · cases h2
        subst this; trivial
  · exfalso
    cases i with
    | zero => simp at h1; subst h1; cases o1
    | succ i =>
      simp only [List.getElem?_cons_succ] at h1
      by_cases hi : i < ds.length
      · rw [List.getElem?_append_left (by simpa using hi), List.getElem?_map] at h1
        cases q : ds[i]? with
        | none => rw [q] at h1; cases h1
        | some x => rw [q] at h1; cases h1; cases o1
      · rw [List.getElem?_append_right (by simpa using hi), List.getElem?_replicate] at h1
        split at h1
        · cases h1; cases o1
        · cases h1
structure HasS (P : Program) (w : World) (K : PySem.W.Frag) (mg : Str → Option Value) (base : Heap) (k : Nat) (x : Str) (ps : List Str) (R : List Int → List PyData → Res → Prop) : Prop where
  ex : ∃ (f : Addr) (fd : FuncData), FnOk P w K mg base (L2.CX P w) k f fd ps (spS K R) ∧ mg x = some (.ref f) ∧ PySem.W.keepIn K (.ref f) = true ∧ Binds K fd ps []
section
variable {P : Program} {w : World} {K : PySem.W.Frag} {mg : Str → Option Value} {base : Heap}
theorem fn_dataS {x qual : Str} {st : Stmt} {f : Addr} {fd : FuncData} {N ps : List Str} {k : Nat} {R : List Int → List PyData → Res → Prop} (F : Fun K x qual st f fd) (S : FnScope N ps (defScope st)) (hlen : ∀ ns ds r, R ns ds r → ds.length + 1 = ps.length)
    (body : ∀ (ns : List Int) (ds : List PyData) (r : Res), R ns ds r → ∀ (cdv : Value) (A : Around) (outer : List Env) (s : Shared) (H : Hp) (E : XK), Room k (A.deeper (envOfC qual (defScope st) s.heap.objs.size f cdv)) →
      DSs (cxD P w K mg base N qual (defScope st) f cdv A outer s H E) E (startSS K N ns ds) (defBody st) (Ret r)) : FnOk P w K mg base (L2.CX P w) (k + 1) f fd ps (spS K R) := by
  refine F.okX S (fun vs H Q E h => ?_) (fun cdv A outer s H vs Q E hr h => ?_)
  · obtain ⟨F, a, ns, vs', ds, r, rfl, _, _, t, hR, _⟩ := h
    rw [List.length_cons, t.1]; exact hlen ns ds r hR
  · obtain ⟨F, a, ns, vs', ds, r, rfl, ex, hs, t, hR, q⟩ := h
    refine ⟨_, body ns ds r hR cdv A outer s H E hr, F, H, F, met_startS ex hs t, ?_⟩
    refine ⟨fun ρ σ F' H' z e m => ?_, fun d v F' H' z e g k => ?_, fun _ _ _ _ z => z.elim, fun _ _ _ _ z => z.elim, fun C F' H' z e g => ?_⟩
    · obtain rfl : r = .ok .none := z
      exact q .non F' H' m.g .non
    · obtain rfl : r = .ok d := z
      exact q v F' H' g k
    · obtain rfl : r = .rs C := z
      exact q F' H' g
theorem has_mkS {x : Str} {st : Stmt} {N ps : List Str} {k : Nat} {R : List Int → List PyData → Res → Prop} (F : FunAt K mg x st) (S : FnScope N ps (defScope st))
    (hb : ∀ (kV doc pm : Value) (an : Option Addr) (cdv ct : Value) (us : List Value), us.length = ps.length → bindArgs (PySem.W.fnOf x x (defArgs st) (defBody st) (defScope st) .none kV doc pm an cdv ct) ⟨us, []⟩ = pure (ps.zip us)) (hlen : ∀ ns ds r, R ns ds r → ds.length + 1 = ps.length)
    (body : ∀ (f : Addr) (ns : List Int) (ds : List PyData) (r : Res), R ns ds r → ∀ (cdv : Value) (A : Around) (outer : List Env) (s : Shared) (H : Hp) (E : XK), Room k (A.deeper (envOfC x (defScope st) s.heap.objs.size f cdv)) →
      DSs (cxD P w K mg base N x (defScope st) f cdv A outer s H E) E (startSS K N ns ds) (defBody st) (Ret r)) : HasS P w K mg base (k + 1) x ps R := by
  obtain ⟨f, fd, F, hm⟩ := F
  exact ⟨f, fd, fn_dataS F S hlen (body f), hm, F.kp, F.binds hb⟩
end
section
variable {X : Cx} {E : XK} {ρ : List Sl} {e a : Expr} {es : List Expr} {d : PyData} {pos p p1 : Pos} {ds : List PyData} {n x : Str} {ps : List Str} {R : List Int → List PyData → Res → Prop} {k : Nat} {ns : List Int}
theorem de_lenScript (i : Nat) (hm : X.mg "len" = none) (hi : ρ[i]? = some (.s X.K ns) := by rfl) (hN : X.N[i]? = some n := by rfl) (hv : Vis X.env.scope n := by first | exact Or.inl rfl | exact Or.inr (Or.inl rfl) | exact Or.inr (Or.inr rfl))
    (hd : (n == ("__debug__" : Str)) = false := by decide) (hcd : (n == ("__classdict__" : Str)) = false := by decide) (hg : Gl X "len" := by rfl) (he : starEach [.Name n p1] X.env = (false, eval (.Name n p1) X.env) :: starEach [] X.env := by rfl) (hpl : (backTo pos (starEach [] X.env)).any (·.1) = false := by rfl) :
    DE X ρ (.Call (.Name "len" p) [.Name n p1] [] pos) (.int ns.length) :=
  PE.imp (pe_callB call_len hg hm PySem.boot_len (pa_cons (pe_var hN hv hd hcd) pa_nil he) (by decide) (by decide) he hpl) fun σ H Q ⟨F0, H0, F, M, q⟩ => by
    obtain ⟨b, e1, hs⟩ := M.getS hi
    exact ⟨_, e1, _, ns.length, rfl, .inl ⟨_, M.g.fh.sqL hs, by simp⟩, q _ F H (.refl M.g.fh) (.int _)⟩
theorem de_ixScript (i : Nat) {j : Nat} {m : Int} (hb : DE X ρ a (.int (j : Nat))) (hj : ns[j]? = some m) (hs : PlainIx a := by exact fun _ _ => rfl) (hi : ρ[i]? = some (.s X.K ns) := by rfl) (hN : X.N[i]? = some n := by rfl) (hv : Vis X.env.scope n := by first | exact Or.inl rfl | exact Or.inr (Or.inl rfl) | exact Or.inr (Or.inr rfl))
    (hd : (n == ("__debug__" : Str)) = false := by decide) (hcd : (n == ("__classdict__" : Str)) = false := by decide) : DE X ρ (.Subscript (.Name n p1) a pos) (.int m) :=
  PE.imp (pe_ix ix_list (pe_var hN hv hd hcd) hb hs) fun σ H Q ⟨F0, H0, F, M, q⟩ => by
    obtain ⟨b, e1, hq⟩ := M.getS hi
    refine ⟨_, e1, F0, H0, F, M, fun v F1 H1 g1 k1 => ⟨b, _, (j : Nat), .int m, rfl, k1.isI, (M.g.fh.trans g1.hh).sqL hq, atI_nat (by rw [List.getElem?_map, hj]; rfl), q _ F1 H1 g1 (.int _)⟩⟩
theorem de_callS (i : Nat) (h : HasS X.prog X.w X.K X.mg X.base k x ps R) (hr : Room k X.A) (ha : DA X ρ es ds) (hR : R ns ds (.ok d)) (hi : ρ[i]? = some (.s X.K ns) := by rfl) (hN : X.N[i]? = some n := by rfl) (hv : Vis X.env.scope n := by first | exact Or.inl rfl | exact Or.inr (Or.inl rfl) | exact Or.inr (Or.inr rfl))
    (hd : (n == ("__debug__" : Str)) = false := by decide) (hcd : (n == ("__classdict__" : Str)) = false := by decide) (hg : Gl X x := by rfl) (hdb : (x == ("__debug__" : Str)) = false := by decide) (he : starEach (.Name n p1 :: es) X.env = (false, eval (.Name n p1) X.env) :: starEach es X.env := by rfl) (hpl : (backTo pos (starEach es X.env)).any (·.1) = false := by rfl) :
    DE X ρ (.Call (.Name x p) (.Name n p1 :: es) [] pos) d := by
  obtain ⟨f, fd, F, hm, hk, hb⟩ := h.ex
  refine PE.imp (pe_call F hr hg hm hk hb .nil passL (pa_cons (pe_var hN hv hd hcd) ha he) hdb he hpl) fun σ H Q ⟨F0, H0, F, M, q⟩ => ?_
  obtain ⟨b, e1, hq⟩ := M.getS hi
  refine ⟨_, e1, F0, H0, F, M, fun vs F1 H1 g1 k1 => ?_⟩
  show spS X.K R ((.ref b :: vs) ++ []) H1 Q E0
  rw [List.append_nil]
  exact ⟨F1, b, ns, vs, ds, .ok d, rfl, g1.fh, g1.ff.sqL hq, k1, hR, fun v F' H' g k => q v F' H' (g1.trans g) k⟩
end
end DL

namespace Tr
open PySem PySem.Spec PyProof.Rows L2 DL
def topS (i : Nat) : Stmt := PySem.Challenge.pw_throughroads_k02_faults.main.body.getD i (.Pass ⟨0, 0, 0, 0⟩)
abbrev s_in_range : Stmt := topS 6
abbrev N_in_range : List Str := ["value", "low", "high"]
theorem sc_in_range : FnScope ["value", "low", "high"] ["value", "low", "high"] (defScope s_in_range) := ⟨rfl, rfl, rfl, by decide +kernel, rfl, by decide +kernel, by decide +kernel⟩
abbrev s_is_edge : Stmt := topS 7
abbrev N_is_edge : List Str := ["points", "value"]
theorem sc_is_edge : FnScope ["points", "value"] ["points", "value"] (defScope s_is_edge) := ⟨rfl, rfl, rfl, by decide +kernel, rfl, by decide +kernel, by decide +kernel⟩
abbrev s_is_graph : Stmt := topS 8
abbrev N_is_graph : List Str := ["value", "edge", "following"]
theorem sc_is_graph : FnScope ["value", "edge", "following"] ["value"] (defScope s_is_graph) := ⟨rfl, rfl, rfl, by decide +kernel, rfl, by decide +kernel, by decide +kernel⟩
abbrev s_check_graph : Stmt := topS 9
abbrev N_check_graph : List Str := ["graph"]
theorem sc_check_graph : FnScope ["graph"] ["graph"] (defScope s_check_graph) := ⟨rfl, rfl, rfl, by decide +kernel, rfl, by decide +kernel, by decide +kernel⟩
abbrev s_are_directions : Stmt := topS 10
abbrev N_are_directions : List Str := ["graph", "value", "one"]
theorem sc_are_directions : FnScope ["graph", "value", "one"] ["graph", "value"] (defScope s_are_directions) := ⟨rfl, rfl, rfl, by decide +kernel, rfl, by decide +kernel, by decide +kernel⟩
abbrev s_check_directions : Stmt := topS 11
abbrev N_check_directions : List Str := ["graph", "directions"]
theorem sc_check_directions : FnScope ["graph", "directions"] ["graph", "directions"] (defScope s_check_directions) := ⟨rfl, rfl, rfl, by decide +kernel, rfl, by decide +kernel, by decide +kernel⟩
abbrev s_arrows : Stmt := topS 12
abbrev N_arrows : List Str := ["graph", "directions", "edge", "one"]
theorem sc_arrows : FnScope ["graph", "directions", "edge", "one"] ["graph", "directions"] (defScope s_arrows) := ⟨rfl, rfl, rfl, by decide +kernel, rfl, by decide +kernel, by decide +kernel⟩
abbrev s_fault_of : Stmt := topS 13
abbrev N_fault_of : List Str := ["graph", "directions", "rows", "found", "one", "middle", "here", "last"]
theorem sc_fault_of : FnScope ["graph", "directions", "rows", "found", "one", "middle", "here", "last"] ["graph", "directions"] (defScope s_fault_of) := ⟨rfl, rfl, rfl, by decide +kernel, rfl, by decide +kernel, by decide +kernel⟩
abbrev s_fault : Stmt := topS 14
abbrev N_fault : List Str := ["graph", "directions"]
theorem sc_fault : FnScope ["graph", "directions"] ["graph", "directions"] (defScope s_fault) := ⟨rfl, rfl, rfl, by decide +kernel, rfl, by decide +kernel, by decide +kernel⟩
abbrev s_are_through : Stmt := topS 15
abbrev N_are_through : List Str := ["graph", "directions"]
theorem sc_are_through : FnScope ["graph", "directions"] ["graph", "directions"] (defScope s_are_through) := ⟨rfl, rfl, rfl, by decide +kernel, rfl, by decide +kernel, by decide +kernel⟩
abbrev s__law_cell : Stmt := topS 17
abbrev N__law_cell : List Str := ["script", "k"]
theorem sc__law_cell : FnScope ["script", "k"] ["script", "k"] (defScope s__law_cell) := ⟨rfl, rfl, rfl, by decide +kernel, rfl, by decide +kernel, by decide +kernel⟩
abbrev s__law_row : Stmt := topS 18
abbrev N__law_row : List Str := ["script", "at", "cell", "found", "time"]
theorem sc__law_row : FnScope ["script", "at", "cell", "found", "time"] ["script", "at"] (defScope s__law_row) := ⟨rfl, rfl, rfl, by decide +kernel, rfl, by decide +kernel, by decide +kernel⟩
abbrev s__law_pairs : Stmt := topS 19
abbrev N__law_pairs : List Str := ["points", "found", "one", "other"]
theorem sc__law_pairs : FnScope ["points", "found", "one", "other"] ["points"] (defScope s__law_pairs) := ⟨rfl, rfl, rfl, by decide +kernel, rfl, by decide +kernel, by decide +kernel⟩
abbrev s__law_graph : Stmt := topS 20
abbrev N__law_graph : List Str := ["script", "at", "most", "draws", "points", "pairs", "pair", "point", "spots", "edges", "one", "other", "first", "second", "edge"]
theorem sc__law_graph : FnScope ["script", "at", "most", "draws", "points", "pairs", "pair", "point", "spots", "edges", "one", "other", "first", "second", "edge"] ["script", "at", "most"] (defScope s__law_graph) := ⟨rfl, rfl, rfl, by decide +kernel, rfl, by decide +kernel, by decide +kernel⟩
abbrev s__law_arrows : Stmt := topS 21
abbrev N__law_arrows : List Str := ["graph", "directions", "found", "place", "one", "other"]
theorem sc__law_arrows : FnScope ["graph", "directions", "found", "place", "one", "other"] ["graph", "directions"] (defScope s__law_arrows) := ⟨rfl, rfl, rfl, by decide +kernel, rfl, by decide +kernel, by decide +kernel⟩
abbrev s__law_faults : Stmt := topS 22
abbrev N__law_faults : List Str := ["graph", "directions", "rows", "found", "one", "middle", "here", "last"]
theorem sc__law_faults : FnScope ["graph", "directions", "rows", "found", "one", "middle", "here", "last"] ["graph", "directions"] (defScope s__law_faults) := ⟨rfl, rfl, rfl, by decide +kernel, rfl, by decide +kernel, by decide +kernel⟩
abbrev s_law : Stmt := topS 23
abbrev N_law : List Str := ["script", "draws", "graph", "place", "directions", "point", "ranks", "one", "other", "every", "rows", "around", "middle", "here", "last"]
theorem sc_law : FnScope ["script", "draws", "graph", "place", "directions", "point", "ranks", "one", "other", "every", "rows", "around", "middle", "here", "last"] ["script"] (defScope s_law) := ⟨rfl, rfl, rfl, by decide +kernel, rfl, by decide +kernel, by decide +kernel⟩
/-! ## data of graphs -/
structure Bi (mg : Str → Option Value) : Prop where
  isinstance : mg "isinstance" = none
  int : mg "int" = none
  bool : mg "bool" = none
  tuple : mg "tuple" = none
  list : mg "list" = none
  str : mg "str" = none
  len : mg "len" = none
  range : mg "range" = none
  zip : mg "zip" = none
  sorted : mg "sorted" = none
  min : mg "min" = none
  max : mg "max" = none
  enumerate : mg "enumerate" = none
  set : mg "set" = none
def eE (e : Int × Int) : PyData := .tuple [.int e.1, .int e.2]
def eG (n : Int) (es : List (Int × Int)) : PyData := .tuple [.int n, .tuple (es.map eE)]
def eT (ds : List Int) : PyData := .tuple (ds.map .int)
def eF (t : Int × Int × Int) : PyData := .tuple [.int t.1, .int t.2.1, .int t.2.2]
def inRange (d : PyData) (lo hi : Int) : Bool := match d with
  | .int i => decide (lo ≤ i) && decide (i ≤ hi)
  | _ => false
def isEdge (n : Int) (d : PyData) : Bool := match d with
  | .tuple [a, b] => match a with
    | .int i => inRange a 0 (n - 1) && inRange b (i + 1) (n - 1)
    | _ => false
  | _ => false
/-- strictly ascending -/
def ascD : List PyData → Bool
  | [] => true
  | x :: xs => (match xs with
    | [] => true
    | y :: _ => PySem.W.dataLt x y) && ascD xs
def isGraph (d : PyData) : Bool := match d with
  | .tuple [a, b] => match a, b with
    | .int n, .tuple es => inRange a 1 6 && es.all (isEdge n) && ascD es
    | _, _ => false
  | _ => false
def areDirs (m : Nat) (d : PyData) : Bool := match d with
  | .tuple xs => (xs.length == m) && xs.all (fun x => inRange x 0 1)
  | _ => false
theorem inRange_int {d : PyData} {lo hi : Int} (h : inRange d lo hi = true) : ∃ i, d = .int i ∧ lo ≤ i ∧ i ≤ hi := by
  cases d with
  | int i => simp only [inRange, Bool.and_eq_true, decide_eq_true_eq] at h; exact ⟨i, rfl, h.1, h.2⟩
  | _ => cases h
theorem isEdge_pair {n : Int} {d : PyData} (h : isEdge n d = true) : ∃ e : Int × Int, d = eE e ∧ 0 ≤ e.1 ∧ e.1 < e.2 ∧ e.2 < n := by
  unfold isEdge at h
  split at h
  · split at h
    · rename_i b i
      rw [Bool.and_eq_true] at h
      obtain ⟨i', e1, h1, h2⟩ := inRange_int h.1
      obtain ⟨j, rfl, h3, h4⟩ := inRange_int h.2
      cases e1
      exact ⟨(i, j), rfl, h1, by show i < j; omega, by show j < n; omega⟩
    · cases h
  · cases h
theorem isEdge_eE (n : Int) (e : Int × Int) : isEdge n (eE e) = true ↔ 0 ≤ e.1 ∧ e.1 < e.2 ∧ e.2 < n := by
  simp only [isEdge, eE, inRange, Bool.and_eq_true, decide_eq_true_eq]
  omega
def ltE (a b : Int × Int) : Prop := a.1 < b.1 ∨ (a.1 = b.1 ∧ a.2 < b.2)
instance (a b : Int × Int) : Decidable (ltE a b) := inferInstanceAs (Decidable (_ ∨ _))
theorem dataLt_eE (a b : Int × Int) : PySem.W.dataLt (eE a) (eE b) = decide (ltE a b) := PySem.W.dataLt_ii a.1 a.2 b.1 b.2
/-- a graph: its points, its edges -/
structure GOk (n : Int) (es : List (Int × Int)) : Prop where
  lo : 1 ≤ n
  hi : n ≤ 6
  ed : ∀ e ∈ es, 0 ≤ e.1 ∧ e.1 < e.2 ∧ e.2 < n
  asc : es.Pairwise ltE
theorem ltE_trans {a b c : Int × Int} (h : ltE a b) (k : ltE b c) : ltE a c := by unfold ltE at *; omega
theorem ascD_iff : ∀ es : List (Int × Int), ascD (es.map eE) = true ↔ es.Pairwise ltE
  | [] => by simp [ascD]
  | [a] => by simp [ascD]
  | a :: b :: r => by
    have ih := ascD_iff (b :: r)
    show ((PySem.W.dataLt (eE a) (eE b)) && ascD ((b :: r).map eE)) = true ↔ _
    rw [Bool.and_eq_true, ih, dataLt_eE, decide_eq_true_eq]
    constructor
    · rintro ⟨h1, h2⟩
      refine List.pairwise_cons.mpr ⟨fun x hx => ?_, h2⟩
      rcases List.mem_cons.mp hx with rfl | hx
      · exact h1
      · exact ltE_trans h1 ((List.pairwise_cons.mp h2).1 x hx)
    · intro h
      obtain ⟨h1, h2⟩ := List.pairwise_cons.mp h
      exact ⟨h1 b List.mem_cons_self, h2⟩
theorem all_edges {n : Int} : ∀ {ds : List PyData}, ds.all (isEdge n) = true → ∃ es : List (Int × Int), ds = es.map eE ∧ ∀ e ∈ es, 0 ≤ e.1 ∧ e.1 < e.2 ∧ e.2 < n
  | [], _ => ⟨[], rfl, by simp⟩
  | d :: ds, h => by
    rw [List.all_cons, Bool.and_eq_true] at h
    obtain ⟨e, rfl, he⟩ := isEdge_pair h.1
    obtain ⟨es, rfl, hs⟩ := all_edges h.2
    exact ⟨e :: es, rfl, fun x hx => by
      rcases List.mem_cons.mp hx with rfl | hx
      · exact he
      · exact hs x hx⟩
theorem isGraph_of {d : PyData} (h : isGraph d = true) : ∃ n es, d = eG n es ∧ GOk n es := by
  unfold isGraph at h
  split at h
  · split at h
    · rename_i n ds
      simp only [Bool.and_eq_true] at h
      obtain ⟨⟨h1, h2⟩, h3⟩ := h
      obtain ⟨i, e1, l1, l2⟩ := inRange_int h1
      cases e1
      obtain ⟨es, rfl, hs⟩ := all_edges h2
      exact ⟨n, es, rfl, l1, l2, hs, (ascD_iff es).mp h3⟩
    · cases h
  · cases h
theorem isGraph_eG {n : Int} {es : List (Int × Int)} (h : GOk n es) : isGraph (eG n es) = true := by
  show (inRange (.int n) 1 6 && (es.map eE).all (isEdge n) && ascD (es.map eE)) = true
  simp only [Bool.and_eq_true]
  refine ⟨⟨?_, ?_⟩, (ascD_iff es).mpr h.asc⟩
  · simp only [inRange, Bool.and_eq_true, decide_eq_true_eq]; exact ⟨h.lo, h.hi⟩
  · rw [List.all_eq_true]
    intro x hx
    obtain ⟨e, he, rfl⟩ := List.mem_map.mp hx
    exact (isEdge_eE n e).mpr (h.ed e he)
theorem depth_eE (e : Int × Int) : (eE e).depth ≤ 60 := by show (1 : Nat) ≤ 60; decide
theorem depth_eE' (e : Int × Int) : (eE e).depth = 1 := rfl

section
variable {P : Program} {w : World} {K : PySem.W.Frag} {mg : Str → Option Value} {base : Heap}
/-! ## graphs.py -/
def R_in_range (ds : List PyData) (r : Res) : Prop := ∃ d lo hi, ds = [d, .int lo, .int hi] ∧ r = .ok (.bool (inRange d lo hi))
theorem has_in_range (T : Bi mg) (F : FunAt K mg "in_range" s_in_range) : Has P w K mg base 1 "in_range" ["value", "low", "high"] R_in_range := by
  refine has_mk F sc_in_range (fun _ _ _ _ _ _ us hl => match us, hl with | [_, _, _], _ => rfl) (fun ds r h => ?_) (fun f ds r h cdv A outer s H E hr => ?_)
  · obtain ⟨d, lo, hi, rfl, _⟩ := h; rfl
  · obtain ⟨d, lo, hi, rfl, rfl⟩ := h
    refine dss_one (ds_ret (d := .bool (inRange d lo hi)) ?_ rfl)
    refine DE.of (de_and (k' := inRange d lo hi) (de_isa (T := "int") (.inl rfl) T.isinstance T.int PyProof.Rows.boot_int (de_var 0)) fun h => ?_) (by cases d <;> rfl)
    refine DE.of (de_and (k' := inRange d lo hi) (de_not (de_isa (T := "bool") (.inr (.inl rfl)) T.isinstance T.bool (by decide +kernel) (de_var 0))) fun h' => ?_) (by cases d <;> rfl)
    cases d with
    | int i => exact de_one (de_lele (de_var 1) (de_var 0) (de_var 2))
    | bool b => cases h'
    | none => cases h
    | str _ => cases h
    | list _ => cases h
    | tuple _ => cases h
    | dict _ => cases h
abbrev H_in_range (P : Program) (w : World) (K : PySem.W.Frag) (mg : Str → Option Value) (base : Heap) : Prop := Has P w K mg base 1 "in_range" ["value", "low", "high"] R_in_range
theorem R_in {d : PyData} {lo hi : Int} : R_in_range [d, .int lo, .int hi] (.ok (.bool (inRange d lo hi))) := ⟨d, lo, hi, rfl, rfl⟩
def R_is_edge (ds : List PyData) (r : Res) : Prop := ∃ n d, ds = [.int n, d] ∧ r = .ok (.bool (isEdge n d))
theorem tuple_of {d : PyData} (h : (!isa "tuple" d) = false) : ∃ xs, d = .tuple xs := by
  cases d with
  | tuple xs => exact ⟨xs, rfl⟩
  | _ => cases h
theorem len_two {xs : List PyData} (h : (!PyData.eqv (.int (xs.length : Nat)) (.int 2)) = false) : ∃ a b, xs = [a, b] := by
  match xs, h with
  | [a, b], _ => exact ⟨a, b, rfl⟩
  | [], h => cases h
  | [_], h => cases h
  | _ :: _ :: _ :: r, h =>
    exfalso
    simp only [PyData.eqv, List.length_cons, Bool.not_eq_false', beq_iff_eq] at h
    omega
def fstIn (lo hi : Int) (d : PyData) : Bool := match d with
  | .tuple [a, _] => inRange a lo hi
  | _ => false
theorem fstIn_len {lo hi : Int} {xs : List PyData} : ((!PyData.eqv (.int (xs.length : Nat)) (.int 2)) || !fstIn lo hi (.tuple xs)) = !fstIn lo hi (.tuple xs) := by
  match xs with
  | [a, b] => rfl
  | [] => rfl
  | [_] => rfl
  | _ :: _ :: _ :: r =>
    have : fstIn lo hi (.tuple (‹PyData› :: ‹PyData› :: ‹PyData› :: r)) = false := rfl
    simp [fstIn]
theorem has_is_edge (T : Bi mg) (F : FunAt K mg "is_edge" s_is_edge) (h1 : H_in_range P w K mg base) : Has P w K mg base 2 "is_edge" ["points", "value"] R_is_edge := by
  refine has_mk F sc_is_edge (fun _ _ _ _ _ _ us hl => match us, hl with | [_, _], _ => rfl) (fun ds r h => ?_) (fun f ds r h cdv A outer s H E hr => ?_)
  · obtain ⟨n, d, rfl, _⟩ := h; rfl
  · obtain ⟨n, d, rfl, rfl⟩ := h
    refine dss_cons (ds_if (k := !fstIn 0 (n - 1) d) (DW.t (DW.of (dw_or (k' := !fstIn 0 (n - 1) d) (dt_not (dt_val (de_isa (T := "tuple") (.inr (.inr (.inl rfl))) T.isinstance T.tuple PyProof.Rows.boot_tuple (de_var 1)))) fun z => ?_) (by cases d <;> rfl))) (fun h => dss_one (ds_ret de_bool ?_)) fun h => dss_nil (dss_one ?_))
    · obtain ⟨xs, rfl⟩ := tuple_of z
      refine DW.of (dw_or (k' := !fstIn 0 (n - 1) (.tuple xs)) (dt_ne (room_u hr) (de_len T.len isT (de_var 1)) de_int (Nat.zero_le _)) fun z => ?_) fstIn_len
      obtain ⟨a, b, rfl⟩ := len_two z
      exact dw_or1 (dt_not (dt_val (de_call h1 hr (da_cons (de_ixT (de_var 1) de_int (at_nat 0)) (da_cons de_int (da_cons (de_sub (de_var 0) de_int) da_nil))) R_in)))
    · show Res.ok _ = Res.ok _
      have : isEdge n d = false := by
        unfold isEdge
        split
        · split
          · rename_i b i
            have : inRange (.int i) 0 (n - 1) = false := by simpa [fstIn] using h
            rw [this]; rfl
          · rfl
        · rfl
      rw [this]
    · have hd : ∃ i b, d = .tuple [.int i, b] ∧ inRange (.int i) 0 (n - 1) = true := by
        unfold fstIn at h
        split at h
        · rename_i a b
          obtain ⟨i, rfl, _⟩ := inRange_int (by simpa using h)
          exact ⟨i, b, rfl, by simpa using h⟩
        · cases h
      obtain ⟨i, b, rfl, hi⟩ := hd
      refine ds_ret (de_call h1 hr (da_cons (de_ixT (de_var 1) de_int (at_nat 1)) (da_cons (de_add (de_ixT (de_var 1) de_int (at_nat 0)) de_int) (da_cons (de_sub (de_var 0) de_int) da_nil))) R_in) ?_
      show Res.ok (.bool (inRange (.int i) 0 (n - 1) && inRange b (i + 1) (n - 1))) = Res.ok _
      rw [hi]
      rfl

/-- the pairs of neighbours that do not ascend -/
def downs (es : List PyData) : List (PyData × PyData) := (es.zip es.tail).filter fun q => !PySem.W.dataLt q.1 q.2
theorem downs_asc : ∀ es : List PyData, (downs es).isEmpty = ascD es
  | [] => rfl
  | [_] => rfl
  | a :: b :: r => by
    have ih := downs_asc (b :: r)
    show (List.filter _ ((a, b) :: ((b :: r).zip r))).isEmpty = (PySem.W.dataLt a b && ascD (b :: r))
    rw [List.filter_cons]
    cases h : PySem.W.dataLt a b with
    | true => simpa [h, downs] using ih
    | false => simp [h]
theorem zipD_tail (es : List PyData) : zipD es es.tail = (es.zip es.tail).map fun q => .tuple [q.1, q.2] := by
  unfold zipD
  rw [List.zip, List.map_zipWith]
theorem cut1 {α : Type} (xs : List α) : slcD xs (some 1) none = xs.tail := by
  unfold slcD
  rw [show HT.sIx xs.length 0 (some 1) = min 1 xs.length from HT.sIx_nat xs.length 0 1, HT.sIx_none]
  cases xs with
  | nil => rfl
  | cons x r =>
    rw [show min 1 (x :: r).length = 1 by rw [List.length_cons]; omega]
    show (List.take ((x :: r).length - 1) r) = r
    rw [List.length_cons, Nat.add_sub_cancel]
    exact List.take_length
theorem mem_zip_tail {α : Type} : ∀ {xs : List α} {q : α × α}, q ∈ xs.zip xs.tail → q.1 ∈ xs ∧ q.2 ∈ xs := fun {xs q} h => by
  have h1 := List.of_mem_zip (show (q.1, q.2) ∈ xs.zip xs.tail from h)
  exact ⟨h1.1, List.mem_of_mem_tail h1.2⟩
def edgesOk (d : PyData) : Bool := match d with
  | .tuple [a, b] => match a, b with
    | .int n, .tuple es => es.all (isEdge n)
    | _, _ => false
  | _ => false
def R_is_graph (ds : List PyData) (r : Res) : Prop := ∃ d, ds = [d] ∧ (∀ a es, d = .tuple [a, .tuple es] → es.length ≤ 1000) ∧ r = .ok (.bool (isGraph d))
abbrev H_is_edge (P : Program) (w : World) (K : PySem.W.Frag) (mg : Str → Option Value) (base : Heap) : Prop := Has P w K mg base 2 "is_edge" ["points", "value"] R_is_edge
theorem truthy_list {α : Type} (f : α → PyData) (xs : List α) : PyData.truthy (.list (xs.map f)) = !xs.isEmpty := by
  cases xs <;> rfl
theorem fits_list {xs : List PyData} (h : xs.length ≤ 100000) : PyData.fits63 (.list xs) := by
  show (xs.length : Int) < 2 ^ 63
  omega
theorem fits_tuple {xs : List PyData} (h : xs.length ≤ 100000) : PyData.fits63 (.tuple xs) := by
  show (xs.length : Int) < 2 ^ 63
  omega
theorem filter_none (es : List PyData) (p : PyData → Bool) : (es.filter fun e => !p e).isEmpty = es.all p := by
  induction es with
  | nil => rfl
  | cons a r ih =>
    rw [List.filter_cons, List.all_cons]
    cases h : p a with
    | true => simpa [h] using ih
    | false => simp [h]
theorem has_is_graph (T : Bi mg) (hmax : mg "MAX_POINTS" = some (.int 6 0) ∨ ∃ t, mg "MAX_POINTS" = some (.int 6 t)) (F : FunAt K mg "is_graph" s_is_graph) (h1 : H_in_range P w K mg base) (h2 : H_is_edge P w K mg base) : Has P w K mg base 3 "is_graph" ["value"] R_is_graph := by
  obtain ⟨tm, hmax⟩ : ∃ t, mg "MAX_POINTS" = some (.int 6 t) := hmax.elim (fun h => ⟨_, h⟩) id
  refine has_mk F sc_is_graph (fun _ _ _ _ _ _ us hl => match us, hl with | [_], _ => rfl) (fun ds r h => ?_) (fun f ds r h cdv A outer s H E hr => ?_)
  · obtain ⟨d, rfl, _⟩ := h; rfl
  · obtain ⟨d, rfl, hsz, rfl⟩ := h
    refine dss_cons (ds_if (k := !fstIn 1 6 d) (DW.t (DW.of (dw_or (k' := !fstIn 1 6 d) (dt_not (dt_val (de_isa (T := "tuple") (.inr (.inr (.inl rfl))) T.isinstance T.tuple PyProof.Rows.boot_tuple (de_var 0)))) fun z => ?_) (by cases d <;> rfl))) (fun h => dss_one (ds_ret de_bool ?_)) fun h => dss_nil ?_)
    · obtain ⟨xs, rfl⟩ := tuple_of z
      refine DW.of (dw_or (k' := !fstIn 1 6 (.tuple xs)) (dt_ne (room_u hr) (de_len T.len isT (de_var 0)) de_int (Nat.zero_le _)) fun z => ?_) fstIn_len
      obtain ⟨a, b, rfl⟩ := len_two z
      exact dw_or1 (dt_not (dt_val (de_call h1 (hr.mono (by decide)) (da_cons (de_ixT (de_var 0) de_int (at_nat 0)) (da_cons de_int (da_cons (de_glob hmax ⟨.int 6, ⟨_, rfl⟩, fun _ => .int 6⟩) da_nil))) R_in)))
    · show Res.ok _ = Res.ok _
      have : isGraph d = false := by
        unfold isGraph
        split
        · split
          · rename_i n es
            have : inRange (.int n) 1 6 = false := by simpa [fstIn] using h
            rw [this]; rfl
          · rfl
        · rfl
      rw [this]
    · have hd : ∃ n b, d = .tuple [.int n, b] ∧ inRange (.int n) 1 6 = true := by
        unfold fstIn at h
        split at h
        · rename_i a b
          obtain ⟨i, rfl, _⟩ := inRange_int (by simpa using h)
          exact ⟨i, b, rfl, by simpa using h⟩
        · cases h
      obtain ⟨n, b, rfl, hn⟩ := hd
      refine dss_cons (ds_if (k := !edgesOk (.tuple [.int n, b])) (DW.t (DW.of (dw_or (k' := !edgesOk (.tuple [.int n, b])) (dt_not (dt_val (de_isa (T := "tuple") (.inr (.inr (.inl rfl))) T.isinstance T.tuple PyProof.Rows.boot_tuple (de_ixT (de_var 0) de_int (at_nat 1))))) fun z => ?_) (by cases b <;> rfl))) (fun h => dss_one (ds_ret de_bool ?_)) fun h => dss_nil ?_)
      · obtain ⟨es, rfl⟩ := tuple_of z
        have hes := hsz _ _ rfl
        refine DW.of (dw_or1 (dt_truth (de_lc es id (fun e => !isEdge n e) id [("edge", 1)] rfl sc_is_graph.nd (blkOk_by (N := N_is_graph) (sc := defScope s_is_graph) (by decide +kernel)) (tg_name (j := 1) (by decide)) (fun _ _ _ _ _ => pg_name (i := 1) sc_is_graph.nd rfl (.inl rfl)) (by rw [List.map_id]; exact di_tup (de_ixT (de_var 0) de_int (at_nat 1))) (by omega) (fun i e he => ⟨_, rfl, fun _ _ _ _ _ => dts_one (dt_not (dt_val (de_call h2 hr (da_cons (de_ixT (de_var 0) de_int (at_nat 0)) (da_cons (de_var 1) da_nil)) ⟨_, _, rfl, rfl⟩))), fun _ _ _ _ _ _ => de_var 1⟩)) (fits_list (by rw [List.length_map]; exact Nat.le_trans (List.length_filter_le _ _) (by omega))))) ?_
        rw [truthy_list]
        exact congrArg not (filter_none es (isEdge n))
      · show Res.ok _ = Res.ok _
        have : isGraph (.tuple [.int n, b]) = false := by
          cases b with
          | tuple es =>
            have h' : es.all (isEdge n) = false := Bool.not_eq_true' _ ▸ h
            show (inRange (.int n) 1 6 && es.all (isEdge n) && ascD es) = false
            rw [h', Bool.and_false]; rfl
          | _ => rfl
        rw [this]
      · have hb : ∃ es, b = .tuple es ∧ es.all (isEdge n) = true := by
          cases b with
          | tuple es => exact ⟨es, rfl, by
              have h' : (!es.all (isEdge n)) = false := h
              simpa using h'⟩
          | _ => cases h
        obtain ⟨es, rfl, hall⟩ := hb
        have hes := hsz _ _ rfl
        have hall' := hall
        obtain ⟨ps, rfl, hps⟩ := all_edges hall
        have hlz : (downs (ps.map eE)).length ≤ 1000 := by
          refine Nat.le_trans (List.length_filter_le _ _) ?_
          rw [List.length_zip]; omega
        refine dss_one (ds_ret (de_notT (de_lc ((ps.map eE).zip (ps.map eE).tail) (fun q => .tuple [q.1, q.2]) (fun q => !PySem.W.dataLt q.1 q.2) (fun _ => .int 1) [("edge", 1), ("following", 2)] rfl sc_is_graph.nd (blkOk_by (N := N_is_graph) (sc := defScope s_is_graph) (by decide +kernel)) (tg_pair (K := K) (i := 1) (j := 2) (by decide) (by decide)) (fun _ _ _ _ _ => pg_tup rfl (pgs_cons (pg_name (i := 1) sc_is_graph.nd rfl (.inl rfl)) (pgs_cons (pg_name (i := 2) sc_is_graph.nd rfl (.inl rfl)) pgs_nil))) ?_ ?_ ?_) ?_) ?_)
        · rw [← zipD_tail, ← cut1]
          exact di_zipT T.zip (de_ixT (de_var 0) de_int (at_nat 1)) (de_slT (de_ixT (de_var 0) de_int (at_nat 1)) (do_some de_int) do_none)
        · rw [List.length_zip]; omega
        · intro i q hq
          obtain ⟨m1, m2⟩ := mem_zip_tail (List.mem_of_getElem? hq)
          obtain ⟨e1, _, he1⟩ := List.mem_map.mp m1
          obtain ⟨e2, _, he2⟩ := List.mem_map.mp m2
          refine ⟨_, rfl, fun _ _ _ _ _ => dts_one (dt_geD (room_u hr) (de_var 1) (de_var 2) ?_ ?_ ?_), fun _ _ _ _ _ _ => de_int⟩
          · rw [← he1, ← he2]; rfl
          · rw [← he1]; exact fun z => nomatch z
          · rw [← he1, ← he2]; show (1 : Nat) ≤ 60; decide
        · exact fits_list (by rw [List.length_map]; exact Nat.le_trans hlz (by decide))
        · show Res.ok _ = Res.ok _
          rw [truthy_list]
          show Res.ok (.bool (inRange (.int n) 1 6 && (ps.map eE).all (isEdge n) && ascD (ps.map eE))) = Res.ok (.bool (!!(downs (ps.map eE)).isEmpty))
          rw [hn, hall', downs_asc, Bool.not_not]
          rfl
end
/-! ## directions, arrows, faults -/
def GSz (d : PyData) : Prop := ∀ a es, d = .tuple [a, .tuple es] → es.length ≤ 1000
def TSz (d : PyData) : Prop := ∀ xs, d = .tuple xs → xs.length ≤ 1000
def nEd (d : PyData) : Nat := match d with
  | .tuple [_, .tuple es] => es.length
  | _ => 0
theorem GOk.gsz {n : Int} {es : List (Int × Int)} (h : es.length ≤ 1000) : GSz (eG n es) := fun a ds e => by
  cases e
  rw [List.length_map]; exact h
theorem nEd_eG (n : Int) (es : List (Int × Int)) : nEd (eG n es) = es.length := by show (es.map eE).length = _; rw [List.length_map]
theorem eqv_int (a b : Int) : PyData.eqv (.int a) (.int b) = decide (a = b) := by
  show (a == b) = _
  exact Bool.eq_iff_iff.mpr (by simp)
theorem eqv_eE (a b : Int × Int) : PyData.eqv (eE a) (eE b) = decide (a = b) := by
  show ((a.1 == b.1) && ((a.2 == b.2) && true)) = _
  refine Bool.eq_iff_iff.mpr ?_
  simp only [Bool.and_eq_true, beq_iff_eq, and_true, decide_eq_true_eq]
  exact ⟨fun h => Prod.ext h.1 h.2, fun h => by rw [h]; exact ⟨rfl, rfl⟩⟩
theorem any_eE (es : List (Int × Int)) (x : Int × Int) : ((es.map eE).any fun z => PyData.eqv z (eE x)) = decide (x ∈ es) := by
  refine Bool.eq_iff_iff.mpr ?_
  rw [List.any_eq_true, decide_eq_true_eq]
  constructor
  · rintro ⟨z, hz, h⟩
    obtain ⟨e, he, rfl⟩ := List.mem_map.mp hz
    rw [eqv_eE, decide_eq_true_eq] at h
    rw [← h]; exact he
  · intro h
    exact ⟨eE x, List.mem_map_of_mem h, by rw [eqv_eE]; exact decide_eq_true rfl⟩
theorem any_int (es : List Int) (x : Int) : ((es.map PyData.int).any fun z => PyData.eqv z (.int x)) = decide (x ∈ es) := by
  refine Bool.eq_iff_iff.mpr ?_
  rw [List.any_eq_true, decide_eq_true_eq]
  constructor
  · rintro ⟨z, hz, h⟩
    obtain ⟨e, he, rfl⟩ := List.mem_map.mp hz
    rw [eqv_int, decide_eq_true_eq] at h
    rw [← h]; exact he
  · intro h
    exact ⟨.int x, List.mem_map_of_mem h, by rw [eqv_int]; exact decide_eq_true rfl⟩
def arrow (e : Int × Int) (d : Int) : Int × Int := if d = 0 then e else (e.2, e.1)
def arrowsM (es : List (Int × Int)) (ds : List Int) : List (Int × Int) := List.zipWith arrow es ds
theorem arrowsM_zip (es : List (Int × Int)) (ds : List Int) : arrowsM es ds = (es.zip ds).map fun q => arrow q.1 q.2 := by
  unfold arrowsM; rw [List.zip, List.map_zipWith]
theorem arrowsM_len (es : List (Int × Int)) (ds : List Int) : (arrowsM es ds).length ≤ es.length := by
  unfold arrowsM; rw [List.length_zipWith]; exact Nat.min_le_left _ _
theorem zipD_gen {α β : Type} (f : α → PyData) (g : β → PyData) (xs : List α) (ys : List β) : zipD (xs.map f) (ys.map g) = (xs.zip ys).map fun q => .tuple [f q.1, g q.2] := by
  unfold zipD
  rw [List.zipWith_map, List.zip, List.map_zipWith]
/-- the faults of one arrow; all -/
def faultsAt (rows : List (Int × Int)) (a : Int × Int) : List (Int × Int × Int) := (rows.filter fun q => decide (q.1 = a.2) && !decide ((a.1, q.2) ∈ rows)).map fun q => (a.1, a.2, q.2)
def faultsM (rows : List (Int × Int)) : List (Int × Int × Int) := rows.flatMap (faultsAt rows)
theorem faultsAt_len (rows : List (Int × Int)) (a : Int × Int) : (faultsAt rows a).length ≤ rows.length := by
  unfold faultsAt; rw [List.length_map]; exact List.length_filter_le _ _
theorem flat_take_len {α β : Type} (f : α → List β) (m : Nat) (hf : ∀ a, (f a).length ≤ m) : ∀ xs : List α, (xs.flatMap f).length ≤ xs.length * m
  | [] => by simp
  | x :: xs => by
    rw [List.flatMap_cons, List.length_append, List.length_cons, Nat.succ_mul]
    have := hf x
    have := flat_take_len f m hf xs
    omega
theorem flat_snoc {α β : Type} {f : α → List β} {xs : List α} {i : Nat} {x : α} (h : xs[i]? = some x) : (xs.take (i + 1)).flatMap f = (xs.take i).flatMap f ++ f x := by
  rw [take_snoc h, List.flatMap_append, List.flatMap_singleton]
theorem alike_eF (l : List (Int × Int × Int)) : PySem.W.AlikeAll (l.map eF) := by
  refine ⟨fun x hx y hy => ?_, fun x hx => ?_⟩
  · obtain ⟨a, _, rfl⟩ := List.mem_map.mp hx
    obtain ⟨b, _, rfl⟩ := List.mem_map.mp hy
    rfl
  · obtain ⟨a, _, rfl⟩ := List.mem_map.mp hx
    exact fun z => nomatch z
theorem depthAll_map {α : Type} (f : α → PyData) (m : Nat) (hf : ∀ a, (f a).depth ≤ m) : ∀ l : List α, PyData.depthAll (l.map f) ≤ m
  | [] => Nat.zero_le _
  | a :: l => by
    show max (f a).depth (PyData.depthAll (l.map f)) ≤ m
    exact Nat.max_le.mpr ⟨hf a, depthAll_map f m hf l⟩
theorem depthAll_eF (l : List (Int × Int × Int)) : PyData.depthAll (l.map eF) ≤ 60 := depthAll_map eF 60 (fun a => by show (1 : Nat) ≤ 60; decide) l
def DOk (es : List (Int × Int)) (ds : List Int) : Prop := ds.length = es.length ∧ ∀ d ∈ ds, d = 0 ∨ d = 1
theorem areDirs_of {m : Nat} {d : PyData} (h : areDirs m d = true) : ∃ ds : List Int, d = eT ds ∧ ds.length = m ∧ ∀ x ∈ ds, x = 0 ∨ x = 1 := by
  cases d with
  | tuple xs =>
    simp only [areDirs, Bool.and_eq_true, beq_iff_eq] at h
    obtain ⟨h1, h2⟩ := h
    have : ∀ xs : List PyData, xs.all (fun x => inRange x 0 1) = true → ∃ ds : List Int, xs = ds.map .int ∧ ∀ x ∈ ds, x = 0 ∨ x = 1 := by
      intro xs
      induction xs with
      | nil => exact fun _ => ⟨[], rfl, by simp⟩
      | cons x xs ih =>
        intro h
        rw [List.all_cons, Bool.and_eq_true] at h
        obtain ⟨i, rfl, a, b⟩ := inRange_int h.1
        obtain ⟨ds, rfl, hs⟩ := ih h.2
        exact ⟨i :: ds, rfl, fun y hy => by
          rcases List.mem_cons.mp hy with rfl | hy
          · omega
          · exact hs y hy⟩
    obtain ⟨ds, rfl, hs⟩ := this xs h2
    exact ⟨ds, rfl, by rw [← h1, List.length_map], hs⟩
  | _ => cases h
theorem areDirs_eT {es : List (Int × Int)} {ds : List Int} (h : DOk es ds) : areDirs es.length (eT ds) = true := by
  simp only [areDirs, eT, Bool.and_eq_true, beq_iff_eq, List.length_map]
  refine ⟨h.1, ?_⟩
  rw [List.all_eq_true]
  intro x hx
  obtain ⟨i, hi, rfl⟩ := List.mem_map.mp hx
  simp only [inRange, Bool.and_eq_true, decide_eq_true_eq]
  rcases h.2 i hi with rfl | rfl <;> decide

section
variable {P : Program} {w : World} {K : PySem.W.Frag} {mg : Str → Option Value} {base : Heap}
abbrev H_is_graph (P : Program) (w : World) (K : PySem.W.Frag) (mg : Str → Option Value) (base : Heap) : Prop := Has P w K mg base 3 "is_graph" ["value"] R_is_graph
def R_check_graph (CG : Addr) (ds : List PyData) (r : Res) : Prop := ∃ d, ds = [d] ∧ GSz d ∧ r = if isGraph d = true then .ok .none else .rs CG
theorem has_check_graph {CG : Addr} (T : Bi mg) (F : FunAt K mg "check_graph" s_check_graph) (h1 : H_is_graph P w K mg base) (hC : ExcAt K mg "InvalidGraph" CG) : Has P w K mg base 4 "check_graph" ["graph"] (R_check_graph CG) := by
  refine has_mk F sc_check_graph (fun _ _ _ _ _ _ us hl => match us, hl with | [_], _ => rfl) (fun ds r h => ?_) (fun f ds r h cdv A outer s H E hr => ?_)
  · obtain ⟨d, rfl, _⟩ := h; rfl
  · obtain ⟨d, rfl, hsz, rfl⟩ := h
    refine dss_one (ds_if (k := !isGraph d) (dt_not (dt_val (de_call h1 hr (da_cons (de_var 0) da_nil) ⟨d, rfl, hsz, rfl⟩))) (fun h => dss_one (ds_raise rfl takesD (pmk_own PySem.F.excBase_ValueError hC.x hC.g hC.k (raises_own hC.b hC.t) rfl) ?_)) fun h => dss_nil ?_)
    · show _ = Res.rs CG
      rw [if_neg (by intro z; rw [z] at h; cases h)]
    · show _ = Res.ok .none
      rw [if_pos (by simpa using h)]
abbrev H_check_graph (P : Program) (w : World) (K : PySem.W.Frag) (mg : Str → Option Value) (base : Heap) (CG : Addr) : Prop := Has P w K mg base 4 "check_graph" ["graph"] (R_check_graph CG)
theorem R_check_graph_ok {CG : Addr} {n : Int} {es : List (Int × Int)} (h : GOk n es) (hl : es.length ≤ 1000) : R_check_graph CG [eG n es] (.ok .none) := ⟨_, rfl, GOk.gsz hl, by rw [if_pos (isGraph_eG h)]⟩
theorem R_check_graph_bad {CG : Addr} {d : PyData} (h : isGraph d = false) (hs : GSz d) : R_check_graph CG [d] (.rs CG) := ⟨_, rfl, hs, by rw [if_neg (by rw [h]; decide)]⟩
def R_are_directions (ds : List PyData) (r : Res) : Prop := ∃ g d, ds = [g, d] ∧ isGraph g = true ∧ GSz g ∧ TSz d ∧ r = .ok (.bool (areDirs (nEd g) d))
theorem has_are_directions (T : Bi mg) (F : FunAt K mg "are_directions" s_are_directions) (h1 : H_in_range P w K mg base) : Has P w K mg base 2 "are_directions" ["graph", "value"] R_are_directions := by
  refine has_mk F sc_are_directions (fun _ _ _ _ _ _ us hl => match us, hl with | [_, _], _ => rfl) (fun ds r h => ?_) (fun f ds r h cdv A outer s H E hr => ?_)
  · obtain ⟨g, d, rfl, _⟩ := h; rfl
  · obtain ⟨g, d, rfl, hg, hsz, hd, rfl⟩ := h
    obtain ⟨n, es, rfl, hG⟩ := isGraph_of hg
    rw [nEd_eG]
    refine dss_cons (ds_if (k := match d with | .tuple xs => !decide (xs.length = es.length) | _ => true) (DW.t (DW.of (dw_or (k' := match d with | .tuple xs => !decide (xs.length = es.length) | _ => true) (dt_not (dt_val (de_isa (T := "tuple") (.inr (.inr (.inl rfl))) T.isinstance T.tuple PyProof.Rows.boot_tuple (de_var 1)))) fun z => ?_) (by cases d <;> rfl))) (fun h => dss_one (ds_ret de_bool ?_)) fun h => dss_nil ?_)
    · obtain ⟨xs, rfl⟩ := tuple_of z
      refine DW.of (dw_or1 (dt_ne (room_u hr) (de_len T.len isT (de_var 1)) (de_len T.len isT (de_ixT (de_var 0) de_int (at_nat 1))) (Nat.zero_le _))) ?_
      rw [eqv_int, List.length_map]
      exact congrArg not (decide_eq_decide.mpr ⟨fun h => by omega, fun h => by omega⟩)
    · show Res.ok _ = Res.ok _
      cases d with
      | tuple xs =>
        have h' : (!decide (xs.length = es.length)) = true := h
        have : areDirs es.length (.tuple xs) = false := by
          show ((xs.length == es.length) && _) = false
          rw [beq_eq_false_iff_ne.mpr (by simpa using h'), Bool.false_and]
        rw [this]
      | _ => rfl
    · cases d with
      | tuple xs =>
        have hx := hd _ rfl
        refine dss_one (ds_ret (de_notT (de_lc xs id (fun e => !inRange e 0 1) id [("one", 2)] rfl sc_are_directions.nd (blkOk_by (N := N_are_directions) (sc := defScope s_are_directions) (by decide +kernel)) (tg_name (j := 2) (by decide)) (fun _ _ _ _ _ => pg_name (i := 2) sc_are_directions.nd rfl (.inl rfl)) (by rw [List.map_id]; exact di_tup (de_var 1)) (by omega) (fun i e he => ⟨_, rfl, fun _ _ _ _ _ => dts_one (dt_not (dt_val (de_call h1 hr (da_cons (de_var 2) (da_cons de_int (da_cons de_int da_nil))) R_in))), fun _ _ _ _ _ _ => de_var 2⟩)) (fits_list (by rw [List.length_map]; exact Nat.le_trans (List.length_filter_le _ _) (by omega)))) ?_)
        show Res.ok _ = Res.ok _
        rw [truthy_list, filter_none xs (fun e => inRange e 0 1), Bool.not_not]
        have h' : (!decide (xs.length = es.length)) = false := h
        have h2 : (xs.length == es.length) = true := by simpa using h'
        show Res.ok (.bool ((xs.length == es.length) && _)) = _
        rw [h2, Bool.true_and]
      | _ => cases h
abbrev H_are_directions (P : Program) (w : World) (K : PySem.W.Frag) (mg : Str → Option Value) (base : Heap) : Prop := Has P w K mg base 2 "are_directions" ["graph", "value"] R_are_directions
def R_check_directions (CG CD : Addr) (ds : List PyData) (r : Res) : Prop := ∃ g d, ds = [g, d] ∧ GSz g ∧ TSz d ∧ r = if isGraph g = true then (if areDirs (nEd g) d = true then .ok .none else .rs CD) else .rs CG
theorem has_check_directions {CG CD : Addr} (T : Bi mg) (F : FunAt K mg "check_directions" s_check_directions) (h1 : H_check_graph P w K mg base CG) (h2 : H_are_directions P w K mg base) (hC : ExcAt K mg "InvalidDirections" CD) : Has P w K mg base 5 "check_directions" ["graph", "directions"] (R_check_directions CG CD) := by
  refine has_mk F sc_check_directions (fun _ _ _ _ _ _ us hl => match us, hl with | [_, _], _ => rfl) (fun ds r h => ?_) (fun f ds r h cdv A outer s H E hr => ?_)
  · obtain ⟨g, d, rfl, _⟩ := h; rfl
  · obtain ⟨g, d, rfl, hsz, hd, rfl⟩ := h
    by_cases hg : isGraph g = true
    · rw [if_pos hg]
      refine dss_cons (ds_expr (de_call h1 hr (da_cons (de_var 0) da_nil) ⟨g, rfl, hsz, by rw [if_pos hg]⟩) (dss_one ?_))
      refine ds_if (k := !areDirs (nEd g) d) (dt_not (dt_val (de_call h2 (hr.mono (by decide)) (da_cons (de_var 0) (da_cons (de_var 1) da_nil)) ⟨g, d, rfl, hg, hsz, hd, rfl⟩))) (fun h => dss_one (ds_raise rfl takesD (pmk_own PySem.F.excBase_ValueError hC.x hC.g hC.k (raises_own hC.b hC.t) rfl) ?_)) fun h => dss_nil ?_
      · show _ = Res.rs CD
        rw [if_neg (by intro z; rw [z] at h; cases h)]
      · show _ = Res.ok .none
        rw [if_pos (by simpa using h)]
    · rw [if_neg hg]
      exact dss_cons (ds_exprR (dr_call takesD h1 hr (da_cons (de_var 0) da_nil) ⟨g, rfl, hsz, by rw [if_neg hg]⟩) rfl)
abbrev H_check_directions (P : Program) (w : World) (K : PySem.W.Frag) (mg : Str → Option Value) (base : Heap) (CG CD : Addr) : Prop := Has P w K mg base 5 "check_directions" ["graph", "directions"] (R_check_directions CG CD)
def R_arrows (ds : List PyData) (r : Res) : Prop := ∃ n es dd, ds = [eG n es, eT dd] ∧ es.length ≤ 1000 ∧ r = .ok (.list ((arrowsM es dd).map eE))
theorem has_arrows (T : Bi mg) (F : FunAt K mg "arrows" s_arrows) : Has P w K mg base 1 "arrows" ["graph", "directions"] R_arrows := by
  refine has_mk F sc_arrows (fun _ _ _ _ _ _ us hl => match us, hl with | [_, _], _ => rfl) (fun ds r h => ?_) (fun f ds r h cdv A outer s H E hr => ?_)
  · obtain ⟨n, es, dd, rfl, _⟩ := h; rfl
  · obtain ⟨n, es, dd, rfl, hl, rfl⟩ := h
    refine dss_one (ds_ret (de_lc (es.zip dd) (fun q => .tuple [eE q.1, .int q.2]) (fun _ => true) (fun q => eE (arrow q.1 q.2)) [("edge", 2), ("one", 3)] rfl sc_arrows.nd (blkOk_by (N := N_arrows) (sc := defScope s_arrows) (by decide +kernel)) (tg_pair (K := K) (i := 2) (j := 3) (by decide) (by decide)) (fun _ _ _ _ _ => pg_tup rfl (pgs_cons (pg_name (i := 2) sc_arrows.nd rfl (.inl rfl)) (pgs_cons (pg_name (i := 3) sc_arrows.nd rfl (.inl rfl)) pgs_nil))) ?_ ?_ ?_) ?_)
    · rw [← zipD_gen eE .int]
      exact di_zipT T.zip (de_ixT (de_var 0) de_int (at_nat 1)) (de_var 1)
    · rw [List.length_zip]; omega
    · intro i q hq
      refine ⟨_, rfl, fun _ _ _ _ _ => dts_nil, fun _ _ _ _ _ _ => de_if (k := decide (q.2 = 0)) (DT.of (dt_eq (room_u hr) (de_var 3) de_int (Nat.zero_le _)) (eqv_int _ _)) (fun h => DE.of (de_var 2) ?_) fun h => DE.of (de_tup (da_cons (de_ixT (de_var 2) de_int (at_nat 1)) (da_cons (de_ixT (de_var 2) de_int (at_nat 0)) da_nil))) ?_⟩
      · show eE q.1 = eE (arrow q.1 q.2)
        unfold arrow; rw [if_pos (of_decide_eq_true h)]
      · show eE (q.1.2, q.1.1) = eE (arrow q.1 q.2)
        unfold arrow; rw [if_neg (of_decide_eq_false h)]
    · show Res.ok _ = Res.ok _
      rw [arrowsM_zip, List.map_map, List.filter_eq_self.mpr (fun _ _ => rfl)]
      rfl
abbrev H_arrows (P : Program) (w : World) (K : PySem.W.Frag) (mg : Str → Option Value) (base : Heap) : Prop := Has P w K mg base 1 "arrows" ["graph", "directions"] R_arrows
def R_fault_of (ds : List PyData) (r : Res) : Prop := ∃ n es dd, ds = [eG n es, eT dd] ∧ es.length ≤ 100 ∧ r = .ok (minO ((faultsM (arrowsM es dd)).map eF))
theorem has_fault_of (T : Bi mg) (F : FunAt K mg "fault_of" s_fault_of) (h1 : H_arrows P w K mg base) : Has P w K mg base 2 "fault_of" ["graph", "directions"] R_fault_of := by
  refine has_mk F sc_fault_of (fun _ _ _ _ _ _ us hl => match us, hl with | [_, _], _ => rfl) (fun ds r h => ?_) (fun f ds r h cdv A outer s H E hr => ?_)
  · obtain ⟨n, es, dd, rfl, _⟩ := h; rfl
  · obtain ⟨n, es, dd, rfl, hl, rfl⟩ := h
    have hrl := arrowsM_len es dd
    generalize hrows : arrowsM es dd = rows at hrl ⊢
    refine dss_cons (ds_asg 2 (de_call h1 hr (da_cons (de_var 0) (da_cons (de_var 1) da_nil)) ⟨n, es, dd, rfl, by omega, by rw [hrows]⟩) ?_ sc_fault_of.nd)
    refine dss_cons (ds_new 3 da_nil ?_ sc_fault_of.nd)
    refine dss_cons (ds_for (vs := [4, 5]) pass_own rfl (di_list (de_var 2)) (pg_tup rfl (pgs_cons (pg_name (i := 4) sc_fault_of.nd rfl (.inr rfl)) (pgs_cons (pg_name (i := 5) sc_fault_of.nd rfl (.inr rfl)) pgs_nil))) (tg_pair (K := K) (i := 4) (j := 5) (by decide) (by decide))
      (fun i ρ => ∃ s4 s5, ρ = [.d (eG n es), .d (eT dd), .d (.list (rows.map eE)), .l (((rows.take i).flatMap (faultsAt rows)).map eF), s4, s5, .no, .no]) ⟨.no, .no, rfl⟩ ?_ ?_)
    · rintro i x ρ1 hx ⟨s4, s5, rfl⟩
      rw [List.getElem?_map] at hx
      obtain ⟨a, ha, rfl⟩ := Option.map_eq_some_iff.mp hx
      have l1 : ((rows.take i).flatMap (faultsAt rows)).length ≤ 10000 := by
        refine Nat.le_trans (flat_take_len _ rows.length (faultsAt_len rows) _) ?_
        have : (rows.take i).length ≤ 100 := Nat.le_trans (List.length_take_le' _ _) (by omega)
        exact Nat.le_trans (Nat.mul_le_mul this (by omega : rows.length ≤ 100)) (by decide)
      have l2 := faultsAt_len rows a
      refine ⟨_, rfl, dss_one (ds_extend 3 (xs := ((rows.take i).flatMap (faultsAt rows)).map eF) (ys := (faultsAt rows a).map eF) (DE.of (de_lc rows eE (fun q => decide (q.1 = a.2) && !decide ((a.1, q.2) ∈ rows)) (fun q => eF (a.1, a.2, q.2)) [("here", 6), ("last", 7)] rfl sc_fault_of.nd (blkOk_by (N := N_fault_of) (sc := defScope s_fault_of) (by decide +kernel)) (tg_pair (K := K) (i := 6) (j := 7) (by decide) (by decide)) (fun _ _ _ _ _ => pg_tup rfl (pgs_cons (pg_name (i := 6) sc_fault_of.nd rfl (.inl rfl)) (pgs_cons (pg_name (i := 7) sc_fault_of.nd rfl (.inl rfl)) pgs_nil))) (di_list (de_var 2)) (by omega) (fun j q hq => ⟨_, rfl, fun _ _ _ _ _ => dts_one (DW.t (dw_and (DT.of (dt_eq (room_u hr) (de_var 6) (de_var 5) (Nat.zero_le _)) (eqv_int _ _)) fun _ => DW.of (dw_and1 (dt_nin (room_u hr) isL (de_tup (da_cons (de_var 4) (da_cons (de_var 7) da_nil))) (de_var 2) (by show (1 : Nat) ≤ 60; decide))) (congrArg not (any_eE rows (a.1, q.2))))), fun _ _ _ _ _ _ => de_tup (da_cons (de_var 4) (da_cons (de_var 5) (da_cons (de_var 7) da_nil)))⟩)) ?_) ?_ (by rw [List.length_map, List.length_map]; omega))⟩
      · unfold faultsAt; rw [List.map_map]; rfl
      · exact ⟨_, _, by rw [flat_snoc ha, List.map_append]; rfl⟩
    · rintro ρ1 ⟨s4, s5, rfl⟩
      rw [List.length_map, List.take_length]
      refine dss_data 3 (dss_one (ds_ret (de_minO rfl (room_u hr) T.min (de_var 3) (alike_eF _) (depthAll_eF _)) rfl))
abbrev H_fault_of (P : Program) (w : World) (K : PySem.W.Frag) (mg : Str → Option Value) (base : Heap) : Prop := Has P w K mg base 2 "fault_of" ["graph", "directions"] R_fault_of
end
section
variable {P : Program} {w : World} {K : PySem.W.Frag} {mg : Str → Option Value} {base : Heap}
def R_fault (CG CD : Addr) (ds : List PyData) (r : Res) : Prop := ∃ g d, ds = [g, d] ∧ GSz g ∧ TSz d ∧
  ((∃ n es dd, g = eG n es ∧ d = eT dd ∧ GOk n es ∧ DOk es dd ∧ es.length ≤ 100 ∧ r = .ok (minO ((faultsM (arrowsM es dd)).map eF))) ∨ (isGraph g = false ∧ r = .rs CG) ∨ (isGraph g = true ∧ areDirs (nEd g) d = false ∧ r = .rs CD))
theorem cd_ok {CG CD : Addr} {n : Int} {es : List (Int × Int)} {dd : List Int} (hG : GOk n es) (hD : DOk es dd) (hl : es.length ≤ 100) : R_check_directions CG CD [eG n es, eT dd] (.ok .none) :=
  ⟨_, _, rfl, GOk.gsz (by omega), fun xs e => by cases e; rw [List.length_map, hD.1]; omega, by rw [if_pos (isGraph_eG hG), if_pos (by rw [nEd_eG]; exact areDirs_eT hD)]⟩
theorem cd_badG {CG CD : Addr} {g d : PyData} (hg : isGraph g = false) (h1 : GSz g) (h2 : TSz d) : R_check_directions CG CD [g, d] (.rs CG) := ⟨_, _, rfl, h1, h2, by rw [if_neg (by rw [hg]; decide)]⟩
theorem cd_badD {CG CD : Addr} {g d : PyData} (hg : isGraph g = true) (hd : areDirs (nEd g) d = false) (h1 : GSz g) (h2 : TSz d) : R_check_directions CG CD [g, d] (.rs CD) := ⟨_, _, rfl, h1, h2, by rw [if_pos hg, if_neg (by rw [hd]; decide)]⟩
theorem has_fault {CG CD : Addr} (T : Bi mg) (F : FunAt K mg "fault" s_fault) (h1 : H_check_directions P w K mg base CG CD) (h2 : H_fault_of P w K mg base) : Has P w K mg base 6 "fault" ["graph", "directions"] (R_fault CG CD) := by
  refine has_mk F sc_fault (fun _ _ _ _ _ _ us hl => match us, hl with | [_, _], _ => rfl) (fun ds r h => ?_) (fun f ds r h cdv A outer s H E hr => ?_)
  · obtain ⟨g, d, rfl, _⟩ := h; rfl
  · obtain ⟨g, d, rfl, hg, hd, ⟨n, es, dd, rfl, rfl, hG, hD, hl, rfl⟩ | ⟨hb, rfl⟩ | ⟨hb, hb', rfl⟩⟩ := h
    · exact dss_cons (ds_expr (de_call h1 hr (da_cons (de_var 0) (da_cons (de_var 1) da_nil)) (cd_ok hG hD hl)) (dss_one (ds_ret (de_call h2 (hr.mono (by decide)) (da_cons (de_var 0) (da_cons (de_var 1) da_nil)) ⟨n, es, dd, rfl, hl, rfl⟩) rfl)))
    · exact dss_cons (ds_exprR (dr_call takesD h1 hr (da_cons (de_var 0) (da_cons (de_var 1) da_nil)) (cd_badG hb hg hd)) rfl)
    · exact dss_cons (ds_exprR (dr_call takesD h1 hr (da_cons (de_var 0) (da_cons (de_var 1) da_nil)) (cd_badD hb hb' hg hd)) rfl)
def through (es : List (Int × Int)) (dd : List Int) : Bool := (faultsM (arrowsM es dd)).isEmpty
theorem minO_none {l : List (Int × Int × Int)} : PyData.isNo (minO (l.map eF)) = l.isEmpty := by
  cases l with
  | nil => rfl
  | cons a l =>
    have : ∀ (l : List (Int × Int × Int)) (a : Int × Int × Int), ∃ b, PySem.W.minD (eF a) (l.map eF) = eF b := by
      intro l
      induction l with
      | nil => exact fun a => ⟨a, rfl⟩
      | cons c l ih =>
        intro a
        show ∃ b, List.foldl _ (if PySem.W.dataLt (eF c) (eF a) = true then eF c else eF a) (l.map eF) = eF b
        split
        · exact ih c
        · exact ih a
    obtain ⟨b, hb⟩ := this l a
    show PyData.isNo (PySem.W.minD (eF a) (l.map eF)) = false
    rw [hb]; rfl
def R_are_through (CG CD : Addr) (ds : List PyData) (r : Res) : Prop := ∃ g d, ds = [g, d] ∧ GSz g ∧ TSz d ∧
  ((∃ n es dd, g = eG n es ∧ d = eT dd ∧ GOk n es ∧ DOk es dd ∧ es.length ≤ 100 ∧ r = .ok (.bool (through es dd))) ∨ (isGraph g = false ∧ r = .rs CG) ∨ (isGraph g = true ∧ areDirs (nEd g) d = false ∧ r = .rs CD))
theorem has_are_through {CG CD : Addr} (T : Bi mg) (F : FunAt K mg "are_through" s_are_through) (h1 : H_check_directions P w K mg base CG CD) (h2 : H_fault_of P w K mg base) : Has P w K mg base 6 "are_through" ["graph", "directions"] (R_are_through CG CD) := by
  refine has_mk F sc_are_through (fun _ _ _ _ _ _ us hl => match us, hl with | [_, _], _ => rfl) (fun ds r h => ?_) (fun f ds r h cdv A outer s H E hr => ?_)
  · obtain ⟨g, d, rfl, _⟩ := h; rfl
  · obtain ⟨g, d, rfl, hg, hd, ⟨n, es, dd, rfl, rfl, hG, hD, hl, rfl⟩ | ⟨hb, rfl⟩ | ⟨hb, hb', rfl⟩⟩ := h
    · exact dss_cons (ds_expr (de_call h1 hr (da_cons (de_var 0) (da_cons (de_var 1) da_nil)) (cd_ok hG hD hl)) (dss_one (ds_ret (DE.of (de_isN (de_call h2 (hr.mono (by decide)) (da_cons (de_var 0) (da_cons (de_var 1) da_nil)) ⟨n, es, dd, rfl, hl, rfl⟩)) (by rw [minO_none]; rfl)) rfl)))
    · exact dss_cons (ds_exprR (dr_call takesD h1 hr (da_cons (de_var 0) (da_cons (de_var 1) da_nil)) (cd_badG hb hg hd)) rfl)
    · exact dss_cons (ds_exprR (dr_call takesD h1 hr (da_cons (de_var 0) (da_cons (de_var 1) da_nil)) (cd_badD hb hb' hg hd)) rfl)
end
section
variable {P : Program} {w : World} {K : PySem.W.Frag} {mg : Str → Option Value} {base : Heap}
/-! ## the law's own draws -/
def cellM (ns : List Int) (k : Nat) : Int := ns.getD k 0
def R_cell (ns : List Int) (ds : List PyData) (r : Res) : Prop := ∃ k : Nat, ds = [.int (k : Nat)] ∧ r = .ok (.int (cellM ns k))
theorem has_cell (T : Bi mg) (F : FunAt K mg "_law_cell" s__law_cell) : HasS P w K mg base 1 "_law_cell" ["script", "k"] R_cell := by
  refine has_mkS F sc__law_cell (fun _ _ _ _ _ _ us hl => match us, hl with | [_, _], _ => rfl) (fun ns ds r h => ?_) (fun f ns ds r h cdv A outer s H E hr => ?_)
  · obtain ⟨k, rfl, _⟩ := h; rfl
  · obtain ⟨k, rfl, rfl⟩ := h
    refine dss_cons (ds_if (dt_lt (de_var 1) (de_lenScript 0 T.len)) (fun h => ?_) fun h => dss_nil (dss_one (ds_ret de_int ?_)))
    · have hk : k < ns.length := by have := of_decide_eq_true h; omega
      refine dss_one (ds_ret (de_ixScript 0 (j := k) (m := cellM ns k) (de_var 1) ?_) rfl)
      unfold cellM
      rw [List.getD_eq_getElem?_getD, List.getElem?_eq_getElem hk]; rfl
    · have hk : ns.length ≤ k := by have := of_decide_eq_false h; omega
      show Res.ok _ = Res.ok _
      unfold cellM
      rw [List.getD_eq_getElem?_getD, List.getElem?_eq_none hk]; rfl
abbrev H_cell (P : Program) (w : World) (K : PySem.W.Frag) (mg : Str → Option Value) (base : Heap) : Prop := HasS P w K mg base 1 "_law_cell" ["script", "k"] R_cell
/-- sixty draws below 1000 -/
def Draws (l : List Int) : Prop := l.length = 60 ∧ ∀ x ∈ l, 0 ≤ x ∧ x < 1000
def rowStep (ns : List Int) (k : Nat) (st : Int × List Int) (t : Nat) : Int × List Int :=
  if cellM ns k < 1000000000000000000 then ((st.1 * 48271 + 131 * (t : Int) + 7 + cellM ns ((k + 1 + t) % 20)) % 2147483647, st.2 ++ [(st.1 * 48271 + 131 * (t : Int) + 7 + cellM ns ((k + 1 + t) % 20)) % 2147483647 / 11 % 1000])
  else (st.1 / 1000, st.2 ++ [st.1 % 1000])
def rowAt (ns : List Int) (k i : Nat) : Int × List Int := (List.range i).foldl (rowStep ns k) (cellM ns k, [])
def rowM (ns : List Int) (k : Nat) : List Int := (rowAt ns k 60).2
theorem rowAt_succ (ns : List Int) (k i : Nat) : rowAt ns k (i + 1) = rowStep ns k (rowAt ns k i) i := by
  unfold rowAt
  rw [List.range_succ, List.foldl_append]; rfl
theorem rowAt_ok (ns : List Int) (k : Nat) : ∀ i, (rowAt ns k i).2.length = i ∧ ∀ x ∈ (rowAt ns k i).2, 0 ≤ x ∧ x < 1000
  | 0 => ⟨rfl, by simp [rowAt]⟩
  | i + 1 => by
    obtain ⟨h1, h2⟩ := rowAt_ok ns k i
    rw [rowAt_succ]
    unfold rowStep
    split
    · refine ⟨by simp [h1], fun x hx => ?_⟩
      rcases List.mem_append.mp hx with hx | hx
      · exact h2 x hx
      · rw [List.mem_singleton.mp hx]; omega
    · refine ⟨by simp [h1], fun x hx => ?_⟩
      rcases List.mem_append.mp hx with hx | hx
      · exact h2 x hx
      · rw [List.mem_singleton.mp hx]; omega
theorem rowM_ok (ns : List Int) (k : Nat) : Draws (rowM ns k) := rowAt_ok ns k 60
def R_row (ns : List Int) (ds : List PyData) (r : Res) : Prop := ∃ k : Nat, ds = [.int (k : Nat)] ∧ k ≤ 100 ∧ r = .ok (.list ((rowM ns k).map .int))
theorem has_row (T : Bi mg) (F : FunAt K mg "_law_row" s__law_row) (h1 : H_cell P w K mg base) : HasS P w K mg base 2 "_law_row" ["script", "at"] R_row := by
  refine has_mkS F sc__law_row (fun _ _ _ _ _ _ us hl => match us, hl with | [_, _], _ => rfl) (fun ns ds r h => ?_) (fun f ns ds r h cdv A outer s H E hr => ?_)
  · obtain ⟨k, rfl, _⟩ := h; rfl
  · obtain ⟨k, rfl, hk, rfl⟩ := h
    refine dss_cons (ds_asg 2 (de_callS 0 h1 hr (da_cons (de_var 1) da_nil) ⟨k, rfl, rfl⟩) ?_ sc__law_row.nd)
    refine dss_cons (ds_new 3 da_nil ?_ sc__law_row.nd)
    refine dss_cons (ds_for (vs := [4]) pass_own rfl (di_range1 T.range de_int (by decide) (by decide)) (pg_name (i := 4) sc__law_row.nd rfl (.inl rfl)) (tg_name (j := 4) (by decide))
      (fun i ρ => ∃ s4, ρ = [.s K ns, .d (.int (k : Nat)), .d (.int (rowAt ns k i).1), .l ((rowAt ns k i).2.map .int), s4]) ⟨.no, rfl⟩ ?_ ?_)
    · rintro i x ρ1 hx ⟨s4, rfl⟩
      obtain ⟨hi, rfl⟩ := rangeD_at hx
      have hl := (rowAt_ok ns k i).1
      have em : (((k : Nat) : Int) + 1 + (0 + (i : Int))) % 20 = (((k + 1 + i) % 20 : Nat) : Int) := by omega
      have hst := rowAt_succ ns k i
      unfold rowStep at hst
      refine ⟨_, rfl, dss_one (ds_if (dt_lt (de_callS 0 h1 hr (da_cons (de_var 1) da_nil) ⟨k, rfl, rfl⟩) (de_pow de_int de_int ⟨by decide, by decide, by decide⟩)) (fun h => ?_) fun h => ?_)⟩
      · have h' : cellM ns k < 1000000000000000000 := of_decide_eq_true h
        rw [if_pos h'] at hst
        have e : (rowAt ns k i).1 * 48271 + 131 * (0 + (i : Int)) + 7 + cellM ns ((k + 1 + i) % 20) = (rowAt ns k i).1 * 48271 + 131 * (i : Int) + 7 + cellM ns ((k + 1 + i) % 20) := by omega
        refine dss_cons (ds_asg 2 (DE.of (de_mod (de_add (de_add (de_add (de_mul (de_var 2) de_int (.inr ⟨by decide, by decide⟩)) (de_mul de_int (de_var 4) (.inl ⟨by decide, by decide⟩))) de_int) (de_callS 0 h1 hr (da_cons (DE.of (de_mod (de_add (de_add (de_var 1) de_int) (de_var 4)) de_int (by decide)) (congrArg PyData.int em)) da_nil) ⟨_, rfl, rfl⟩)) de_int (by decide)) (y := .int (rowAt ns k (i + 1)).1) (by rw [hst, e])) ?_ sc__law_row.nd)
        refine dss_one (ds_append 3 (xs := (rowAt ns k i).2.map .int) (de_mod (de_fdiv (de_var 2) de_int (by decide) (by decide)) de_int (by decide)) ⟨.d (.int (0 + (i : Int))), ?_⟩ (by rw [List.length_map]; omega))
        rw [hst]
        show [Sl.s K ns, _, _, Sl.l (_ ++ [_]), _] = _
        rw [List.map_append]
        rfl
      · have h' : ¬ cellM ns k < 1000000000000000000 := of_decide_eq_false h
        rw [if_neg h'] at hst
        refine dss_cons (ds_append 3 (xs := (rowAt ns k i).2.map .int) (de_mod (de_var 2) de_int (by decide)) ?_ (by rw [List.length_map]; omega))
        refine dss_one (ds_asg 2 (de_fdiv (de_var 2) de_int (by decide) (by decide)) ⟨.d (.int (0 + (i : Int))), ?_⟩ sc__law_row.nd)
        rw [hst]
        show [Sl.s K ns, _, _, Sl.l (_ ++ [_]), _] = _
        rw [List.map_append]
        rfl
    · rintro ρ1 ⟨s4, rfl⟩
      rw [rangeD_len]
      refine dss_one (ds_retL 3 ?_)
      rfl
end
/-! ## the law's graph -/
def drw (l : List Int) (i : Int) : Int := l.getD i.toNat 0
theorem drw_at {l : List Int} (h : Draws l) {i : Int} (h0 : 0 ≤ i) (h1 : i < 60) : L2.atI (l.map PyData.int) i = some (.int (drw l i)) := by
  have e : i = ((i.toNat : Nat) : Int) := by omega
  rw [e]
  refine atI_nat ?_
  have hl : i.toNat < l.length := by have := h.1; omega
  rw [List.getElem?_map, List.getElem?_eq_getElem hl]
  unfold drw
  rw [List.getD_eq_getElem?_getD]
  have e2 : ((i.toNat : Nat) : Int).toNat = i.toNat := by omega
  rw [e2, List.getElem?_eq_getElem hl]; rfl
theorem drw_ok {l : List Int} (h : Draws l) {i : Int} (h0 : 0 ≤ i) (h1 : i < 60) : 0 ≤ drw l i ∧ drw l i < 1000 := by
  have hl : i.toNat < l.length := by have := h.1; omega
  unfold drw
  rw [List.getD_eq_getElem?_getD, List.getElem?_eq_getElem hl]
  exact h.2 _ (List.getElem_mem hl)
def pairsFrom (n : Nat) (i : Nat) : List (Int × Int) := (List.range (n - (i + 1))).map fun j : Nat => ((i : Int), (i : Int) + 1 + (j : Int))
def pairsM (n : Nat) : List (Int × Int) := (List.range n).flatMap (pairsFrom n)
instance : DecidablePred (fun es : List (Int × Int) => es.Pairwise ltE) := fun es => inferInstance
theorem pairs_ok : ∀ n : Nat, n ≤ 6 → (pairsM n).Pairwise ltE ∧ (∀ e ∈ pairsM n, 0 ≤ e.1 ∧ e.1 < e.2 ∧ e.2 < (n : Int)) ∧ (pairsM n).length ≤ 15
  | 0, _ => by decide
  | 1, _ => by decide
  | 2, _ => by decide
  | 3, _ => by decide
  | 4, _ => by decide
  | 5, _ => by decide
  | 6, _ => by decide
  | n + 7, h => by omega
def spotOf (l : List Int) (p : Int) : Int × Int := (drw l (20 + p) % 7, drw l (30 + p) % 7)
def crosses (l : List Int) (e : Int × Int) : Bool := decide (0 < ((spotOf l e.1).1 - (spotOf l e.2).1) * ((spotOf l e.1).2 - (spotOf l e.2).2))
def leE (a b : Int × Int) : Bool := !decide (ltE b a)
def edges1 (l : List Int) (n : Nat) : List (Int × Int) := (pairsM n).filter fun p => decide (drw l (2 + ((pairsM n).idxOf p : Nat)) % (2 + drw l 1 % 2) = 0)
def edges2 (l : List Int) (n : Nat) : List (Int × Int) := (pairsM n).filter (crosses l)
def pairOf (l : List Int) (n : Nat) : Int × Int := (pairsM n).getD (drw l 40 % (pairsM n).length).toNat (0, 0)
def edges3 (l : List Int) (n : Nat) : List (Int × Int) := ((edges2 l n).filter (fun e => !decide (e = pairOf l n)) ++ (if pairOf l n ∈ edges2 l n then [] else [pairOf l n])).mergeSort leE
def edgesM (l : List Int) (n : Nat) : List (Int × Int) :=
  if drw l 1 % 3 = 0 then edges1 l n else if drw l 1 % 3 = 1 ∧ pairsM n ≠ [] then edges3 l n else edges2 l n
def pointsM (l : List Int) (most : Int) : Int := 1 + drw l 0 % most
theorem leE_total (a b : Int × Int) : (leE a b || leE b a) = true := by
  unfold leE
  by_cases h : ltE b a
  · have : ¬ ltE a b := by unfold ltE at *; omega
    simp [this]
  · simp [h]
theorem leE_trans (a b c : Int × Int) (h1 : leE a b = true) (h2 : leE b c = true) : leE a c = true := by
  have e1 : ¬ ltE b a := by simpa [leE] using h1
  have e2 : ¬ ltE c b := by simpa [leE] using h2
  have e3 : ¬ ltE c a := by unfold ltE at *; omega
  simpa [leE] using e3
theorem sort_asc {l : List (Int × Int)} (hn : l.Nodup) : (l.mergeSort leE).Pairwise ltE := by
  have h1 : (l.mergeSort leE).Pairwise (fun a b => leE a b = true) := List.pairwise_mergeSort (fun a b c => leE_trans a b c) (fun a b => leE_total a b) l
  have h2 : (l.mergeSort leE).Nodup := (List.mergeSort_perm l leE).nodup_iff.mpr hn
  have h3 := h1.and h2
  refine h3.imp fun {a b} h => ?_
  obtain ⟨h, ne⟩ := h
  unfold leE at h
  simp only [Bool.not_eq_true', decide_eq_false_iff_not] at h
  have : a.1 ≠ b.1 ∨ a.2 ≠ b.2 := by
    by_cases q : a.1 = b.1
    · exact .inr fun z => ne (Prod.ext q z)
    · exact .inl q
  unfold ltE at *
  omega
theorem asc_nodup {es : List (Int × Int)} (h : es.Pairwise ltE) : es.Nodup := h.imp fun {a b} h e => by
  subst e
  unfold ltE at h
  omega
theorem edgesM_ok (l : List Int) (n : Nat) (hn : n ≤ 6) : (edgesM l n).Pairwise ltE ∧ (∀ e ∈ edgesM l n, 0 ≤ e.1 ∧ e.1 < e.2 ∧ e.2 < (n : Int)) ∧ (edgesM l n).length ≤ 15 := by
  obtain ⟨h1, h2, h3⟩ := pairs_ok n hn
  have filt : ∀ p : Int × Int → Bool, ((pairsM n).filter p).Pairwise ltE ∧ (∀ e ∈ (pairsM n).filter p, 0 ≤ e.1 ∧ e.1 < e.2 ∧ e.2 < (n : Int)) ∧ ((pairsM n).filter p).length ≤ 15 := fun p =>
    ⟨h1.filter p, fun e he => h2 e ((List.mem_filter.mp he).1), Nat.le_trans (List.length_filter_le _ _) h3⟩
  unfold edgesM
  split
  · exact filt _
  · split
    · rename_i hc
      have hp : pairOf l n ∈ pairsM n := by
        unfold pairOf
        have hl : 0 < (pairsM n).length := List.length_pos_iff.mpr hc.2
        have hi : (drw l 40 % ((pairsM n).length : Int)).toNat < (pairsM n).length := by
          have a1 : 0 ≤ drw l 40 % ((pairsM n).length : Int) := Int.emod_nonneg _ (by omega)
          have a2 : drw l 40 % ((pairsM n).length : Int) < ((pairsM n).length : Int) := Int.emod_lt_of_pos _ (by omega)
          omega
        rw [List.getD_eq_getElem?_getD, List.getElem?_eq_getElem hi]
        exact List.getElem_mem hi
      have nd : ((edges2 l n).filter (fun e => !decide (e = pairOf l n)) ++ (if pairOf l n ∈ edges2 l n then [] else [pairOf l n])).Nodup := by
        have n0 : ((edges2 l n).filter (fun e => !decide (e = pairOf l n))).Nodup := (asc_nodup (filt (crosses l)).1).filter _
        split
        · rw [List.append_nil]; exact n0
        · refine List.nodup_append.mpr ⟨n0, by simp, fun a ha b hb => ?_⟩
          have := (List.mem_filter.mp ha).2
          rw [List.mem_singleton.mp hb]
          intro e
          rw [e] at this
          simp at this
      have mem : ∀ e ∈ (edges2 l n).filter (fun e => !decide (e = pairOf l n)) ++ (if pairOf l n ∈ edges2 l n then [] else [pairOf l n]), e ∈ pairsM n := by
        intro e he
        rcases List.mem_append.mp he with he | he
        · exact (List.mem_filter.mp (List.mem_filter.mp he).1).1
        · split at he
          · cases he
          · rw [List.mem_singleton.mp he]; exact hp
      have perm := List.mergeSort_perm ((edges2 l n).filter (fun e => !decide (e = pairOf l n)) ++ (if pairOf l n ∈ edges2 l n then [] else [pairOf l n])) leE
      refine ⟨sort_asc nd, fun e he => h2 e (mem e (perm.mem_iff.mp he)), ?_⟩
      unfold edges3
      rw [perm.length_eq]
      exact Nat.le_trans (List.Nodup.length_le_of_subset nd mem) h3
    · exact filt _
theorem graphM_ok {l : List Int} (h : Draws l) {most : Int} (h1 : 1 ≤ most) (h2 : most ≤ 6) : GOk (pointsM l most) (edgesM l (pointsM l most).toNat) ∧ (edgesM l (pointsM l most).toNat).length ≤ 15 ∧ pointsM l most ≤ most := by
  have h0 := (drw_ok h (i := 0) (by decide) (by decide)).1
  have a1 : 0 ≤ drw l 0 % most := Int.emod_nonneg _ (by omega)
  have a2 : drw l 0 % most < most := Int.emod_lt_of_pos _ (by omega)
  have b1 : 1 ≤ pointsM l most := by unfold pointsM; omega
  have b2 : pointsM l most ≤ most := by unfold pointsM; omega
  obtain ⟨q1, q2, q3⟩ := edgesM_ok l (pointsM l most).toNat (by omega)
  exact ⟨⟨b1, by omega, fun e he => by have := q2 e he; omega, q1⟩, q3, b2⟩

section
variable {P : Program} {w : World} {K : PySem.W.Frag} {mg : Str → Option Value} {base : Heap}
abbrev H_row (P : Program) (w : World) (K : PySem.W.Frag) (mg : Str → Option Value) (base : Heap) : Prop := HasS P w K mg base 2 "_law_row" ["script", "at"] R_row
def R_pairs (ds : List PyData) (r : Res) : Prop := ∃ n : Nat, ds = [.int (n : Nat)] ∧ n ≤ 6 ∧ r = .ok (.list ((pairsM n).map eE))
theorem has_pairs (T : Bi mg) (F : FunAt K mg "_law_pairs" s__law_pairs) : Has P w K mg base 1 "_law_pairs" ["points"] R_pairs := by
  refine has_mk F sc__law_pairs (fun _ _ _ _ _ _ us hl => match us, hl with | [_], _ => rfl) (fun ds r h => ?_) (fun f ds r h cdv A outer s H E hr => ?_)
  · obtain ⟨n, rfl, _⟩ := h; rfl
  · obtain ⟨n, rfl, hn, rfl⟩ := h
    refine dss_cons (ds_asg 1 (de_lst da_nil) ?_ sc__law_pairs.nd)
    refine dss_cons (ds_for (vs := [2]) pass_own rfl (di_range1 T.range (de_var 0) (by omega) (by omega)) (pg_name (i := 2) sc__law_pairs.nd rfl (.inr rfl)) (tg_name (j := 2) (by decide))
      (fun i ρ => ∃ s2, ρ = [.d (.int (n : Nat)), .d (.list (((List.range i).flatMap (pairsFrom n)).map eE)), s2, .no]) ⟨.no, rfl⟩ ?_ ?_)
    · rintro i x ρ1 hx ⟨s2, rfl⟩
      obtain ⟨hi, rfl⟩ := rangeD_at hx
      have hi' : i < n := by omega
      have l1 : ((List.range i).flatMap (pairsFrom n)).length ≤ 100 := by
        refine Nat.le_trans (flat_take_len _ 6 (fun a => ?_) _) ?_
        · unfold pairsFrom; rw [List.length_map, List.length_range]; omega
        · rw [List.length_range]; omega
      have l2 : (pairsFrom n i).length ≤ 6 := by unfold pairsFrom; rw [List.length_map, List.length_range]; omega
      refine ⟨_, rfl, dss_one (ds_asg 1 (de_catL (de_var 1) (ys := (pairsFrom n i).map eE) (DE.of (de_lc (List.range (n - (i + 1))) (fun j : Nat => .int ((0 + (i : Int)) + 1 + (j : Int))) (fun _ => true) (fun j : Nat => eE ((i : Int), (i : Int) + 1 + (j : Int))) [("other", 3)] rfl sc__law_pairs.nd (blkOk_by (N := N__law_pairs) (sc := defScope s__law_pairs) (by decide +kernel)) (tg_name (j := 3) (by decide)) (fun _ _ _ _ _ => pg_name (i := 3) sc__law_pairs.nd rfl (.inl rfl)) ?_ ?_ (fun j q hq => ⟨_, rfl, fun _ _ _ _ _ => dts_nil, fun _ _ _ _ _ _ => DE.of (de_tup (da_cons (de_var 2) (da_cons (de_var 3) da_nil))) ?_⟩)) ?_) (by rw [List.length_map, List.length_map]; omega)) ⟨.d (.int (0 + (i : Int))), ?_⟩ sc__law_pairs.nd)⟩
      · have e : (((n : Nat) : Int) - (0 + (i : Int) + 1)).toNat = n - (i + 1) := by omega
        rw [← e]
        exact di_range2 T.range (de_add (de_var 2) de_int) (de_var 0) (by omega) (by omega) (by omega) (by omega)
      · rw [List.length_range]; omega
      · show PyData.tuple [.int (0 + (i : Int)), .int (0 + (i : Int) + 1 + (q : Int))] = _
        rw [Int.zero_add]; rfl
      · rw [List.filter_eq_self.mpr (fun _ _ => rfl)]
        unfold pairsFrom
        rw [List.map_map]; rfl
      · rw [List.range_succ, List.flatMap_append, List.flatMap_singleton, List.map_append]; rfl
    · rintro ρ1 ⟨s2, rfl⟩
      rw [rangeD_len]
      refine dss_one (ds_ret (de_var 1) ?_)
      rfl
abbrev H_pairs (P : Program) (w : World) (K : PySem.W.Frag) (mg : Str → Option Value) (base : Heap) : Prop := Has P w K mg base 1 "_law_pairs" ["points"] R_pairs

theorem eqv_nil {α : Type} (f : α → PyData) (l : List α) : PyData.eqv (.list (l.map f)) (.list []) = l.isEmpty := by cases l <;> rfl
theorem alike_eE (l : List (Int × Int)) : PySem.W.AllAlike (l.map eE) := fun x hx y hy => by
  obtain ⟨a, _, rfl⟩ := List.mem_map.mp hx
  obtain ⟨b, _, rfl⟩ := List.mem_map.mp hy
  rfl
theorem sortable_eE (l : List (Int × Int)) : PySem.W.Sortable (l.map eE) := .inl fun x hx => by
  obtain ⟨a, _, rfl⟩ := List.mem_map.mp hx
  exact ⟨_, _, rfl⟩
theorem depth_eEs (l : List (Int × Int)) : ∀ d ∈ l.map eE, d.depth ≤ 60 := fun x hx => by
  obtain ⟨a, _, rfl⟩ := List.mem_map.mp hx
  exact depth_eE a
theorem sortD_eE (l : List (Int × Int)) : sortD (l.map eE) = (l.mergeSort leE).map eE := by
  unfold sortD
  rw [PySem.W.sort_maps (r := leE) (s := leD) eE]
  intro a _ b _
  unfold leE leD
  rw [dataLt_eE]
theorem shaped_eE (e : Int × Int) : SeqAt.shaped (eE e) = true := rfl
theorem canLay_eEs : ∀ l : List (Int × Int), PyData.canLayAll0 (l.map eE) = true
  | [] => rfl
  | a :: l => by
    show ((eE a).canLay0 && PyData.canLayAll0 (l.map eE)) = true
    rw [canLay_eEs l]; rfl
theorem shaped_eEs (l : List (Int × Int)) : SeqAt.shaped (.list (l.map eE)) = true := by
  show (PyData.canLayAll0 (l.map eE) && decide (PyData.depth (.list (l.map eE)) ≤ 64)) = true
  rw [canLay_eEs, Bool.true_and, decide_eq_true_eq]
  show PyData.depthAll (l.map eE) + 1 ≤ 64
  have := depthAll_map eE 1 (fun a => Nat.le_refl _) l
  omega
theorem idx_at {l : List (Int × Int)} {p : Int × Int} (h : p ∈ l) : (l.map eE)[l.idxOf p]? = some (eE p) := by
  have hi : l.idxOf p < l.length := List.idxOf_lt_length_iff.mpr h
  rw [List.getElem?_map, List.getElem?_eq_getElem hi, List.getElem_idxOf hi]; rfl
theorem idx_lt : ∀ (l : List (Int × Int)) (p : Int × Int) (q : Nat), q < l.idxOf p → l[q]? = some p → False
  | [], _, _, _, h => by simp at h
  | a :: l, p, q, hq, h => by
    rw [List.idxOf_cons] at hq
    by_cases ha : a = p
    · have : (a == p) = true := by simpa using ha
      rw [this] at hq
      simp at hq
    · have : (a == p) = false := by simpa using ha
      rw [this] at hq
      cases q with
      | zero => simp at h; exact ha h
      | succ q => exact idx_lt l p q (by simpa using hq) (by simpa using h)
theorem idx_no {l : List (Int × Int)} {p : Int × Int} (q : Nat) (z : PyData) (h : q < l.idxOf p) (hz : (l.map eE)[q]? = some z) : PyData.eqv z (eE p) = false := by
  rw [List.getElem?_map] at hz
  obtain ⟨a, ha, rfl⟩ := Option.map_eq_some_iff.mp hz
  rw [eqv_eE, decide_eq_false_iff_not]
  rintro rfl
  exact idx_lt l _ q h ha
def R_graph (ns : List Int) (ds : List PyData) (r : Res) : Prop := ∃ (k : Nat) (most : Int), ds = [.int (k : Nat), .int most] ∧ k ≤ 100 ∧ 1 ≤ most ∧ most ≤ 6 ∧ r = .ok (eG (pointsM (rowM ns k) most) (edgesM (rowM ns k) (pointsM (rowM ns k) most).toNat))
theorem has_graph (T : Bi mg) (F : FunAt K mg "_law_graph" s__law_graph) (h1 : H_row P w K mg base) (h2 : H_pairs P w K mg base) : HasS P w K mg base 3 "_law_graph" ["script", "at", "most"] R_graph := by
  refine has_mkS F sc__law_graph (fun _ _ _ _ _ _ us hl => match us, hl with | [_, _, _], _ => rfl) (fun ns ds r h => ?_) (fun f ns ds r h cdv A outer s H E hr => ?_)
  · obtain ⟨k, most, rfl, _⟩ := h; rfl
  · obtain ⟨k, most, rfl, hk, hm1, hm6, rfl⟩ := h
    have hD := rowM_ok ns k
    generalize hl : rowM ns k = l at hD ⊢
    obtain ⟨hG, hE15, hPm⟩ := graphM_ok hD hm1 hm6
    have hP1 := hG.lo
    have hu := room_u hr
    generalize hn : (pointsM l most).toNat = n at hG hE15 ⊢
    have hn' : pointsM l most = (n : Int) := by omega
    have hp0 : 1 + drw l 0 % most = (n : Int) := hn'
    rw [hn'] at hG hP1 hPm ⊢
    have hn6 : n ≤ 6 := by omega
    obtain ⟨ps1, ps2, ps3⟩ := pairs_ok n hn6
    have d1 := drw_ok hD (i := 1) (by decide) (by decide)
    -- draws, points, pairs
    refine dss_cons (ds_asg 3 (de_callS 0 h1 hr (da_cons (de_var 1) da_nil) ⟨k, rfl, hk, rfl⟩) ?_ sc__law_graph.nd)
    rw [hl]
    refine dss_cons (ds_asg 4 (DE.of (de_add de_int (de_mod (de_ixL (de_var 3) de_int (drw_at hD (i := 0) (by decide) (by decide))) (de_var 2) (by omega))) (y := .int (n : Int)) (congrArg PyData.int hp0)) ?_ sc__law_graph.nd)
    refine dss_cons (ds_asg 5 (de_call h2 (hr.mono (by decide)) (da_cons (de_var 4) da_nil) ⟨n, rfl, hn6, rfl⟩) ?_ sc__law_graph.nd)
    -- the first kind
    refine dss_cons (ds_if (k := decide (drw l 1 % 3 = 0)) (DT.of (dt_eq hu (de_mod (de_ixL (de_var 3) de_int (drw_at hD (i := 1) (by decide) (by decide))) de_int (by decide)) de_int (Nat.zero_le _)) (eqv_int _ _)) (fun hc => ?_) fun hc => dss_nil ?_)
    · have hc' := of_decide_eq_true hc
      refine dss_one (ds_ret (de_tup (da_cons (de_var 4) (da_cons (de_tuple T.tuple (de_lc (pairsM n) eE (fun p => decide (drw l (2 + ((pairsM n).idxOf p : Nat)) % (2 + drw l 1 % 2) = 0)) eE [("pair", 6)] rfl sc__law_graph.nd (blkOk_by (N := N__law_graph) (sc := defScope s__law_graph) (by decide +kernel)) (tg_name (j := 6) (by decide)) (fun _ _ _ _ _ => pg_name (i := 6) sc__law_graph.nd rfl (.inl rfl)) (di_list (de_var 5)) (by omega) (fun i p hp => ⟨_, rfl, fun _ _ _ _ _ => dts_one (DT.of (dt_eq hu (de_mod (de_ixL (de_var 3) (de_add de_int (de_index (room_u65 hr) (de_var 5) (de_var 6) (shaped_eEs _) (shaped_eE _) (idx_at (List.mem_of_getElem? hp)) (by rw [eqv_eE]; exact decide_eq_true rfl) idx_no)) (drw_at hD (by omega) ?_)) (de_add de_int (de_mod (de_ixL (de_var 3) de_int (drw_at hD (i := 1) (by decide) (by decide))) de_int (by decide))) ?_) de_int (Nat.zero_le _)) (eqv_int _ _)), fun _ _ _ _ _ _ => de_var 6⟩))) da_nil))) ?_)
      · have := List.idxOf_lt_length_iff.mpr (List.mem_of_getElem? hp)
        omega
      · have := Int.emod_nonneg (drw l 1) (show (2 : Int) ≠ 0 by decide)
        omega
      · show Res.ok _ = Res.ok _
        have : edgesM l n = edges1 l n := if_pos hc'
        rw [this]
        rfl
    · have hc' := of_decide_eq_false hc
      have dsp : ∀ p : Int, 0 ≤ p → p < 6 → (0 ≤ drw l (20 + p) % 7 ∧ drw l (20 + p) % 7 < 7) ∧ (0 ≤ drw l (30 + p) % 7 ∧ drw l (30 + p) % 7 < 7) := fun p _ _ => by omega
      -- spots
      refine dss_cons (ds_asgLc (List.range n) (fun p : Nat => .int (0 + (p : Int))) (fun _ => true) (fun p : Nat => eE (spotOf l (p : Int))) 8 [("point", 7)] rfl sc__law_graph.nd (blkOk_by (N := N__law_graph) (sc := defScope s__law_graph) (by decide +kernel)) (tg_name (j := 7) (by decide)) (fun _ _ _ _ _ => pg_name (i := 7) sc__law_graph.nd rfl (.inl rfl)) ?_ ?_ ?_ ?_)
      · show DI _ _ _ _ (rangeD 0 ((n : Nat) : Int).toNat)
        exact di_range1 T.range (de_var 4) (by omega) (by omega)
      · rw [List.length_range]; omega
      · intro i p hp
        have hpn : p < n := by
          have := List.mem_of_getElem? hp
          simpa using this
        refine ⟨_, rfl, fun _ _ _ _ _ => dts_nil, fun _ _ _ _ _ _ => DE.of (de_tup (da_cons (de_mod (de_ixL (de_var 3) (de_add de_int (de_var 7)) (drw_at hD (by omega) (by omega))) de_int (by decide)) (da_cons (de_mod (de_ixL (de_var 3) (de_add de_int (de_var 7)) (drw_at hD (by omega) (by omega))) de_int (by decide)) da_nil))) ?_⟩
        rw [Int.zero_add]; rfl
      · rw [List.filter_eq_self.mpr (fun _ _ => rfl)]
        refine dss_cons (ds_new 9 da_nil ?_ sc__law_graph.nd)
        refine dss_cons (ds_for (vs := [10, 11]) pass_own rfl (di_list (de_var 5)) (pg_tup rfl (pgs_cons (pg_name (i := 10) sc__law_graph.nd rfl (.inl rfl)) (pgs_cons (pg_name (i := 11) sc__law_graph.nd rfl (.inl rfl)) pgs_nil))) (tg_pair (K := K) (i := 10) (j := 11) (by decide) (by decide))
          (fun i ρ => ∃ s10 s11 s12 s13, ρ = [.s K ns, .d (.int (k : Nat)), .d (.int most), .d (.list (l.map .int)), .d (.int (n : Int)), .d (.list ((pairsM n).map eE)), .no, .no, .d (.list ((List.range n).map fun p : Nat => eE (spotOf l (p : Int)))), .l ((((pairsM n).take i).filter (crosses l)).map eE), s10, s11, s12, s13, .no]) ⟨.no, .no, .no, .no, rfl⟩ ?_ ?_)
        · rintro i x ρ1 hx ⟨s10, s11, s12, s13, rfl⟩
          rw [List.getElem?_map] at hx
          obtain ⟨e, he, rfl⟩ := Option.map_eq_some_iff.mp hx
          obtain ⟨e1, e2, e3⟩ := ps2 e (List.mem_of_getElem? he)
          have spot_at : ∀ p : Int, 0 ≤ p → p < (n : Int) → L2.atI ((List.range n).map fun p : Nat => eE (spotOf l (p : Int))) p = some (eE (spotOf l p)) := fun p hp0 hp1 => by
            have ep : p = ((p.toNat : Nat) : Int) := by omega
            rw [ep]
            refine atI_nat ?_
            rw [List.getElem?_map, List.getElem?_range (by omega)]; rfl
          have b1 := dsp e.1 (by omega) (by omega)
          have b2 := dsp e.2 (by omega) (by omega)
          have lt15 : (((pairsM n).take i).filter (crosses l)).length ≤ 15 := Nat.le_trans (List.length_filter_le _ _) (Nat.le_trans (List.length_take_le' _ _) ps3)
          refine ⟨_, rfl, dss_cons (ds_par 12 13 (de_ixL (de_var 8) (de_var 10) (spot_at e.1 (by omega) (by omega))) (de_ixL (de_var 8) (de_var 11) (spot_at e.2 (by omega) (by omega))) ?_ rfl sc__law_graph.nd)⟩
          refine dss_one (ds_if (k := crosses l e) (dt_gt (de_mul (de_sub (de_ixT (de_var 12) de_int (at_nat 0)) (de_ixT (de_var 13) de_int (at_nat 0))) (de_sub (de_ixT (de_var 12) de_int (at_nat 1)) (de_ixT (de_var 13) de_int (at_nat 1))) (.inl ⟨?_, ?_⟩)) de_int) (fun h => dss_one (ds_append 9 (xs := (((pairsM n).take i).filter (crosses l)).map eE) (de_tup (da_cons (de_var 10) (da_cons (de_var 11) da_nil))) ⟨.d (.int e.1), .d (.int e.2), .d (eE (spotOf l e.1)), .d (eE (spotOf l e.2)), ?_⟩ (by rw [List.length_map]; omega))) fun h => dss_nil ⟨.d (.int e.1), .d (.int e.2), .d (eE (spotOf l e.1)), .d (eE (spotOf l e.2)), ?_⟩)
          · show -(2 ^ 64) < drw l (20 + e.1) % 7 - drw l (20 + e.2) % 7
            omega
          · show drw l (20 + e.1) % 7 - drw l (20 + e.2) % 7 < 2 ^ 64
            omega
          · rw [take_snoc he, filter_snoc, if_neg (by rw [h]; decide), List.append_nil]; rfl
          · rw [take_snoc he, filter_snoc, if_pos h, List.map_append]; rfl
        · rintro ρ1 ⟨s10, s11, s12, s13, rfl⟩
          rw [List.length_map, List.take_length]
          refine dss_data 9 (dss_cons (ds_if (k := decide (drw l 1 % 3 = 1) && !(pairsM n).isEmpty) (DW.t (dw_and (DT.of (dt_eq hu (de_mod (de_ixL (de_var 3) de_int (drw_at hD (i := 1) (by decide) (by decide))) de_int (by decide)) de_int (Nat.zero_le _)) (eqv_int _ _)) fun _ => DW.of (dw_and1 (dt_ne hu (de_var 5) (de_lst da_nil) (Nat.le_trans (Nat.min_le_right _ _) (by show (1 : Nat) ≤ 60; decide)))) (congrArg not (eqv_nil eE _)))) (fun h => ?_) fun h => dss_nil ?_))
          · rw [Bool.and_eq_true] at h
            obtain ⟨h1', h2'⟩ := h
            have hne : pairsM n ≠ [] := fun z => by rw [z] at h2'; cases h2'
            have hlen : 0 < (pairsM n).length := List.length_pos_iff.mpr hne
            have d40 := drw_ok hD (i := 40) (by decide) (by decide)
            have a1 : 0 ≤ drw l 40 % ((pairsM n).length : Int) := Int.emod_nonneg _ (by omega)
            have a2 : drw l 40 % ((pairsM n).length : Int) < ((pairsM n).length : Int) := Int.emod_lt_of_pos _ (by omega)
            have hpair : L2.atI ((pairsM n).map eE) (drw l 40 % (((pairsM n).map eE).length : Int)) = some (eE (pairOf l n)) := by
              rw [List.length_map]
              have ep : drw l 40 % ((pairsM n).length : Int) = (((drw l 40 % ((pairsM n).length : Int)).toNat : Nat) : Int) := by omega
              rw [ep]
              refine atI_nat ?_
              have hi : (drw l 40 % ((pairsM n).length : Int)).toNat < (pairsM n).length := by omega
              rw [List.getElem?_map, List.getElem?_eq_getElem hi]
              unfold pairOf
              rw [List.getD_eq_getElem?_getD, List.getElem?_eq_getElem hi]; rfl
            have le2 : (edges2 l n).length ≤ 15 := Nat.le_trans (List.length_filter_le _ _) ps3
            have he3 : edgesM l n = edges3 l n := by
              unfold edgesM
              rw [if_neg hc', if_pos ⟨of_decide_eq_true h1', hne⟩]
            refine dss_cons (ds_asg 6 (de_ixL (de_var 5) (de_mod (de_ixL (de_var 3) de_int (drw_at hD (i := 40) (by decide) (by decide))) (de_len T.len isL (de_var 5)) (by rw [List.length_map]; omega)) hpair) ?_ sc__law_graph.nd)
            refine dss_one (ds_asg 9 (de_sorted hu T.sorted (ds := ((edges2 l n).filter (fun e => !decide (e = pairOf l n)) ++ (if pairOf l n ∈ edges2 l n then [] else [pairOf l n])).map eE) (DE.of (de_catL (de_lc (edges2 l n) eE (fun e => !decide (e = pairOf l n)) eE [("edge", 14)] rfl sc__law_graph.nd (blkOk_by (N := N__law_graph) (sc := defScope s__law_graph) (by decide +kernel)) (tg_name (j := 14) (by decide)) (fun _ _ _ _ _ => pg_name (i := 14) sc__law_graph.nd rfl (.inl rfl)) (di_list (de_var 9)) (by omega) (fun i p hp => ⟨_, rfl, fun _ _ _ _ _ => dts_one (DT.of (dt_ne hu (de_var 14) (de_var 6) (Nat.le_trans (Nat.min_le_right _ _) (depth_eE _))) (congrArg not (eqv_eE _ _))), fun _ _ _ _ _ _ => de_var 14⟩)) (de_repL (de_lst (da_cons (de_var 6) da_nil)) (de_intB T.int (de_nin hu isL (de_var 6) (de_var 9) (depth_eE _))) (by split <;> decide) (by split <;> decide) (by exact Nat.le_of_ble_eq_true rfl)) ?_) ?_) (alike_eE _) (sortable_eE _) (depth_eEs _)) ?_ sc__law_graph.nd)
            · rw [List.length_map]
              have x1 : ((edges2 l n).filter (fun e => !decide (e = pairOf l n))).length ≤ 15 := Nat.le_trans (List.length_filter_le _ _) le2
              have x2 : (List.replicate (Int.toNat (if (!((edges2 l n).map eE).any fun z => PyData.eqv z (eE (pairOf l n))) = true then 1 else 0)) [eE (pairOf l n)]).flatten.length ≤ 1 := by split <;> simp
              exact Nat.le_trans (Nat.add_le_add x1 x2) (by decide)
            · show PyData.list _ = PyData.list _
              rw [any_eE, List.map_append]
              refine congrArg PyData.list (congrArg _ ?_)
              by_cases hm : pairOf l n ∈ edges2 l n
              · rw [if_pos hm, decide_eq_true (show pairOf l n ∈ (pairsM n).filter (crosses l) from hm)]; rfl
              · rw [if_neg hm, decide_eq_false (show ¬ pairOf l n ∈ (pairsM n).filter (crosses l) from hm)]; rfl
            · refine dss_one (ds_ret (de_tup (da_cons (de_var 4) (da_cons (de_tuple T.tuple (de_var 9)) da_nil))) ?_)
              show Res.ok _ = Res.ok _
              rw [he3, sortD_eE]
              rfl
          · have he2 : edgesM l n = edges2 l n := by
              unfold edgesM
              rw [if_neg hc', if_neg]
              rintro ⟨z1, z2⟩
              rw [decide_eq_true z1, Bool.true_and] at h
              cases hp : pairsM n with
              | nil => exact z2 hp
              | cons a r => rw [hp] at h; cases h
            refine dss_one (ds_ret (de_tup (da_cons (de_var 4) (da_cons (de_tuple T.tuple (de_var 9)) da_nil))) ?_)
            show Res.ok _ = Res.ok _
            rw [he2]
            rfl
abbrev H_graph (P : Program) (w : World) (K : PySem.W.Frag) (mg : Str → Option Value) (base : Heap) : Prop := HasS P w K mg base 3 "_law_graph" ["script", "at", "most"] R_graph
end
/-! ## sorting and least ones, by an order -/
def hdO {α : Type} (enc : α → PyData) : List α → PyData
  | [] => .none
  | a :: _ => enc a
structure SO {α : Type} (lt : α → α → Bool) : Prop where
  irr : ∀ a, lt a a = false
  tr : ∀ a b c, lt a b = true → lt b c = true → lt a c = true
  tri : ∀ a b, lt a b = false → lt b a = false → a = b
namespace SO
variable {α : Type} {lt : α → α → Bool}
def le (lt : α → α → Bool) (a b : α) : Bool := !lt b a
theorem asym (h : SO lt) {a b : α} (x : lt a b = true) : lt b a = false := by
  cases y : lt b a with
  | false => rfl
  | true => have := h.tr a b a x y; rw [h.irr] at this; cases this
theorem le_total (h : SO lt) (a b : α) : (le lt a b || le lt b a) = true := by
  unfold le
  cases x : lt b a with
  | false => rfl
  | true => rw [h.asym x]; rfl
theorem le_trans (h : SO lt) (a b c : α) (x : le lt a b = true) (y : le lt b c = true) : le lt a c = true := by
  unfold le at *
  have x' : lt b a = false := by simpa using x
  have y' : lt c b = false := by simpa using y
  cases z : lt c a with
  | false => rfl
  | true =>
    exfalso
    by_cases q : lt a b = true
    · have := h.tr c a b z q; rw [y'] at this; cases this
    · have := h.tri a b (by simpa using q) x'
      subst this
      rw [z] at y'; cases y'
theorem le_antisymm (h : SO lt) {a b : α} (x : le lt a b = true) (y : le lt b a = true) : a = b :=
  h.tri a b (by unfold le at y; simpa using y) (by unfold le at x; simpa using x)
theorem le_of_lt (h : SO lt) {a b : α} (x : lt a b = true) : le lt a b = true := by unfold le; rw [h.asym x]; rfl
theorem sorted (h : SO lt) (l : List α) : (l.mergeSort (le lt)).Pairwise (fun a b => le lt a b = true) := List.pairwise_mergeSort (fun a b c => h.le_trans a b c) (fun a b => h.le_total a b) l
theorem perm (l : List α) : (l.mergeSort (le lt)).Perm l := List.mergeSort_perm l _
/-- a list in order is the sorted one -/
theorem uniq (h : SO lt) {l m : List α} (p : m.Perm l) (s : m.Pairwise (fun a b => le lt a b = true)) : m = l.mergeSort (le lt) :=
  List.Perm.eq_of_pairwise (fun a b _ _ x y => h.le_antisymm x y) s (h.sorted l) (p.trans (perm l).symm)
theorem of_lt (h : SO lt) {l : List α} (s : l.Pairwise (fun a b => lt a b = true)) : l.mergeSort (le lt) = l := (h.uniq (List.Perm.refl l) (s.imp fun x => h.le_of_lt x)).symm
/-- the least -/
def least (lt : α → α → Bool) (a : α) (l : List α) : α := l.foldl (fun x y => if lt y x = true then y else x) a
theorem least_spec (h : SO lt) : ∀ (l : List α) (a : α), least lt a l ∈ a :: l ∧ ∀ b ∈ a :: l, le lt (least lt a l) b = true
  | [], a => ⟨List.mem_cons_self, fun b hb => by
      rw [List.mem_singleton.mp hb]
      show le lt a a = true
      unfold le; rw [h.irr]; rfl⟩
  | c :: l, a => by
    have step : least lt a (c :: l) = least lt (if lt c a = true then c else a) l := rfl
    obtain ⟨h1, h2⟩ := least_spec h l (if lt c a = true then c else a)
    rw [step]
    refine ⟨?_, fun b hb => ?_⟩
    · rcases List.mem_cons.mp h1 with e | e
      · rw [e]; split <;> simp
      · exact List.mem_cons_of_mem _ (List.mem_cons_of_mem _ e)
    · have hx := h2 _ List.mem_cons_self
      rcases List.mem_cons.mp hb with rfl | hb
      · refine h.le_trans _ _ _ hx ?_
        split
        · rename_i q; exact h.le_of_lt q
        · unfold le; rw [h.irr]; rfl
      · rcases List.mem_cons.mp hb with rfl | hb
        · refine h.le_trans _ _ _ hx ?_
          split
          · unfold le; rw [h.irr]; rfl
          · rename_i q; unfold le; simpa using q
        · exact h2 b (List.mem_cons_of_mem _ hb)
theorem least_head (h : SO lt) (a : α) (l : List α) : ((a :: l).mergeSort (le lt)).head? = some (least lt a l) := by
  obtain ⟨h1, h2⟩ := h.least_spec l a
  have p := perm (lt := lt) (a :: l)
  have s := h.sorted (a :: l)
  cases e : (a :: l).mergeSort (le lt) with
  | nil => rw [e] at p; exact absurd p.symm.eq_nil (by simp)
  | cons x r =>
    rw [e] at p s
    have hx : x ∈ a :: l := p.mem_iff.mp List.mem_cons_self
    have q1 := h2 x hx
    have hm : least lt a l ∈ x :: r := p.mem_iff.mpr h1
    rcases List.mem_cons.mp hm with q | q
    · rw [q]; rfl
    · have := (List.pairwise_cons.mp s).1 _ q
      show some x = _
      rw [h.le_antisymm this q1]
section
variable {enc : α → PyData}
theorem sort_enc (e : ∀ a b, PySem.W.dataLt (enc a) (enc b) = lt a b) (l : List α) : sortD (l.map enc) = (l.mergeSort (le lt)).map enc := by
  unfold sortD
  rw [PySem.W.sort_maps (r := le lt) (s := leD) enc]
  intro a _ b _
  unfold le leD
  rw [e]
theorem minD_enc (e : ∀ a b, PySem.W.dataLt (enc a) (enc b) = lt a b) : ∀ (l : List α) (a : α), PySem.W.minD (enc a) (l.map enc) = enc (least lt a l)
  | [], a => rfl
  | c :: l, a => by
    show List.foldl _ (if PySem.W.dataLt (enc c) (enc a) = true then enc c else enc a) (l.map enc) = enc (least lt (if lt c a = true then c else a) l)
    rw [e]
    split
    · exact minD_enc e l c
    · exact minD_enc e l a
theorem min_enc (h : SO lt) (e : ∀ a b, PySem.W.dataLt (enc a) (enc b) = lt a b) (l : List α) : minO (l.map enc) = hdO enc (l.mergeSort (le lt)) := by
  cases l with
  | nil => rw [List.mergeSort_nil]; rfl
  | cons a l =>
    have q := h.least_head a l
    cases hs : (a :: l).mergeSort (le lt) with
    | nil => rw [hs] at q; cases q
    | cons x r =>
      rw [hs] at q
      cases q
      exact minD_enc e l a
end
end SO
/-- lists of ints, by their first difference -/
def ltL : List Int → List Int → Bool
  | [], [] => false
  | [], _ :: _ => true
  | _ :: _, [] => false
  | a :: x, b :: y => decide (a < b) || (decide (a = b) && ltL x y)
theorem ltL_so : SO ltL := by
  refine ⟨fun a => ?_, fun a b c => ?_, fun a b => ?_⟩
  · induction a with
    | nil => rfl
    | cons a r ih => simp [ltL, ih]
  · induction a generalizing b c with
    | nil => cases b <;> cases c <;> simp [ltL]
    | cons a r ih =>
      cases b with
      | nil => simp [ltL]
      | cons b s =>
        cases c with
        | nil => simp [ltL]
        | cons c t =>
          simp only [ltL, Bool.or_eq_true, Bool.and_eq_true, decide_eq_true_eq]
          rintro (h | ⟨h, h'⟩) (k | ⟨k, k'⟩)
          · left; omega
          · left; omega
          · left; omega
          · right; exact ⟨by omega, ih s t h' k'⟩
  · induction a generalizing b with
    | nil => cases b <;> simp [ltL]
    | cons a r ih =>
      cases b with
      | nil => simp [ltL]
      | cons b s =>
        simp only [ltL, Bool.or_eq_false_iff, Bool.and_eq_false_iff, decide_eq_false_iff_not]
        rintro ⟨h1, h2⟩ ⟨k1, k2⟩
        have e : a = b := by omega
        subst e
        rw [ih s (h2.resolve_left (by simp)) (k2.resolve_left (by simp))]
theorem dataLt_cons_int (a b : Int) (x y : List Int) : PySem.W.dataLt (eT (a :: x)) (eT (b :: y)) = (decide (a < b) || (decide (a = b) && PySem.W.dataLt (eT x) (eT y))) := by
  have h := PySem.W.dataLt_cons (x := .int a) (y := .int b) rfl (x.map .int) (y.map .int)
  have e : PySem.W.dataLt (eT (a :: x)) (eT (b :: y)) = if PyData.eqv (.int a) (.int b) = true then PySem.W.dataLt (eT x) (eT y) else PySem.W.dataLt (.int a) (.int b) := h
  rw [e, eqv_int]
  have hlt : PySem.W.dataLt (.int a) (.int b) = decide (a < b) := by
    have := congrFun (congrFun (PySem.W.dataLe_int (fun x : Int => x)) b) a
    unfold PySem.W.dataLe PySem.W.sortLe at this
    have h2 : (!PySem.W.dataLt (.int a) (.int b)) = decide (b ≤ a) := this
    have h3 : PySem.W.dataLt (.int a) (.int b) = !decide (b ≤ a) := by rw [← h2, Bool.not_not]
    rw [h3]
    by_cases q : a < b
    · rw [decide_eq_true q, decide_eq_false (by omega)]; rfl
    · rw [decide_eq_false q, decide_eq_true (by omega)]; rfl
  by_cases q : a = b
  · subst q
    simp
  · simp [q, hlt]
theorem dataLt_eT : ∀ x y : List Int, PySem.W.dataLt (eT x) (eT y) = ltL x y
  | [], [] => rfl
  | [], b :: y => by
    show PySem.W.dataLt (.tuple []) (.tuple (.int b :: y.map .int)) = true
    rfl
  | a :: x, [] => rfl
  | a :: x, b :: y => by rw [dataLt_cons_int, dataLt_eT x y]; rfl
def ltF (a b : Int × Int × Int) : Bool := ltL [a.1, a.2.1, a.2.2] [b.1, b.2.1, b.2.2]
theorem ltF_so : SO ltF := ⟨fun a => ltL_so.irr _, fun a b c => ltL_so.tr _ _ _, fun a b h k => by
  have := ltL_so.tri _ _ h k
  simp only [List.cons.injEq, and_true] at this
  exact Prod.ext this.1 (Prod.ext this.2.1 this.2.2)⟩
theorem dataLt_eF (a b : Int × Int × Int) : PySem.W.dataLt (eF a) (eF b) = ltF a b := dataLt_eT [a.1, a.2.1, a.2.2] [b.1, b.2.1, b.2.2]
def sortF (l : List (Int × Int × Int)) : List (Int × Int × Int) := l.mergeSort (SO.le ltF)
theorem sortD_eF (l : List (Int × Int × Int)) : sortD (l.map eF) = (sortF l).map eF := SO.sort_enc dataLt_eF l
theorem min_eF (l : List (Int × Int × Int)) : minO (l.map eF) = hdO eF (sortF l) := SO.min_enc ltF_so dataLt_eF l
theorem sortF_nil {l : List (Int × Int × Int)} : (sortF l).isEmpty = l.isEmpty := by
  have := (SO.perm (lt := ltF) l).length_eq
  unfold sortF
  cases h : l.mergeSort (SO.le ltF) with
  | nil => rw [h] at this; cases l with
    | nil => rfl
    | cons a r => simp at this
  | cons a r => rw [h] at this; cases l with
    | nil => simp at this
    | cons a r => rfl

section
variable {P : Program} {w : World} {K : PySem.W.Frag} {mg : Str → Option Value} {base : Heap}
/-! ## the law's arrows and faults -/
def R_larrows (ds : List PyData) (r : Res) : Prop := ∃ n es dd, ds = [eG n es, eT dd] ∧ es.length ≤ 1000 ∧ dd.length ≤ es.length ∧ r = .ok (.list ((arrowsM es dd).map eE))
theorem arrowsM_at {es : List (Int × Int)} {dd : List Int} {i : Nat} (h : i < dd.length) (h' : dd.length ≤ es.length) : ∃ e d, es[i]? = some e ∧ dd[i]? = some d ∧ (arrowsM es dd)[i]? = some (arrow e d) := by
  refine ⟨es[i], dd[i], List.getElem?_eq_getElem (by omega), List.getElem?_eq_getElem h, ?_⟩
  unfold arrowsM
  rw [List.getElem?_zipWith, List.getElem?_eq_getElem (by omega : i < es.length), List.getElem?_eq_getElem h]
theorem has_larrows (T : Bi mg) (F : FunAt K mg "_law_arrows" s__law_arrows) : Has P w K mg base 1 "_law_arrows" ["graph", "directions"] R_larrows := by
  refine has_mk F sc__law_arrows (fun _ _ _ _ _ _ us hl => match us, hl with | [_, _], _ => rfl) (fun ds r h => ?_) (fun f ds r h cdv A outer s H E hr => ?_)
  · obtain ⟨n, es, dd, rfl, _⟩ := h; rfl
  · obtain ⟨n, es, dd, rfl, hl, hdl, rfl⟩ := h
    refine dss_cons (ds_new 2 da_nil ?_ sc__law_arrows.nd)
    refine dss_cons (ds_for (vs := [3]) pass_own rfl (di_range1 T.range (de_len T.len isT (de_var 1)) (by rw [List.length_map]; omega) (by omega)) (pg_name (i := 3) sc__law_arrows.nd rfl (.inl rfl)) (tg_name (j := 3) (by decide))
      (fun i ρ => ∃ s3 s4 s5, ρ = [.d (eG n es), .d (eT dd), .l (((arrowsM es dd).take i).map eE), s3, s4, s5]) ⟨.no, .no, .no, rfl⟩ ?_ ?_)
    · rintro i x ρ1 hx ⟨s3, s4, s5, rfl⟩
      obtain ⟨hi, rfl⟩ := rangeD_at hx
      rw [List.length_map] at hi
      obtain ⟨e, d, he, hd, ha⟩ := arrowsM_at (i := i) (es := es) (dd := dd) (by omega) hdl
      have e0 : (0 : Int) + (i : Int) = (i : Int) := Int.zero_add _
      have lt : ((arrowsM es dd).take i).length ≤ 1000 := Nat.le_trans (List.length_take_le' _ _) (Nat.le_trans (arrowsM_len es dd) hl)
      refine ⟨_, rfl, dss_cons (ds_asgP 4 5 (de_ixT (de_ixT (de_var 0) de_int (at_nat 1)) (de_var 3) (d := eE e) (by rw [e0]; exact atI_nat (by rw [List.getElem?_map, he]; rfl))) ?_ rfl sc__law_arrows.nd)⟩
      refine dss_one (ds_append 2 (xs := ((arrowsM es dd).take i).map eE) (d := eE (arrow e d)) (de_if (k := decide (d = 0)) (DT.of (dt_eq (room_u hr) (de_ixT (de_var 1) (de_var 3) (d := .int d) (by rw [e0]; exact atI_nat (by rw [List.getElem?_map, hd]; rfl))) de_int (Nat.zero_le _)) (eqv_int _ _)) (fun h => DE.of (de_tup (da_cons (de_var 4) (da_cons (de_var 5) da_nil))) ?_) fun h => DE.of (de_tup (da_cons (de_var 5) (da_cons (de_var 4) da_nil))) ?_) ⟨.d (.int (0 + (i : Int))), .d (.int e.1), .d (.int e.2), ?_⟩ (by rw [List.length_map]; omega))
      · show eE e = eE (arrow e d)
        unfold arrow; rw [if_pos (of_decide_eq_true h)]
      · show eE (e.2, e.1) = eE (arrow e d)
        unfold arrow; rw [if_neg (of_decide_eq_false h)]
      · rw [take_snoc ha, List.map_append]; rfl
    · rintro ρ1 ⟨s3, s4, s5, rfl⟩
      rw [rangeD_len, List.length_map]
      refine dss_one (ds_retL 2 ?_)
      show Res.ok _ = Res.ok _
      rw [List.take_of_length_le]
      unfold arrowsM
      rw [List.length_zipWith]
      omega
abbrev H_larrows (P : Program) (w : World) (K : PySem.W.Frag) (mg : Str → Option Value) (base : Heap) : Prop := Has P w K mg base 1 "_law_arrows" ["graph", "directions"] R_larrows
theorem allAlike_eF (l : List (Int × Int × Int)) : PySem.W.AllAlike (l.map eF) := (alike_eF l).1
theorem sortable_eF (l : List (Int × Int × Int)) : PySem.W.Sortable (l.map eF) := .inl fun x hx => by
  obtain ⟨a, _, rfl⟩ := List.mem_map.mp hx
  exact ⟨_, _, rfl⟩
theorem depth_eFs (l : List (Int × Int × Int)) : ∀ d ∈ l.map eF, d.depth ≤ 60 := fun x hx => by
  obtain ⟨a, _, rfl⟩ := List.mem_map.mp hx
  show (1 : Nat) ≤ 60
  decide
def R_lfaults (ds : List PyData) (r : Res) : Prop := ∃ n es dd, ds = [eG n es, eT dd] ∧ es.length ≤ 100 ∧ dd.length ≤ es.length ∧ r = .ok (.list ((sortF (faultsM (arrowsM es dd))).map eF))
theorem has_lfaults (T : Bi mg) (F : FunAt K mg "_law_faults" s__law_faults) (h1 : H_larrows P w K mg base) : Has P w K mg base 2 "_law_faults" ["graph", "directions"] R_lfaults := by
  refine has_mk F sc__law_faults (fun _ _ _ _ _ _ us hl => match us, hl with | [_, _], _ => rfl) (fun ds r h => ?_) (fun f ds r h cdv A outer s H E hr => ?_)
  · obtain ⟨n, es, dd, rfl, _⟩ := h; rfl
  · obtain ⟨n, es, dd, rfl, hl, hdl, rfl⟩ := h
    have hrl := arrowsM_len es dd
    generalize hrows : arrowsM es dd = rows at hrl ⊢
    refine dss_cons (ds_asg 2 (de_call h1 hr (da_cons (de_var 0) (da_cons (de_var 1) da_nil)) ⟨n, es, dd, rfl, by omega, hdl, by rw [hrows]⟩) ?_ sc__law_faults.nd)
    refine dss_cons (ds_asg 3 (de_lst da_nil) ?_ sc__law_faults.nd)
    refine dss_cons (ds_for (vs := [4, 5]) pass_own rfl (di_list (de_var 2)) (pg_tup rfl (pgs_cons (pg_name (i := 4) sc__law_faults.nd rfl (.inr rfl)) (pgs_cons (pg_name (i := 5) sc__law_faults.nd rfl (.inr rfl)) pgs_nil))) (tg_pair (K := K) (i := 4) (j := 5) (by decide) (by decide))
      (fun i ρ => ∃ s4 s5, ρ = [.d (eG n es), .d (eT dd), .d (.list (rows.map eE)), .d (.list (((rows.take i).flatMap (faultsAt rows)).map eF)), s4, s5, .no, .no]) ⟨.no, .no, rfl⟩ ?_ ?_)
    · rintro i x ρ1 hx ⟨s4, s5, rfl⟩
      rw [List.getElem?_map] at hx
      obtain ⟨a, ha, rfl⟩ := Option.map_eq_some_iff.mp hx
      have l1 : ((rows.take i).flatMap (faultsAt rows)).length ≤ 10000 := by
        refine Nat.le_trans (flat_take_len _ rows.length (faultsAt_len rows) _) ?_
        have : (rows.take i).length ≤ 100 := Nat.le_trans (List.length_take_le' _ _) (by omega)
        exact Nat.le_trans (Nat.mul_le_mul this (by omega : rows.length ≤ 100)) (by decide)
      have l2 := faultsAt_len rows a
      refine ⟨_, rfl, dss_one (ds_asg 3 (de_catL (de_var 3) (ys := (faultsAt rows a).map eF) (DE.of (de_lc rows eE (fun q => decide (q.1 = a.2) && !decide ((a.1, q.2) ∈ rows)) (fun q => eF (a.1, a.2, q.2)) [("here", 6), ("last", 7)] rfl sc__law_faults.nd (blkOk_by (N := N__law_faults) (sc := defScope s__law_faults) (by decide +kernel)) (tg_pair (K := K) (i := 6) (j := 7) (by decide) (by decide)) (fun _ _ _ _ _ => pg_tup rfl (pgs_cons (pg_name (i := 6) sc__law_faults.nd rfl (.inl rfl)) (pgs_cons (pg_name (i := 7) sc__law_faults.nd rfl (.inl rfl)) pgs_nil))) (di_list (de_var 2)) (by omega) (fun j q hq => ⟨_, rfl, fun _ _ _ _ _ => dts_one (DW.t (dw_and (DT.of (dt_eq (room_u hr) (de_var 6) (de_var 5) (Nat.zero_le _)) (eqv_int _ _)) fun _ => DW.of (dw_and1 (dt_nin (room_u hr) isL (de_tup (da_cons (de_var 4) (da_cons (de_var 7) da_nil))) (de_var 2) (by show (1 : Nat) ≤ 60; decide))) (congrArg not (any_eE rows (a.1, q.2))))), fun _ _ _ _ _ _ => de_tup (da_cons (de_var 4) (da_cons (de_var 5) (da_cons (de_var 7) da_nil)))⟩)) ?_) (by rw [List.length_map, List.length_map]; omega)) ⟨.d (.int a.1), .d (.int a.2), ?_⟩ sc__law_faults.nd)⟩
      · unfold faultsAt; rw [List.map_map]; rfl
      · rw [flat_snoc ha, List.map_append]; rfl
    · rintro ρ1 ⟨s4, s5, rfl⟩
      rw [List.length_map, List.take_length]
      refine dss_one (ds_ret (de_sorted (room_u hr) T.sorted (de_var 3) (allAlike_eF _) (sortable_eF _) (depth_eFs _)) ?_)
      show Res.ok _ = Res.ok _
      rw [sortD_eF]
      rfl
abbrev H_lfaults (P : Program) (w : World) (K : PySem.W.Frag) (mg : Str → Option Value) (base : Heap) : Prop := Has P w K mg base 2 "_law_faults" ["graph", "directions"] R_lfaults
end
/-! ## arrows of directions -/
theorem mem_arrows {es : List (Int × Int)} {dd : List Int} {a : Int × Int} (h : a ∈ arrowsM es dd) : ∃ (i : Nat) (e : Int × Int) (d : Int), es[i]? = some e ∧ dd[i]? = some d ∧ a = arrow e d := by
  obtain ⟨i, hi⟩ := List.getElem?_of_mem h
  unfold arrowsM at hi
  rw [List.getElem?_zipWith] at hi
  cases he : es[i]? with
  | none => rw [he] at hi; cases hi
  | some e => cases hd : dd[i]? with
    | none => rw [he, hd] at hi; cases hi
    | some d => rw [he, hd] at hi; exact ⟨i, e, d, he, hd, (Option.some.inj hi).symm⟩
theorem arrow_mem {es : List (Int × Int)} {dd : List Int} {i : Nat} {e : Int × Int} {d : Int} (he : es[i]? = some e) (hd : dd[i]? = some d) : arrow e d ∈ arrowsM es dd := by
  have : (arrowsM es dd)[i]? = some (arrow e d) := by
    unfold arrowsM
    rw [List.getElem?_zipWith, he, hd]
  exact List.mem_of_getElem? this
theorem nodup_at {es : List (Int × Int)} (h : es.Nodup) {i j : Nat} {e : Int × Int} (hi : es[i]? = some e) (hj : es[j]? = some e) : i = j := by
  obtain ⟨h1, e1⟩ := List.getElem?_eq_some_iff.mp hi
  obtain ⟨h2, e2⟩ := List.getElem?_eq_some_iff.mp hj
  exact (List.getElem_inj h).mp (e1.trans e2.symm)
theorem arrows_asym {n : Int} {es : List (Int × Int)} {dd : List Int} (hG : GOk n es) {x y : Int} (h : (x, y) ∈ arrowsM es dd) (h' : (y, x) ∈ arrowsM es dd) : False := by
  obtain ⟨i, e, d, he, hd, h1⟩ := mem_arrows h
  obtain ⟨j, e', d', he', hd', h2⟩ := mem_arrows h'
  have o1 := hG.ed e (List.mem_of_getElem? he)
  have o2 := hG.ed e' (List.mem_of_getElem? he')
  have ee : e = e' := by
    unfold arrow at h1 h2
    split at h1 <;> split at h2
    · rw [← h1] at o1; rw [← h2] at o2; simp at o1 o2; omega
    · rw [← h1] at o1
      have q1 : y = e'.2 := congrArg Prod.fst h2
      have q2 : x = e'.1 := congrArg Prod.snd h2
      rw [← h1, q1, q2]
    · rw [← h2] at o2
      have q1 : x = e.2 := congrArg Prod.fst h1
      have q2 : y = e.1 := congrArg Prod.snd h1
      rw [← h2, q1, q2]
    · have q1 : x = e.2 := congrArg Prod.fst h1
      have q2 : y = e.1 := congrArg Prod.snd h1
      have q3 : y = e'.2 := congrArg Prod.fst h2
      have q4 : x = e'.1 := congrArg Prod.snd h2
      omega
  subst ee
  have ij := nodup_at (asc_nodup hG.asc) he he'
  subst ij
  rw [hd] at hd'
  cases hd'
  rw [← h1] at h2
  have q1 : y = x := congrArg Prod.fst h2
  subst q1
  unfold arrow at h1
  split at h1
  · rw [← h1] at o1; simp at o1
  · have q1 : y = e.2 := congrArg Prod.fst h1
    have q2 : y = e.1 := congrArg Prod.snd h1
    omega
theorem no_fault {rows : List (Int × Int)} (h : faultsM rows = []) {a b c : Int} (h1 : (a, b) ∈ rows) (h2 : (b, c) ∈ rows) : (a, c) ∈ rows := by
  have := List.flatMap_eq_nil_iff.mp h (a, b) h1
  unfold faultsAt at this
  rw [List.map_eq_nil_iff, List.filter_eq_nil_iff] at this
  have q := this (b, c) h2
  simpa using q
/-- what leads around from one arrow; from all -/
def aroundAt (rows : List (Int × Int)) (a : Int × Int) : List Int := (rows.filter fun q => decide (q.1 = a.2) && decide ((q.2, a.1) ∈ rows)).map fun q => q.2
def aroundM (rows : List (Int × Int)) : List Int := rows.flatMap (aroundAt rows)
theorem aroundAt_len (rows : List (Int × Int)) (a : Int × Int) : (aroundAt rows a).length ≤ rows.length := by
  unfold aroundAt; rw [List.length_map]; exact List.length_filter_le _ _
theorem no_around {n : Int} {es : List (Int × Int)} {dd : List Int} (hG : GOk n es) (h : faultsM (arrowsM es dd) = []) : aroundM (arrowsM es dd) = [] := by
  unfold aroundM
  rw [List.flatMap_eq_nil_iff]
  rintro ⟨a, b⟩ hab
  unfold aroundAt
  rw [List.map_eq_nil_iff, List.filter_eq_nil_iff]
  rintro ⟨b', c⟩ hbc
  simp only [Bool.and_eq_true, decide_eq_true_eq, not_and]
  rintro rfl hca
  exact arrows_asym hG (no_fault h hab hbc) hca

section
variable {P : Program} {w : World} {K : PySem.W.Frag} {mg : Str → Option Value} {base : Heap}
/-! ## the law k02 -/
def R_law (ns : List Int) (ds : List PyData) (r : Res) : Prop := ds = [] ∧ r = .ok (.bool true)
abbrev H_fault (P : Program) (w : World) (K : PySem.W.Frag) (mg : Str → Option Value) (base : Heap) (CG CD : Addr) : Prop := Has P w K mg base 6 "fault" ["graph", "directions"] (R_fault CG CD)
abbrev H_are_through (P : Program) (w : World) (K : PySem.W.Frag) (mg : Str → Option Value) (base : Heap) (CG CD : Addr) : Prop := Has P w K mg base 6 "are_through" ["graph", "directions"] (R_are_through CG CD)
theorem ok_law {CG CD f : Addr} {fd : FuncData} (T : Bi mg) (F : Fun K "law" "law" s_law f fd) (h1 : H_row P w K mg base) (h2 : H_graph P w K mg base) (h3 : H_fault P w K mg base CG CD) (h4 : H_are_through P w K mg base CG CD) (h5 : H_larrows P w K mg base) (h6 : H_lfaults P w K mg base) : FnOk P w K mg base (L2.CX P w) 7 f fd ["script"] (spS K R_law) := by
  refine fn_dataS F sc_law (fun ns ds r h => ?_) (fun ns ds r h cdv A outer s H E hr => ?_)
  · obtain ⟨rfl, _⟩ := h; rfl
  · obtain ⟨rfl, rfl⟩ := h
    have hu := room_u hr
    have hl := rowM_ok ns 4
    have hl2 := rowM_ok ns 2
    generalize hr4 : rowM ns 4 = l at hl
    obtain ⟨hG, hE15, _⟩ := graphM_ok hl2 (most := 6) (by decide) (by decide)
    generalize hes : edgesM (rowM ns 2) (pointsM (rowM ns 2) 6).toNat = es at hG hE15
    generalize hn : pointsM (rowM ns 2) 6 = n at hG
    have hn1 := hG.lo
    have hn6 := hG.hi
    refine dss_cons (ds_asg 1 (de_callS 0 h1 (hr.mono (by decide)) (da_cons (de_int (i := 4)) da_nil) ⟨4, rfl, by decide, by rw [hr4]⟩) ?_ sc_law.nd)
    refine dss_cons (ds_asg 2 (de_callS 0 h2 (hr.mono (by decide)) (da_cons (de_int (i := 2)) (da_cons (de_int (i := 6)) da_nil)) ⟨2, 6, rfl, by decide, by decide, by decide, by rw [hes, hn]⟩) ?_ sc_law.nd)
    -- the first directions
    have hm0 : ∀ p : Nat, p < es.length → 0 ≤ drw l (20 + (p : Int)) ∧ drw l (20 + (p : Int)) < 1000 := fun p hp => drw_ok hl (by omega) (by omega)
    refine dss_cons (ds_asg 4 (de_tuple T.tuple (DE.of (de_lc (List.range es.length) (fun p : Nat => .int (0 + (p : Int))) (fun _ => true) (fun p : Nat => .int (drw l (20 + (p : Int)) % 2)) [("place", 3)] rfl sc_law.nd (blkOk_by (N := N_law) (sc := defScope s_law) (by decide +kernel)) (tg_name (j := 3) (by decide)) (fun _ _ _ _ _ => pg_name (i := 3) sc_law.nd rfl (.inl rfl)) ?_ ?_ (fun i p hp => ⟨_, rfl, fun _ _ _ _ _ => dts_nil, fun _ _ _ _ _ _ => DE.of (de_mod (de_ixL (de_var 1) (de_add de_int (de_var 3)) (drw_at hl ?_ ?_)) de_int (by decide)) ?_⟩)) (y := .list (((List.range es.length).map fun p : Nat => drw l (20 + (p : Int)) % 2).map .int)) ?_)) ?_ sc_law.nd)
    · have e : (((es.map eE).length : Nat) : Int).toNat = es.length := by rw [List.length_map]; rfl
      show DI _ _ _ _ (rangeD 0 es.length)
      rw [← e]
      exact di_range1 T.range (de_len T.len isT (de_ixT (de_var 2) de_int (at_nat 1))) (by rw [List.length_map]; omega) (by omega)
    · rw [List.length_range]; omega
    · omega
    · have : p < es.length := by have := List.mem_of_getElem? hp; simpa using this
      omega
    · rw [Int.zero_add]
    · rw [List.filter_eq_self.mpr (fun _ _ => rfl), List.map_map]; rfl
    · have hD1 : DOk es ((List.range es.length).map fun p : Nat => drw l (20 + (p : Int)) % 2) := by
        refine ⟨by rw [List.length_map, List.length_range], fun d hd => ?_⟩
        obtain ⟨p, _, rfl⟩ := List.mem_map.mp hd
        omega
      generalize hdd1 : ((List.range es.length).map fun p : Nat => drw l (20 + (p : Int)) % 2) = dd1 at hD1
      refine dss_mid (fun ρ => ∃ dd s3 s5 s6 s7 s8, DOk es dd ∧ ρ = [.s K ns, .d (.list (l.map .int)), .d (eG n es), s3, .d (eT dd), s5, s6, s7, s8, .no, .no, .no, .no, .no, .no]) (ds_if (k := decide (drw l 0 % 2 = 0)) (DT.of (dt_eq hu (de_mod (de_ixL (de_var 1) de_int (drw_at hl (i := 0) (by decide) (by decide))) de_int (by decide)) de_int (Nat.zero_le _)) (eqv_int _ _)) (fun _ => ?_) fun _ => dss_nil ⟨dd1, _, _, _, _, _, hD1, rfl⟩) ?_
      rotate_left
      · rintro _ ⟨dd, s3, s5, s6, s7, s8, hD, rfl⟩
        have hrl := arrowsM_len es dd
        generalize hrows : arrowsM es dd = rows at hrl
        have hV : minO ((faultsM rows).map eF) = hdO eF (sortF (faultsM rows)) := min_eF _
        have hVp : (minO ((faultsM rows).map eF)).plain = true := by
          rw [hV]
          cases sortF (faultsM rows) <;> rfl
        have hVd : (minO ((faultsM rows).map eF)).depth ≤ 60 := by
          rw [hV]
          cases sortF (faultsM rows) with
          | nil => exact Nat.zero_le _
          | cons a r => show (1 : Nat) ≤ 60; decide
        refine dss_cons (ds_asg 9 (de_call h6 (hr.mono (by decide)) (da_cons (de_var 2) (da_cons (de_var 4) da_nil)) ⟨n, es, dd, rfl, by omega, by have := hD.1; omega, by rw [hrows]⟩) ?_ sc_law.nd)
        -- the fault
        refine dss_cons (ds_if (k := false) (DT.of (dt_ne hu (de_call h3 hr (da_cons (de_var 2) (da_cons (de_var 4) da_nil)) ⟨eG n es, eT dd, rfl, GOk.gsz (by omega), fun xs e => by cases e; rw [List.length_map, hD.1]; omega, .inl ⟨n, es, dd, rfl, rfl, hG, hD, by omega, by rw [hrows]⟩⟩) (de_if (x := minO ((faultsM rows).map eF)) (k := !(sortF (faultsM rows)).isEmpty) (DT.of (dt_ne hu (de_var 9) (de_lst da_nil) (Nat.le_trans (Nat.min_le_right _ _) (by show (1 : Nat) ≤ 60; decide))) (congrArg not (eqv_nil eF _))) (fun h => ?_) fun h => ?_) (Nat.le_trans (Nat.min_le_left _ _) hVd)) (by rw [PySem.SeqAt.eqv_refl_plain _ hVp]; rfl)) (fun h => by cases h) fun _ => dss_nil ?_)
        · rw [hV]
          cases hs : sortF (faultsM rows) with
          | nil => rw [hs] at h; cases h
          | cons a r => exact de_ixL (de_var 9) de_int (at_nat 0)
        · rw [hV]
          cases hs : sortF (faultsM rows) with
          | nil => exact de_none
          | cons a r => rw [hs] at h; cases h
        -- through
        · refine dss_cons (ds_if (k := false) (DT.of (dt_ne hu (de_call h4 hr (da_cons (de_var 2) (da_cons (de_var 4) da_nil)) ⟨eG n es, eT dd, rfl, GOk.gsz (by omega), fun xs e => by cases e; rw [List.length_map, hD.1]; omega, .inl ⟨n, es, dd, rfl, rfl, hG, hD, by omega, rfl⟩⟩) (DE.of (de_eq hu (de_var 9) (de_lst da_nil) (Nat.le_trans (Nat.min_le_right _ _) (by show (1 : Nat) ≤ 60; decide))) (congrArg PyData.bool (eqv_nil eF _))) (Nat.zero_le _)) ?_) (fun h => by cases h) fun _ => dss_nil ?_)
          · unfold through
            rw [hrows, sortF_nil]
            show (!((faultsM rows).isEmpty == (faultsM rows).isEmpty)) = false
            simp
          -- around
          · refine dss_cons (ds_asg 10 (de_call h5 (hr.mono (by decide)) (da_cons (de_var 2) (da_cons (de_var 4) da_nil)) ⟨n, es, dd, rfl, by omega, by have := hD.1; omega, by rw [hrows]⟩) ?_ sc_law.nd)
            refine dss_cons (ds_asg 11 (de_lst da_nil) ?_ sc_law.nd)
            refine dss_cons (ds_for (vs := [7, 12]) pass_own rfl (di_list (de_var 10)) (pg_tup rfl (pgs_cons (pg_name (i := 7) sc_law.nd rfl (.inr rfl)) (pgs_cons (pg_name (i := 12) sc_law.nd rfl (.inr rfl)) pgs_nil))) (tg_pair (K := K) (i := 7) (j := 12) (by decide) (by decide))
              (fun i ρ => ∃ t7 t12, ρ = [.s K ns, .d (.list (l.map .int)), .d (eG n es), s3, .d (eT dd), s5, s6, t7, s8, .d (.list ((sortF (faultsM rows)).map eF)), .d (.list (rows.map eE)), .d (.list (((rows.take i).flatMap (aroundAt rows)).map .int)), t12, .no, .no]) ⟨s7, .no, rfl⟩ ?_ ?_)
            · rintro i x ρ1 hx ⟨t7, t12, rfl⟩
              rw [List.getElem?_map] at hx
              obtain ⟨a, ha, rfl⟩ := Option.map_eq_some_iff.mp hx
              have l1 : ((rows.take i).flatMap (aroundAt rows)).length ≤ 10000 := by
                refine Nat.le_trans (flat_take_len _ rows.length (aroundAt_len rows) _) ?_
                have : (rows.take i).length ≤ 100 := Nat.le_trans (List.length_take_le' _ _) (by omega)
                exact Nat.le_trans (Nat.mul_le_mul this (by omega : rows.length ≤ 100)) (by decide)
              have l2 := aroundAt_len rows a
              refine ⟨_, rfl, dss_one (ds_asg 11 (de_catL (de_var 11) (ys := (aroundAt rows a).map .int) (DE.of (de_lc rows eE (fun q => decide (q.1 = a.2) && decide ((q.2, a.1) ∈ rows)) (fun q => .int q.2) [("here", 13), ("last", 14)] rfl sc_law.nd (blkOk_by (N := N_law) (sc := defScope s_law) (by decide +kernel)) (tg_pair (K := K) (i := 13) (j := 14) (by decide) (by decide)) (fun _ _ _ _ _ => pg_tup rfl (pgs_cons (pg_name (i := 13) sc_law.nd rfl (.inl rfl)) (pgs_cons (pg_name (i := 14) sc_law.nd rfl (.inl rfl)) pgs_nil))) (di_list (de_var 10)) (by omega) (fun j q hq => ⟨_, rfl, fun _ _ _ _ _ => dts_one (DW.t (dw_and (DT.of (dt_eq hu (de_var 13) (de_var 12) (Nat.zero_le _)) (eqv_int _ _)) fun _ => DW.of (dw_and1 (dt_in hu isL (de_tup (da_cons (de_var 14) (da_cons (de_var 7) da_nil))) (de_var 10) (by show (1 : Nat) ≤ 60; decide))) (any_eE rows (q.2, a.1)))), fun _ _ _ _ _ _ => de_var 14⟩)) ?_) (by rw [List.length_map, List.length_map]; omega)) ⟨.d (.int a.1), .d (.int a.2), ?_⟩ sc_law.nd)⟩
              · unfold aroundAt; rw [List.map_map]; rfl
              · rw [flat_snoc ha, List.map_append]; rfl
            · rintro ρ1 ⟨t7, t12, rfl⟩
              rw [List.length_map, List.take_length]
              refine dss_one (ds_ret (DE.of (de_or (k' := ((rows.flatMap (aroundAt rows)).isEmpty)) (DE.of (de_ne hu (de_var 9) (de_lst da_nil) (Nat.le_trans (Nat.min_le_right _ _) (by show (1 : Nat) ≤ 60; decide))) (congrArg (fun b => PyData.bool (!b)) (eqv_nil eF _))) fun _ => de_one (DE.of (de_eq hu (de_var 11) (de_lst da_nil) (Nat.le_trans (Nat.min_le_right _ _) (by show (1 : Nat) ≤ 60; decide))) (congrArg PyData.bool (eqv_nil PyData.int _)))) (y := .bool true) ?_) ?_)
              · rw [sortF_nil]
                cases hf : faultsM rows with
                | nil =>
                  have := no_around hG (dd := dd) (by rw [hrows]; exact hf)
                  rw [hrows] at this
                  unfold aroundM at this
                  rw [this]; rfl
                | cons a r => rfl
              · rfl

      -- by ranks
      refine dss_cons (ds_asg 6 (DE.of (de_lc (List.range n.toNat) (fun p : Nat => .int (0 + (p : Int))) (fun _ => true) (fun p : Nat => .int (10 * drw l (40 + (p : Int)) + (p : Int))) [("point", 5)] rfl sc_law.nd (blkOk_by (N := N_law) (sc := defScope s_law) (by decide +kernel)) (tg_name (j := 5) (by decide)) (fun _ _ _ _ _ => pg_name (i := 5) sc_law.nd rfl (.inl rfl)) ?_ ?_ (fun i p hp => ⟨_, rfl, fun _ _ _ _ _ => dts_nil, fun _ _ _ _ _ _ => DE.of (de_add (de_mul de_int (de_ixL (de_var 1) (de_add de_int (de_var 5)) (drw_at hl ?_ ?_)) (.inl ⟨by decide, by decide⟩)) (de_var 5)) ?_⟩)) (y := .list ((List.range n.toNat).map fun p : Nat => .int (10 * drw l (40 + (p : Int)) + (p : Int)))) ?_) ?_ sc_law.nd)
      · exact di_range1 T.range (de_ixT (de_var 2) de_int (at_nat 0)) (by omega) (by omega)
      · rw [List.length_range]; omega
      · omega
      · have : p < n.toNat := by have := List.mem_of_getElem? hp; simpa using this
        omega
      · rw [Int.zero_add]
      · rw [List.filter_eq_self.mpr (fun _ _ => rfl)]
      · have rank_at : ∀ p : Int, 0 ≤ p → p < n → L2.atI ((List.range n.toNat).map fun p : Nat => PyData.int (10 * drw l (40 + (p : Int)) + (p : Int))) p = some (.int (10 * drw l (40 + p) + p)) := fun p hp0 hp1 => by
          have ep : p = ((p.toNat : Nat) : Int) := by omega
          rw [ep]
          refine atI_nat ?_
          rw [List.getElem?_map, List.getElem?_range (by omega)]; rfl
        have hD2 : DOk es (es.map fun e => if decide (10 * drw l (40 + e.2) + e.2 < 10 * drw l (40 + e.1) + e.1) = true then (1 : Int) else 0) := ⟨by rw [List.length_map], fun d hd => by
          obtain ⟨e, _, rfl⟩ := List.mem_map.mp hd
          split
          · exact .inr rfl
          · exact .inl rfl⟩
        generalize hdd2 : (es.map fun e => if decide (10 * drw l (40 + e.2) + e.2 < 10 * drw l (40 + e.1) + e.1) = true then (1 : Int) else 0) = dd2 at hD2
        refine dss_one (ds_asg 4 (de_tuple T.tuple (DE.of (de_lc es eE (fun _ => true) (fun e => .int (if decide (10 * drw l (40 + e.2) + e.2 < 10 * drw l (40 + e.1) + e.1) = true then 1 else 0)) [("one", 7), ("other", 8)] rfl sc_law.nd (blkOk_by (N := N_law) (sc := defScope s_law) (by decide +kernel)) (tg_pair (K := K) (i := 7) (j := 8) (by decide) (by decide)) (fun _ _ _ _ _ => pg_tup rfl (pgs_cons (pg_name (i := 7) sc_law.nd rfl (.inl rfl)) (pgs_cons (pg_name (i := 8) sc_law.nd rfl (.inl rfl)) pgs_nil))) (di_tup (de_ixT (de_var 2) de_int (at_nat 1))) (by omega) (fun i e he => ⟨_, rfl, fun _ _ _ _ _ => dts_nil, fun _ _ _ _ _ _ => de_intB T.int (de_gt (de_ixL (de_var 6) (de_var 7) (rank_at e.1 ?_ ?_)) (de_ixL (de_var 6) (de_var 8) (rank_at e.2 ?_ ?_)))⟩)) (y := .list (dd2.map .int)) ?_)) ⟨dd2, _, _, _, _, _, hD2, rfl⟩ sc_law.nd)
        · have := hG.ed e (List.mem_of_getElem? he); omega
        · have := hG.ed e (List.mem_of_getElem? he); omega
        · have := hG.ed e (List.mem_of_getElem? he); omega
        · have := hG.ed e (List.mem_of_getElem? he); omega
        · rw [List.filter_eq_self.mpr (fun _ _ => rfl), ← hdd2, List.map_map]; rfl
end
theorem all_mk {l : PySem.W.OpenLaw} {w : World} {K : PySem.W.Frag} {h : Heap} {mg : Str → Option Value} {fa : Addr} (X : K.In h) (G : h.Ns mainGlobals mg) (hfa : mg "law" = some (.ref fa))
    {f_in_range : Addr} {od_in_range an_in_range : Option Addr} {sl_in_range : Array (Option Value)} {oc_in_range kV_in_range dc_in_range pm_in_range cd_in_range ct_in_range : Value}
    (a_in_range : PySem.W.nsIn K mainGlobals "in_range" = some (some (.ref f_in_range))) (l_in_range : K.lookup f_in_range = some ⟨oc_in_range, od_in_range, .func (PySem.W.fnOf "in_range" "in_range" (defArgs s_in_range) (defBody s_in_range) (defScope s_in_range) .none kV_in_range dc_in_range pm_in_range an_in_range cd_in_range ct_in_range), sl_in_range⟩) (c_in_range : PySem.W.codeIn K cd_in_range "in_range" = true) (k_in_range : PySem.W.keepIn K (.ref f_in_range) = true)
    {f_is_edge : Addr} {od_is_edge an_is_edge : Option Addr} {sl_is_edge : Array (Option Value)} {oc_is_edge kV_is_edge dc_is_edge pm_is_edge cd_is_edge ct_is_edge : Value}
    (a_is_edge : PySem.W.nsIn K mainGlobals "is_edge" = some (some (.ref f_is_edge))) (l_is_edge : K.lookup f_is_edge = some ⟨oc_is_edge, od_is_edge, .func (PySem.W.fnOf "is_edge" "is_edge" (defArgs s_is_edge) (defBody s_is_edge) (defScope s_is_edge) .none kV_is_edge dc_is_edge pm_is_edge an_is_edge cd_is_edge ct_is_edge), sl_is_edge⟩) (c_is_edge : PySem.W.codeIn K cd_is_edge "is_edge" = true) (k_is_edge : PySem.W.keepIn K (.ref f_is_edge) = true)
    {f_is_graph : Addr} {od_is_graph an_is_graph : Option Addr} {sl_is_graph : Array (Option Value)} {oc_is_graph kV_is_graph dc_is_graph pm_is_graph cd_is_graph ct_is_graph : Value}
    (a_is_graph : PySem.W.nsIn K mainGlobals "is_graph" = some (some (.ref f_is_graph))) (l_is_graph : K.lookup f_is_graph = some ⟨oc_is_graph, od_is_graph, .func (PySem.W.fnOf "is_graph" "is_graph" (defArgs s_is_graph) (defBody s_is_graph) (defScope s_is_graph) .none kV_is_graph dc_is_graph pm_is_graph an_is_graph cd_is_graph ct_is_graph), sl_is_graph⟩) (c_is_graph : PySem.W.codeIn K cd_is_graph "is_graph" = true) (k_is_graph : PySem.W.keepIn K (.ref f_is_graph) = true)
    {f_check_graph : Addr} {od_check_graph an_check_graph : Option Addr} {sl_check_graph : Array (Option Value)} {oc_check_graph kV_check_graph dc_check_graph pm_check_graph cd_check_graph ct_check_graph : Value}
    (a_check_graph : PySem.W.nsIn K mainGlobals "check_graph" = some (some (.ref f_check_graph))) (l_check_graph : K.lookup f_check_graph = some ⟨oc_check_graph, od_check_graph, .func (PySem.W.fnOf "check_graph" "check_graph" (defArgs s_check_graph) (defBody s_check_graph) (defScope s_check_graph) .none kV_check_graph dc_check_graph pm_check_graph an_check_graph cd_check_graph ct_check_graph), sl_check_graph⟩) (c_check_graph : PySem.W.codeIn K cd_check_graph "check_graph" = true) (k_check_graph : PySem.W.keepIn K (.ref f_check_graph) = true)
    {f_are_directions : Addr} {od_are_directions an_are_directions : Option Addr} {sl_are_directions : Array (Option Value)} {oc_are_directions kV_are_directions dc_are_directions pm_are_directions cd_are_directions ct_are_directions : Value}
    (a_are_directions : PySem.W.nsIn K mainGlobals "are_directions" = some (some (.ref f_are_directions))) (l_are_directions : K.lookup f_are_directions = some ⟨oc_are_directions, od_are_directions, .func (PySem.W.fnOf "are_directions" "are_directions" (defArgs s_are_directions) (defBody s_are_directions) (defScope s_are_directions) .none kV_are_directions dc_are_directions pm_are_directions an_are_directions cd_are_directions ct_are_directions), sl_are_directions⟩) (c_are_directions : PySem.W.codeIn K cd_are_directions "are_directions" = true) (k_are_directions : PySem.W.keepIn K (.ref f_are_directions) = true)
    {f_check_directions : Addr} {od_check_directions an_check_directions : Option Addr} {sl_check_directions : Array (Option Value)} {oc_check_directions kV_check_directions dc_check_directions pm_check_directions cd_check_directions ct_check_directions : Value}
    (a_check_directions : PySem.W.nsIn K mainGlobals "check_directions" = some (some (.ref f_check_directions))) (l_check_directions : K.lookup f_check_directions = some ⟨oc_check_directions, od_check_directions, .func (PySem.W.fnOf "check_directions" "check_directions" (defArgs s_check_directions) (defBody s_check_directions) (defScope s_check_directions) .none kV_check_directions dc_check_directions pm_check_directions an_check_directions cd_check_directions ct_check_directions), sl_check_directions⟩) (c_check_directions : PySem.W.codeIn K cd_check_directions "check_directions" = true) (k_check_directions : PySem.W.keepIn K (.ref f_check_directions) = true)
    {f_arrows : Addr} {od_arrows an_arrows : Option Addr} {sl_arrows : Array (Option Value)} {oc_arrows kV_arrows dc_arrows pm_arrows cd_arrows ct_arrows : Value}
    (a_arrows : PySem.W.nsIn K mainGlobals "arrows" = some (some (.ref f_arrows))) (l_arrows : K.lookup f_arrows = some ⟨oc_arrows, od_arrows, .func (PySem.W.fnOf "arrows" "arrows" (defArgs s_arrows) (defBody s_arrows) (defScope s_arrows) .none kV_arrows dc_arrows pm_arrows an_arrows cd_arrows ct_arrows), sl_arrows⟩) (c_arrows : PySem.W.codeIn K cd_arrows "arrows" = true) (k_arrows : PySem.W.keepIn K (.ref f_arrows) = true)
    {f_fault_of : Addr} {od_fault_of an_fault_of : Option Addr} {sl_fault_of : Array (Option Value)} {oc_fault_of kV_fault_of dc_fault_of pm_fault_of cd_fault_of ct_fault_of : Value}
    (a_fault_of : PySem.W.nsIn K mainGlobals "fault_of" = some (some (.ref f_fault_of))) (l_fault_of : K.lookup f_fault_of = some ⟨oc_fault_of, od_fault_of, .func (PySem.W.fnOf "fault_of" "fault_of" (defArgs s_fault_of) (defBody s_fault_of) (defScope s_fault_of) .none kV_fault_of dc_fault_of pm_fault_of an_fault_of cd_fault_of ct_fault_of), sl_fault_of⟩) (c_fault_of : PySem.W.codeIn K cd_fault_of "fault_of" = true) (k_fault_of : PySem.W.keepIn K (.ref f_fault_of) = true)
    {f_fault : Addr} {od_fault an_fault : Option Addr} {sl_fault : Array (Option Value)} {oc_fault kV_fault dc_fault pm_fault cd_fault ct_fault : Value}
    (a_fault : PySem.W.nsIn K mainGlobals "fault" = some (some (.ref f_fault))) (l_fault : K.lookup f_fault = some ⟨oc_fault, od_fault, .func (PySem.W.fnOf "fault" "fault" (defArgs s_fault) (defBody s_fault) (defScope s_fault) .none kV_fault dc_fault pm_fault an_fault cd_fault ct_fault), sl_fault⟩) (c_fault : PySem.W.codeIn K cd_fault "fault" = true) (k_fault : PySem.W.keepIn K (.ref f_fault) = true)
    {f_are_through : Addr} {od_are_through an_are_through : Option Addr} {sl_are_through : Array (Option Value)} {oc_are_through kV_are_through dc_are_through pm_are_through cd_are_through ct_are_through : Value}
    (a_are_through : PySem.W.nsIn K mainGlobals "are_through" = some (some (.ref f_are_through))) (l_are_through : K.lookup f_are_through = some ⟨oc_are_through, od_are_through, .func (PySem.W.fnOf "are_through" "are_through" (defArgs s_are_through) (defBody s_are_through) (defScope s_are_through) .none kV_are_through dc_are_through pm_are_through an_are_through cd_are_through ct_are_through), sl_are_through⟩) (c_are_through : PySem.W.codeIn K cd_are_through "are_through" = true) (k_are_through : PySem.W.keepIn K (.ref f_are_through) = true)
    {f__law_cell : Addr} {od__law_cell an__law_cell : Option Addr} {sl__law_cell : Array (Option Value)} {oc__law_cell kV__law_cell dc__law_cell pm__law_cell cd__law_cell ct__law_cell : Value}
    (a__law_cell : PySem.W.nsIn K mainGlobals "_law_cell" = some (some (.ref f__law_cell))) (l__law_cell : K.lookup f__law_cell = some ⟨oc__law_cell, od__law_cell, .func (PySem.W.fnOf "_law_cell" "_law_cell" (defArgs s__law_cell) (defBody s__law_cell) (defScope s__law_cell) .none kV__law_cell dc__law_cell pm__law_cell an__law_cell cd__law_cell ct__law_cell), sl__law_cell⟩) (c__law_cell : PySem.W.codeIn K cd__law_cell "_law_cell" = true) (k__law_cell : PySem.W.keepIn K (.ref f__law_cell) = true)
    {f__law_row : Addr} {od__law_row an__law_row : Option Addr} {sl__law_row : Array (Option Value)} {oc__law_row kV__law_row dc__law_row pm__law_row cd__law_row ct__law_row : Value}
    (a__law_row : PySem.W.nsIn K mainGlobals "_law_row" = some (some (.ref f__law_row))) (l__law_row : K.lookup f__law_row = some ⟨oc__law_row, od__law_row, .func (PySem.W.fnOf "_law_row" "_law_row" (defArgs s__law_row) (defBody s__law_row) (defScope s__law_row) .none kV__law_row dc__law_row pm__law_row an__law_row cd__law_row ct__law_row), sl__law_row⟩) (c__law_row : PySem.W.codeIn K cd__law_row "_law_row" = true) (k__law_row : PySem.W.keepIn K (.ref f__law_row) = true)
    {f__law_pairs : Addr} {od__law_pairs an__law_pairs : Option Addr} {sl__law_pairs : Array (Option Value)} {oc__law_pairs kV__law_pairs dc__law_pairs pm__law_pairs cd__law_pairs ct__law_pairs : Value}
    (a__law_pairs : PySem.W.nsIn K mainGlobals "_law_pairs" = some (some (.ref f__law_pairs))) (l__law_pairs : K.lookup f__law_pairs = some ⟨oc__law_pairs, od__law_pairs, .func (PySem.W.fnOf "_law_pairs" "_law_pairs" (defArgs s__law_pairs) (defBody s__law_pairs) (defScope s__law_pairs) .none kV__law_pairs dc__law_pairs pm__law_pairs an__law_pairs cd__law_pairs ct__law_pairs), sl__law_pairs⟩) (c__law_pairs : PySem.W.codeIn K cd__law_pairs "_law_pairs" = true) (k__law_pairs : PySem.W.keepIn K (.ref f__law_pairs) = true)
    {f__law_graph : Addr} {od__law_graph an__law_graph : Option Addr} {sl__law_graph : Array (Option Value)} {oc__law_graph kV__law_graph dc__law_graph pm__law_graph cd__law_graph ct__law_graph : Value}
    (a__law_graph : PySem.W.nsIn K mainGlobals "_law_graph" = some (some (.ref f__law_graph))) (l__law_graph : K.lookup f__law_graph = some ⟨oc__law_graph, od__law_graph, .func (PySem.W.fnOf "_law_graph" "_law_graph" (defArgs s__law_graph) (defBody s__law_graph) (defScope s__law_graph) .none kV__law_graph dc__law_graph pm__law_graph an__law_graph cd__law_graph ct__law_graph), sl__law_graph⟩) (c__law_graph : PySem.W.codeIn K cd__law_graph "_law_graph" = true) (k__law_graph : PySem.W.keepIn K (.ref f__law_graph) = true)
    {f__law_arrows : Addr} {od__law_arrows an__law_arrows : Option Addr} {sl__law_arrows : Array (Option Value)} {oc__law_arrows kV__law_arrows dc__law_arrows pm__law_arrows cd__law_arrows ct__law_arrows : Value}
    (a__law_arrows : PySem.W.nsIn K mainGlobals "_law_arrows" = some (some (.ref f__law_arrows))) (l__law_arrows : K.lookup f__law_arrows = some ⟨oc__law_arrows, od__law_arrows, .func (PySem.W.fnOf "_law_arrows" "_law_arrows" (defArgs s__law_arrows) (defBody s__law_arrows) (defScope s__law_arrows) .none kV__law_arrows dc__law_arrows pm__law_arrows an__law_arrows cd__law_arrows ct__law_arrows), sl__law_arrows⟩) (c__law_arrows : PySem.W.codeIn K cd__law_arrows "_law_arrows" = true) (k__law_arrows : PySem.W.keepIn K (.ref f__law_arrows) = true)
    {f__law_faults : Addr} {od__law_faults an__law_faults : Option Addr} {sl__law_faults : Array (Option Value)} {oc__law_faults kV__law_faults dc__law_faults pm__law_faults cd__law_faults ct__law_faults : Value}
    (a__law_faults : PySem.W.nsIn K mainGlobals "_law_faults" = some (some (.ref f__law_faults))) (l__law_faults : K.lookup f__law_faults = some ⟨oc__law_faults, od__law_faults, .func (PySem.W.fnOf "_law_faults" "_law_faults" (defArgs s__law_faults) (defBody s__law_faults) (defScope s__law_faults) .none kV__law_faults dc__law_faults pm__law_faults an__law_faults cd__law_faults ct__law_faults), sl__law_faults⟩) (c__law_faults : PySem.W.codeIn K cd__law_faults "_law_faults" = true) (k__law_faults : PySem.W.keepIn K (.ref f__law_faults) = true)
    {f_law : Addr} {od_law an_law : Option Addr} {sl_law : Array (Option Value)} {oc_law kV_law dc_law pm_law cd_law ct_law : Value}
    (a_law : PySem.W.nsIn K mainGlobals "law" = some (some (.ref f_law))) (l_law : K.lookup f_law = some ⟨oc_law, od_law, .func (PySem.W.fnOf "law" "law" (defArgs s_law) (defBody s_law) (defScope s_law) .none kV_law dc_law pm_law an_law cd_law ct_law), sl_law⟩) (c_law : PySem.W.codeIn K cd_law "law" = true) (k_law : PySem.W.keepIn K (.ref f_law) = true)
    {C_InvalidGraph : Addr} (ca_InvalidGraph : PySem.W.nsIn K mainGlobals "InvalidGraph" = some (some (.ref C_InvalidGraph))) (cx_InvalidGraph : PySem.W.excIn K C_InvalidGraph [.type "ValueError", .type "Exception", .type "BaseException", .type "object"] "ValueError.__new__" = true) (ck_InvalidGraph : PySem.W.keepIn K (.ref C_InvalidGraph) = true) (cb_InvalidGraph : PySem.W.subIn K (.ref C_InvalidGraph) (.type "BaseException") = some true) (ct_InvalidGraph : PySem.W.typeIn K (.ref C_InvalidGraph) = some (.type "type"))
    {C_InvalidDirections : Addr} (ca_InvalidDirections : PySem.W.nsIn K mainGlobals "InvalidDirections" = some (some (.ref C_InvalidDirections))) (cx_InvalidDirections : PySem.W.excIn K C_InvalidDirections [.type "ValueError", .type "Exception", .type "BaseException", .type "object"] "ValueError.__new__" = true) (ck_InvalidDirections : PySem.W.keepIn K (.ref C_InvalidDirections) = true) (cb_InvalidDirections : PySem.W.subIn K (.ref C_InvalidDirections) (.type "BaseException") = some true) (ct_InvalidDirections : PySem.W.typeIn K (.ref C_InvalidDirections) = some (.type "type"))
    {t_MAX_POINTS : Tok} (m_MAX_POINTS : PySem.W.nsIn K mainGlobals "MAX_POINTS" = some (some (.int 6 t_MAX_POINTS)))
    (z_isinstance : PySem.W.nsIn K mainGlobals "isinstance" = some none)
    (z_int : PySem.W.nsIn K mainGlobals "int" = some none)
    (z_bool : PySem.W.nsIn K mainGlobals "bool" = some none)
    (z_tuple : PySem.W.nsIn K mainGlobals "tuple" = some none)
    (z_list : PySem.W.nsIn K mainGlobals "list" = some none)
    (z_str : PySem.W.nsIn K mainGlobals "str" = some none)
    (z_len : PySem.W.nsIn K mainGlobals "len" = some none)
    (z_range : PySem.W.nsIn K mainGlobals "range" = some none)
    (z_zip : PySem.W.nsIn K mainGlobals "zip" = some none)
    (z_sorted : PySem.W.nsIn K mainGlobals "sorted" = some none)
    (z_min : PySem.W.nsIn K mainGlobals "min" = some none)
    (z_max : PySem.W.nsIn K mainGlobals "max" = some none)
    (z_enumerate : PySem.W.nsIn K mainGlobals "enumerate" = some none)
    (z_set : PySem.W.nsIn K mainGlobals "set" = some none)
    : ∃ fd : FuncData, (∀ (s : Shared) (v : Value), BindsTo s fd ⟨[v], []⟩ [("script", v)]) ∧ ∀ base : Heap, K.In base → base.Ns mainGlobals mg → FnOk l.prog w K mg base (L2.CX l.prog w) 7 fa fd ["script"] (spS K R_law) := by
  have e := hfa.symm.trans (PySem.W.mg_of X G a_law)
  cases e
  have T : Bi mg := ⟨PySem.W.mg_none_of X G z_isinstance, PySem.W.mg_none_of X G z_int, PySem.W.mg_none_of X G z_bool, PySem.W.mg_none_of X G z_tuple, PySem.W.mg_none_of X G z_list, PySem.W.mg_none_of X G z_str, PySem.W.mg_none_of X G z_len, PySem.W.mg_none_of X G z_range, PySem.W.mg_none_of X G z_zip, PySem.W.mg_none_of X G z_sorted, PySem.W.mg_none_of X G z_min, PySem.W.mg_none_of X G z_max, PySem.W.mg_none_of X G z_enumerate, PySem.W.mg_none_of X G z_set⟩
  have E_InvalidGraph : ExcAt K mg "InvalidGraph" C_InvalidGraph := ⟨PySem.W.mg_of X G ca_InvalidGraph, cx_InvalidGraph, ck_InvalidGraph, cb_InvalidGraph, ct_InvalidGraph⟩
  have E_InvalidDirections : ExcAt K mg "InvalidDirections" C_InvalidDirections := ⟨PySem.W.mg_of X G ca_InvalidDirections, cx_InvalidDirections, ck_InvalidDirections, cb_InvalidDirections, ct_InvalidDirections⟩
  have M_MAX_POINTS := PySem.W.mg_of X G m_MAX_POINTS
  have F_in_range : FunAt K mg "in_range" s_in_range := ⟨_, _, fun_mk (st := s_in_range) l_in_range c_in_range k_in_range, PySem.W.mg_of X G a_in_range⟩
  have F_is_edge : FunAt K mg "is_edge" s_is_edge := ⟨_, _, fun_mk (st := s_is_edge) l_is_edge c_is_edge k_is_edge, PySem.W.mg_of X G a_is_edge⟩
  have F_is_graph : FunAt K mg "is_graph" s_is_graph := ⟨_, _, fun_mk (st := s_is_graph) l_is_graph c_is_graph k_is_graph, PySem.W.mg_of X G a_is_graph⟩
  have F_check_graph : FunAt K mg "check_graph" s_check_graph := ⟨_, _, fun_mk (st := s_check_graph) l_check_graph c_check_graph k_check_graph, PySem.W.mg_of X G a_check_graph⟩
  have F_are_directions : FunAt K mg "are_directions" s_are_directions := ⟨_, _, fun_mk (st := s_are_directions) l_are_directions c_are_directions k_are_directions, PySem.W.mg_of X G a_are_directions⟩
  have F_check_directions : FunAt K mg "check_directions" s_check_directions := ⟨_, _, fun_mk (st := s_check_directions) l_check_directions c_check_directions k_check_directions, PySem.W.mg_of X G a_check_directions⟩
  have F_arrows : FunAt K mg "arrows" s_arrows := ⟨_, _, fun_mk (st := s_arrows) l_arrows c_arrows k_arrows, PySem.W.mg_of X G a_arrows⟩
  have F_fault_of : FunAt K mg "fault_of" s_fault_of := ⟨_, _, fun_mk (st := s_fault_of) l_fault_of c_fault_of k_fault_of, PySem.W.mg_of X G a_fault_of⟩
  have F_fault : FunAt K mg "fault" s_fault := ⟨_, _, fun_mk (st := s_fault) l_fault c_fault k_fault, PySem.W.mg_of X G a_fault⟩
  have F_are_through : FunAt K mg "are_through" s_are_through := ⟨_, _, fun_mk (st := s_are_through) l_are_through c_are_through k_are_through, PySem.W.mg_of X G a_are_through⟩
  have F__law_cell : FunAt K mg "_law_cell" s__law_cell := ⟨_, _, fun_mk (st := s__law_cell) l__law_cell c__law_cell k__law_cell, PySem.W.mg_of X G a__law_cell⟩
  have F__law_row : FunAt K mg "_law_row" s__law_row := ⟨_, _, fun_mk (st := s__law_row) l__law_row c__law_row k__law_row, PySem.W.mg_of X G a__law_row⟩
  have F__law_pairs : FunAt K mg "_law_pairs" s__law_pairs := ⟨_, _, fun_mk (st := s__law_pairs) l__law_pairs c__law_pairs k__law_pairs, PySem.W.mg_of X G a__law_pairs⟩
  have F__law_graph : FunAt K mg "_law_graph" s__law_graph := ⟨_, _, fun_mk (st := s__law_graph) l__law_graph c__law_graph k__law_graph, PySem.W.mg_of X G a__law_graph⟩
  have F__law_arrows : FunAt K mg "_law_arrows" s__law_arrows := ⟨_, _, fun_mk (st := s__law_arrows) l__law_arrows c__law_arrows k__law_arrows, PySem.W.mg_of X G a__law_arrows⟩
  have F__law_faults : FunAt K mg "_law_faults" s__law_faults := ⟨_, _, fun_mk (st := s__law_faults) l__law_faults c__law_faults k__law_faults, PySem.W.mg_of X G a__law_faults⟩
  refine ⟨PySem.W.fnOf "law" "law" (defArgs s_law) (defBody s_law) (defScope s_law) .none kV_law dc_law pm_law an_law cd_law ct_law, fun s v => .of_eq rfl, fun base _ _ => ?_⟩
  have h_in_range := has_in_range (P := l.prog) (w := w) (base := base) T F_in_range
  have h_is_edge := has_is_edge T F_is_edge h_in_range
  have h_is_graph := has_is_graph T (.inr ⟨_, M_MAX_POINTS⟩) F_is_graph h_in_range h_is_edge
  have h_check_graph := has_check_graph T F_check_graph h_is_graph E_InvalidGraph
  have h_are_directions := has_are_directions T F_are_directions h_in_range
  have h_check_directions := has_check_directions T F_check_directions h_check_graph h_are_directions E_InvalidDirections
  have h_arrows := has_arrows (P := l.prog) (w := w) (base := base) T F_arrows
  have h_fault_of := has_fault_of T F_fault_of h_arrows
  have h_fault := has_fault T F_fault h_check_directions h_fault_of
  have h_are_through := has_are_through T F_are_through h_check_directions h_fault_of
  have h_cell := has_cell (P := l.prog) (w := w) (base := base) T F__law_cell
  have h_row := has_row T F__law_row h_cell
  have h_pairs := has_pairs (P := l.prog) (w := w) (base := base) T F__law_pairs
  have h_graph := has_graph T F__law_graph h_row h_pairs
  have h_larrows := has_larrows (P := l.prog) (w := w) (base := base) T F__law_arrows
  have h_lfaults := has_lfaults T F__law_faults h_larrows
  exact ok_law T (fun_mk (st := s_law) l_law c_law k_law) h_row h_graph h_fault h_are_through h_larrows h_lfaults
end Tr
open PySem PySem.W PyProof.Rows
set_option maxRecDepth 100000 in
set_option maxHeartbeats 0 in
theorem PySem.Challenge.cw_throughroads_k02_faults_holds : PySem.Challenge.rw_throughroads_k02_faults.Holds := by
  w_on; o_law; k_head; (case hw => w_witness2)
  k_fill
  refine L2.walk_of (l := PySem.Challenge.rw_throughroads_k02_faults) (n := 63) (k := 7) (x := "script") (CX := fun w => L2.CX (PySem.Challenge.rw_throughroads_k02_faults).prog w) (sp := fun w => DL.spS _ Tr.R_law) rfl (by decide) rfl ⟨rfl, by decide, by decide⟩ (fun w h Y => PySem.W.kIn_of Y) ?F (fun _ H a ns hl _ hS => ⟨H, a, ns, [], [], .ok (.bool true), rfl, DL.Ex.refl H, hS, DL.Dts.nil, ⟨rfl, rfl⟩, fun v F' H' g k => k.isB⟩) (fun _ _ _ _ _ z => by obtain ⟨_, _, _, _, _, _, _, _, _, _, _, _, z⟩ := z; exact z.elim)
  case F =>
    intro w mg fa h KX G hmg
    refine' Tr.all_mk KX G hmg ?a_in_range ?l_in_range ?c_in_range ?k_in_range ?a_is_edge ?l_is_edge ?c_is_edge ?k_is_edge ?a_is_graph ?l_is_graph ?c_is_graph ?k_is_graph ?a_check_graph ?l_check_graph ?c_check_graph ?k_check_graph ?a_are_directions ?l_are_directions ?c_are_directions ?k_are_directions ?a_check_directions ?l_check_directions ?c_check_directions ?k_check_directions ?a_arrows ?l_arrows ?c_arrows ?k_arrows ?a_fault_of ?l_fault_of ?c_fault_of ?k_fault_of ?a_fault ?l_fault ?c_fault ?k_fault ?a_are_through ?l_are_through ?c_are_through ?k_are_through ?a__law_cell ?l__law_cell ?c__law_cell ?k__law_cell ?a__law_row ?l__law_row ?c__law_row ?k__law_row ?a__law_pairs ?l__law_pairs ?c__law_pairs ?k__law_pairs ?a__law_graph ?l__law_graph ?c__law_graph ?k__law_graph ?a__law_arrows ?l__law_arrows ?c__law_arrows ?k__law_arrows ?a__law_faults ?l__law_faults ?c__law_faults ?k__law_faults ?a_law ?l_law ?c_law ?k_law ?ca_InvalidGraph ?cx_InvalidGraph ?ck_InvalidGraph ?cb_InvalidGraph ?ct_InvalidGraph ?ca_InvalidDirections ?cx_InvalidDirections ?ck_InvalidDirections ?cb_InvalidDirections ?ct_InvalidDirections ?m_MAX_POINTS ?z_isinstance ?z_int ?z_bool ?z_tuple ?z_list ?z_str ?z_len ?z_range ?z_zip ?z_sorted ?z_min ?z_max ?z_enumerate ?z_set
    (case a_in_range => k_is)
    (case l_in_range => k_is)
    (case c_in_range => k_is)
    (case k_in_range => k_is)
    (case a_is_edge => k_is)
    (case l_is_edge => k_is)
    (case c_is_edge => k_is)
    (case k_is_edge => k_is)
    (case a_is_graph => k_is)
    (case l_is_graph => k_is)
    (case c_is_graph => k_is)
    (case k_is_graph => k_is)
    (case a_check_graph => k_is)
    (case l_check_graph => k_is)
    (case c_check_graph => k_is)
    (case k_check_graph => k_is)
    (case a_are_directions => k_is)
    (case l_are_directions => k_is)
    (case c_are_directions => k_is)
    (case k_are_directions => k_is)
    (case a_check_directions => k_is)
    (case l_check_directions => k_is)
    (case c_check_directions => k_is)
    (case k_check_directions => k_is)
    (case a_arrows => k_is)
    (case l_arrows => k_is)
    (case c_arrows => k_is)
    (case k_arrows => k_is)
    (case a_fault_of => k_is)
    (case l_fault_of => k_is)
    (case c_fault_of => k_is)
    (case k_fault_of => k_is)
    (case a_fault => k_is)
    (case l_fault => k_is)
    (case c_fault => k_is)
    (case k_fault => k_is)
    (case a_are_through => k_is)
    (case l_are_through => k_is)
    (case c_are_through => k_is)
    (case k_are_through => k_is)
    (case a__law_cell => k_is)
    (case l__law_cell => k_is)
    (case c__law_cell => k_is)
    (case k__law_cell => k_is)
    (case a__law_row => k_is)
    (case l__law_row => k_is)
    (case c__law_row => k_is)
    (case k__law_row => k_is)
    (case a__law_pairs => k_is)
    (case l__law_pairs => k_is)
    (case c__law_pairs => k_is)
    (case k__law_pairs => k_is)
    (case a__law_graph => k_is)
    (case l__law_graph => k_is)
    (case c__law_graph => k_is)
    (case k__law_graph => k_is)
    (case a__law_arrows => k_is)
    (case l__law_arrows => k_is)
    (case c__law_arrows => k_is)
    (case k__law_arrows => k_is)
    (case a__law_faults => k_is)
    (case l__law_faults => k_is)
    (case c__law_faults => k_is)
    (case k__law_faults => k_is)
    (case a_law => k_is)
    (case l_law => k_is)
    (case c_law => k_is)
    (case k_law => k_is)
    (case ca_InvalidGraph => k_is)
    (case cx_InvalidGraph => first | k_exc | k_is)
    (case ck_InvalidGraph => k_is)
    (case cb_InvalidGraph => k_is)
    (case ct_InvalidGraph => k_is)
    (case ca_InvalidDirections => k_is)
    (case cx_InvalidDirections => first | k_exc | k_is)
    (case ck_InvalidDirections => k_is)
    (case cb_InvalidDirections => k_is)
    (case ct_InvalidDirections => k_is)
    (case m_MAX_POINTS => k_is)
    (case z_isinstance => k_is)
    (case z_int => k_is)
    (case z_bool => k_is)
    (case z_tuple => k_is)
    (case z_list => k_is)
    (case z_str => k_is)
    (case z_len => k_is)
    (case z_range => k_is)
    (case z_zip => k_is)
    (case z_sorted => k_is)
    (case z_min => k_is)
    (case z_max => k_is)
    (case z_enumerate => k_is)
    (case z_set => k_is)
