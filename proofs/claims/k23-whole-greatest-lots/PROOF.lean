import PyProof.Rows.All
import Wide.All
import OpenK.AllK
import Wide.FinOn
import HandS.ForMost
import HandS.IsInst
import HandS.TupLe
import HandS.Deep
import HandS.Replace
import HandS.TupAny
import HandS.SortInts
import KE.GoesEnum
import KE.SortData
import HandS.DictComp
import HandS.More
import HandS.Conv
import PyProof.DictUpdate
import PyProof.WalkInts
import HandS.Exc
import HandS.ExcOwn
import HandS.ExcInit
import HandS.ExcField
import HandS.WordsExc
import KE.KDictDisplayH
import HandS.SetFor
import PySem.Challenge.RW_chumwords_k23_whole_greatest_lots
set_option Elab.async false
set_option linter.all false
set_option maxRecDepth 100000
set_option maxHeartbeats 4000000
/-! The data layer: values as data (PyData), an environment of data, expressions evaluated to data. -/
namespace DL
open PySem PySem.Spec PyProof.Rows L2

abbrev D := PyData
abbrev Rho := List (Option D)

/-! ### the heap without some addresses -/
def hid (F : List Addr) (H : Hp) : Hp := fun a => if a ∈ F then none else H a
theorem hid_in {F : List Addr} {H : Hp} {a : Addr} (h : a ∈ F) : hid F H a = none := by unfold hid; rw [if_pos h]
theorem hid_out {F : List Addr} {H : Hp} {a : Addr} (h : a ∉ F) : hid F H a = H a := by unfold hid; rw [if_neg h]
theorem hid_some {F : List Addr} {H : Hp} {a : Addr} {o : HO} (h : hid F H a = some o) : a ∉ F ∧ H a = some o := by
  by_cases m : a ∈ F
  · rw [hid_in m] at h; cases h
  · rw [hid_out m] at h; exact ⟨m, h⟩
theorem hid_le {F : List Addr} {H : Hp} : Same (hid F H) H := fun a o h => (hid_some h).2
theorem hid_mono {F : List Addr} {H H' : Hp} (e : Same H H') : Same (hid F H) (hid F H') := fun a o h => by
  obtain ⟨m, h⟩ := hid_some h
  rw [hid_out m]
  exact e a o h
theorem hid_sub {F F' : List Addr} {H : Hp} (e : ∀ a, a ∈ F → a ∈ F') : Same (hid F' H) (hid F H) := fun a o h => by
  obtain ⟨m, h⟩ := hid_some h
  rw [hid_out fun z => m (e a z)]
  exact h
theorem hid_nil {H : Hp} : hid [] H = H := by funext a; exact hid_out (by simp)
def Live (F : List Addr) (H : Hp) : Prop := ∀ a, a ∈ F → H a ≠ none
theorem Live.mono {F : List Addr} {H H' : Hp} (l : Live F H) (e : Same H H') : Live F H' := fun a m => by
  cases h : H a with
  | none => exact absurd h (l a m)
  | some o => rw [e a o h]; exact fun z => nomatch z
theorem Live.nil {H : Hp} : Live [] H := fun _ m => by simp at m
/-- a new address is not hidden -/
theorem Live.out {F : List Addr} {H : Hp} {p : Addr} (l : Live F H) (h : H p = none) : p ∉ F := fun m => l p m h
/-- the heap grew by a new object: what is seen without it -/
theorem hid_new {F : List Addr} {H H' : Hp} {p : Addr} (h : H p = none) (e : Same H H') : Same (hid F H) (hid (p :: F) H') := fun a o q => by
  obtain ⟨m, q⟩ := hid_some q
  have : a ≠ p := ne_of_none q h
  rw [hid_out (by simp [this, m])]
  exact e a o q
theorem same_upd {H : Hp} {p : Addr} {o : HO} (h : H p = none) : Same H (upd H p o) := fun b x e => by
  rw [upd_ne (ne_of_none e h)]
  exact e

/-! ### data -/
theorem seqT {K : PySem.W.Frag} {H H' : Hp} {a : Addr} {xs : List V} (e : Same H H') (h : SqT K H a xs) : SqT K H' a xs := by
  rcases h with (h | ⟨o, h⟩) | h
  · exact .inl (.inl (e _ _ h))
  · exact .inl (.inr ⟨o, e _ _ h⟩)
  · exact .inr h
mutual
theorem dp_mono {K : PySem.W.Frag} {H H' : Hp} (e : Same H H') : ∀ {v : V} {d : D}, Dp K H v d → Dp K H' v d
  | _, _, .non => .non
  | _, _, .bl b => .bl b
  | _, _, .int i => .int i
  | _, _, .str x => .str x
  | _, _, .lst h1 h2 => .lst (e.seq h1) (dpAll_mono e h2)
  | _, _, .tup h1 h2 => .tup (seqT e h1) (dpAll_mono e h2)
theorem dpAll_mono {K : PySem.W.Frag} {H H' : Hp} (e : Same H H') : ∀ {vs : List V} {ds : List D}, DpAll K H vs ds → DpAll K H' vs ds
  | _, _, .nil => .nil
  | _, _, .cons h1 h2 => .cons (dp_mono e h1) (dpAll_mono e h2)
end
theorem DpAll.length {K : PySem.W.Frag} {H : Hp} : ∀ {vs : List V} {ds : List D}, DpAll K H vs ds → vs.length = ds.length
  | _, _, .nil => rfl
  | _, _, .cons _ h => congrArg (· + 1) (DpAll.length h)
theorem DpAll.get {K : PySem.W.Frag} {H : Hp} : ∀ {vs : List V} {ds : List D} {i : Nat} {d : D}, DpAll K H vs ds → ds[i]? = some d → ∃ v, vs[i]? = some v ∧ Dp K H v d
  | _, _, _, _, .nil, e => by simp at e
  | _, _, 0, _, .cons h _, e => by simp at e; subst e; exact ⟨_, rfl, h⟩
  | _, _, i + 1, _, .cons _ h, e => by
    obtain ⟨v, h1, h2⟩ := DpAll.get (i := i) h (by simpa using e)
    exact ⟨v, by simpa using h1, h2⟩
theorem DpAll.getV {K : PySem.W.Frag} {H : Hp} : ∀ {vs : List V} {ds : List D} {i : Nat} {v : V}, DpAll K H vs ds → vs[i]? = some v → ∃ d, ds[i]? = some d ∧ Dp K H v d
  | _, _, _, _, .nil, e => by simp at e
  | _, _, 0, _, .cons h _, e => by simp at e; subst e; exact ⟨_, rfl, h⟩
  | _, _, i + 1, _, .cons _ h, e => by
    obtain ⟨v, h1, h2⟩ := DpAll.getV (i := i) h (by simpa using e)
    exact ⟨v, by simpa using h1, h2⟩
theorem DpAll.append {K : PySem.W.Frag} {H : Hp} : ∀ {vs us : List V} {ds es : List D}, DpAll K H vs ds → DpAll K H us es → DpAll K H (vs ++ us) (ds ++ es)
  | _, _, _, _, .nil, g => g
  | _, _, _, _, .cons a h, g => .cons a (DpAll.append h g)
theorem DpAll.one {K : PySem.W.Frag} {H : Hp} {v : V} {d : D} (h : Dp K H v d) : DpAll K H [v] [d] := .cons h .nil
theorem DpAll.set {K : PySem.W.Frag} {H : Hp} {v : V} {d : D} (h : Dp K H v d) : ∀ {vs : List V} {ds : List D} (i : Nat), DpAll K H vs ds → DpAll K H (vs.set i v) (ds.set i d)
  | _, _, _, .nil => .nil
  | _, _, 0, .cons _ t => .cons h t
  | _, _, i + 1, .cons a t => .cons a (DpAll.set h i t)

/-- dicts whose values are all True: keys ints, keys tuples of ints -/
def dictI (ks : List Int) : D := .dict (ks.map fun k => (.int k, .bool true))
def dictT (ks : List (List Int)) : D := .dict (ks.map fun k => (.tuple (k.map .int), .bool true))
def kvI (ks : List Int) : List (Key × V) := ks.map fun k => (Sum.inl k, V.bl true)
def kvT (ks : List (List Int)) : List (List Key × V) := ks.map fun k => (k.map Sum.inl, V.bl true)
/-- a value stands for a datum -/
def Rp (K : PySem.W.Frag) (H : Hp) (v : V) (d : D) : Prop :=
  Dp K H v d ∨ (∃ a ks, v = .ref a ∧ d = dictI ks ∧ H a = some (.dK (kvI ks))) ∨ (∃ a ks, v = .ref a ∧ d = dictT ks ∧ H a = some (.dT (kvT ks)))
theorem rp_mono {K : PySem.W.Frag} {H H' : Hp} (e : Same H H') {v : V} {d : D} (h : Rp K H v d) : Rp K H' v d := by
  rcases h with h | ⟨a, ks, rfl, rfl, h⟩ | ⟨a, ks, rfl, rfl, h⟩
  · exact .inl (dp_mono e h)
  · exact .inr (.inl ⟨a, ks, rfl, rfl, e _ _ h⟩)
  · exact .inr (.inr ⟨a, ks, rfl, rfl, e _ _ h⟩)
def isDict : D → Bool
  | .dict _ => true
  | _ => false
theorem Rp.dp {K : PySem.W.Frag} {H : Hp} {v : V} {d : D} (h : Rp K H v d) (n : isDict d = false) : Dp K H v d := by
  rcases h with h | ⟨a, ks, rfl, rfl, h⟩ | ⟨a, ks, rfl, rfl, h⟩
  · exact h
  · cases n
  · cases n
section
variable {K : PySem.W.Frag} {H : Hp} {v : V}
theorem Rp.i {i : Int} (h : Rp K H v (.int i)) : v = .int i := by cases h.dp rfl; rfl
theorem Rp.b {b : Bool} (h : Rp K H v (.bool b)) : v = .bl b := by cases h.dp rfl; rfl
theorem Rp.s {x : Str} (h : Rp K H v (.str x)) : v = .str x := by cases h.dp rfl; rfl
theorem Rp.n (h : Rp K H v .none) : v = .non := by cases h.dp rfl; rfl
theorem Rp.t {ds : List D} (h : Rp K H v (.tuple ds)) : ∃ a vs, v = .ref a ∧ SqT K H a vs ∧ DpAll K H vs ds := by
  cases h.dp rfl with
  | tup h1 h2 => exact ⟨_, _, rfl, h1, h2⟩
theorem Rp.l {ds : List D} (h : Rp K H v (.list ds)) : ∃ a vs, v = .ref a ∧ SqL K H a vs ∧ DpAll K H vs ds := by
  cases h.dp rfl with
  | lst h1 h2 => exact ⟨_, _, rfl, h1, h2⟩
theorem map_inj' {α β : Type} {f : α → β} (hf : ∀ a b, f a = f b → a = b) : ∀ {l m : List α}, l.map f = m.map f → l = m
  | [], [], _ => rfl
  | [], _ :: _, h => by cases h
  | _ :: _, [], h => by cases h
  | a :: l, b :: m, h => by
    rw [List.map_cons, List.map_cons] at h
    injection h with h1 h2
    rw [hf a b h1, map_inj' hf h2]
theorem kvI_of {ks ls : List Int} (h : dictI ks = dictI ls) : ks = ls := by
  injection h with h
  exact map_inj' (fun a b h => by injection h with h1 h2; injection h1) h
theorem dictIT {ks : List Int} {ls : List (List Int)} (h : dictI ks = dictT ls) : ks = [] ∧ ls = [] := by
  injection h with h
  cases ks with
  | nil => cases ls with
    | nil => exact ⟨rfl, rfl⟩
    | cons _ _ => cases h
  | cons _ _ => cases ls with
    | nil => cases h
    | cons _ _ =>
      rw [List.map_cons, List.map_cons] at h
      injection h with h1 h2
      injection h1 with h1 h3
      cases h1
theorem Rp.dI {ks : List Int} (hk : ks ≠ []) (h : Rp K H v (dictI ks)) : ∃ a, v = .ref a ∧ H a = some (.dK (kvI ks)) := by
  rcases h with h | ⟨a, ls, rfl, e, h⟩ | ⟨a, ls, rfl, e, h⟩
  · cases h
  · rw [kvI_of e]; exact ⟨a, rfl, h⟩
  · exact absurd (dictIT e).1 hk
theorem rp_i {i : Int} : Rp K H (.int i) (.int i) := .inl (.int i)
theorem rp_b {b : Bool} : Rp K H (.bl b) (.bool b) := .inl (.bl b)
theorem rp_s {x : Str} : Rp K H (.str x) (.str x) := .inl (.str x)
theorem rp_n : Rp K H .non .none := .inl .non
end
/-- flat data hang on no heap -/
def flatD : D → Bool
  | .none | .bool _ | .int _ | .str _ => true
  | _ => false
theorem Rp.flat {K : PySem.W.Frag} {H H' : Hp} {v : V} {d : D} (h : Rp K H v d) (f : flatD d = true) : Rp K H' v d := by
  cases d with
  | none => rw [h.n]; exact rp_n
  | bool b => rw [h.b]; exact rp_b
  | int i => rw [h.i]; exact rp_i
  | str x => rw [h.s]; exact rp_s
  | list _ => cases f
  | tuple _ => cases f
  | dict _ => cases f

/-! ### the environment -/
structure EnvOk (K : PySem.W.Frag) (F : List Addr) (H : Hp) (σ : L2.St) (ρ : Rho) : Prop where
  len : σ.length = ρ.length
  at_ : ∀ (i : Nat) (d : D), ρ[i]? = some (some d) → ∃ v, σ[i]? = some (some v) ∧ Rp K (hid F H) v d
section
variable {K : PySem.W.Frag} {F F' : List Addr} {H H' : Hp} {σ : L2.St} {ρ : Rho}
theorem EnvOk.mono (e : EnvOk K F H σ ρ) (s : Same (hid F H) (hid F' H')) : EnvOk K F' H' σ ρ := ⟨e.len, fun i d h => by
  obtain ⟨v, h1, h2⟩ := e.at_ i d h
  exact ⟨v, h1, rp_mono s h2⟩⟩
theorem EnvOk.same (e : EnvOk K F H σ ρ) (s : Same H H') : EnvOk K F H' σ ρ := e.mono (hid_mono s)
theorem EnvOk.set (e : EnvOk K F H σ ρ) {i : Nat} {v : V} {d : D} (h : Rp K (hid F H) v d) : EnvOk K F H (σ.set i (some v)) (ρ.set i (some d)) := by
  refine ⟨by rw [List.length_set, List.length_set]; exact e.len, fun j x hj => ?_⟩
  by_cases q : i = j
  · subst q
    have hl : i < ρ.length := by
      have := (List.getElem?_eq_some_iff.mp hj).1
      rw [List.length_set] at this
      exact this
    rw [List.getElem?_set_self hl] at hj
    cases hj
    exact ⟨v, by rw [List.getElem?_set_self (by rw [e.len]; exact hl)], h⟩
  · rw [List.getElem?_set_ne q] at hj
    rw [List.getElem?_set_ne q]
    exact e.at_ j x hj
/-- a slot whose value is not told -/
theorem EnvOk.setN (e : EnvOk K F H σ ρ) {i : Nat} {v : Option V} : EnvOk K F H (σ.set i v) (ρ.set i none) := by
  refine ⟨by rw [List.length_set, List.length_set]; exact e.len, fun j x hj => ?_⟩
  by_cases q : i = j
  · subst q
    have hl : i < ρ.length := by
      have := (List.getElem?_eq_some_iff.mp hj).1
      rw [List.length_set] at this
      exact this
    rw [List.getElem?_set_self hl] at hj
    cases hj
  · rw [List.getElem?_set_ne q] at hj
    rw [List.getElem?_set_ne q]
    exact e.at_ j x hj
/-- forgetting -/
theorem EnvOk.weak {ρ' : Rho} (e : EnvOk K F H σ ρ) (hl : ρ'.length = ρ.length) (h : ∀ (i : Nat) (d : D), ρ'[i]? = some (some d) → ρ[i]? = some (some d)) : EnvOk K F H σ ρ' :=
  ⟨e.len.trans hl.symm, fun i d q => e.at_ i d (h i d q)⟩
end
def wipeR (ρ : Rho) : List Nat → Rho
  | [] => ρ
  | i :: r => wipeR (ρ.set i none) r
end DL
set_option Elab.async false
set_option linter.all false
set_option maxRecDepth 100000
set_option maxHeartbeats 4000000
/-! Expressions evaluated to data. -/
namespace DL
open PySem PySem.Spec PyProof.Rows L2

/-! ### the weakest reading of a piece of syntax -/
def cE (X : Cx) (e : Expr) : TE := fun σ H Q => ∀ (pins : List (Addr × Obj)) (s : Shared), Inv X pins σ H s → wpAny (model X.prog X.w) X.A (eval e X.env) (EP X pins σ Q) X.xe s
def cT (X : Cx) (e : Expr) : TT := fun σ H Q => ∀ (pins : List (Addr × Obj)) (s : Shared), Inv X pins σ H s → wpAny (model X.prog X.w) X.A (isTrue e X.env (eval e X.env)) (TP X pins σ Q) X.xe s
def cW (X : Cx) (e : Expr) : TT := fun σ H Q => ∀ (whole : Sem Value) (pins : List (Addr × Obj)) (s : Shared), Inv X pins σ H s → wpAny (model X.prog X.w) X.A (isTrue e X.env whole) (TP X pins σ Q) X.xe s
def cA (X : Cx) (es : List Expr) : TA := fun σ H Q => ∀ (pos : Pos) (pins : List (Addr × Obj)) (s : Shared), Inv X pins σ H s → wpAny (model X.prog X.w) X.A (spliced (backTo pos (starEach es X.env))) (AP X pins σ Q) X.xe s
section
variable {X : Cx} {e : Expr} {es : List Expr} {σ : L2.St} {H : Hp}
theorem pE : PE X e (cE X e) := ⟨fun pins s _ _ _ I h => h pins s I⟩
theorem pT : PT X e (cT X e) := ⟨fun pins s _ _ _ I h => h pins s I⟩
theorem pW : PW X e (cW X e) := ⟨fun wh pins s _ _ _ I h => h wh pins s I⟩
theorem pA : PA X es (cA X es) := ⟨fun pos pins s _ _ _ I h => h pos pins s I⟩
theorem cE_of {t : TE} {Q : VK} (h : PE X e t) (q : t σ H Q) : cE X e σ H Q := fun pins s I => h.run pins s σ H Q I q
theorem cT_of {t : TT} {Q : Bool → Hp → Prop} (h : PT X e t) (q : t σ H Q) : cT X e σ H Q := fun pins s I => h.run pins s σ H Q I q
theorem cW_of {t : TT} {Q : Bool → Hp → Prop} (h : PW X e t) (q : t σ H Q) : cW X e σ H Q := fun wh pins s I => h.run wh pins s σ H Q I q
theorem cA_of {t : TA} {Q : List V → Hp → Prop} (h : PA X es t) (q : t σ H Q) : cA X es σ H Q := fun pos pins s I => h.run pos pins s σ H Q I q
end

/-! ### what evaluates to what -/
inductive RpAll (K : PySem.W.Frag) (H : Hp) : List V → List D → Prop
  | nil : RpAll K H [] []
  | cons {v : V} {vs : List V} {d : D} {ds : List D} : Rp K H v d → RpAll K H vs ds → RpAll K H (v :: vs) (d :: ds)
theorem rpAll_mono {K : PySem.W.Frag} {H H' : Hp} (e : Same H H') : ∀ {vs : List V} {ds : List D}, RpAll K H vs ds → RpAll K H' vs ds
  | _, _, .nil => .nil
  | _, _, .cons h1 h2 => .cons (rp_mono e h1) (rpAll_mono e h2)
def nodict : List D → Bool
  | [] => true
  | d :: ds => !isDict d && nodict ds
theorem RpAll.dp {K : PySem.W.Frag} {H : Hp} : ∀ {vs : List V} {ds : List D}, RpAll K H vs ds → nodict ds = true → DpAll K H vs ds
  | _, _, .nil, _ => .nil
  | _, _, .cons (d := d) h1 h2, n => by
    rw [nodict, Bool.and_eq_true] at n
    exact .cons (h1.dp (by cases q : isDict d with | false => rfl | true => rw [q] at n; exact absurd n.1 (by decide))) (h2.dp n.2)
theorem RpAll.length {K : PySem.W.Frag} {H : Hp} : ∀ {vs : List V} {ds : List D}, RpAll K H vs ds → vs.length = ds.length
  | _, _, .nil => rfl
  | _, _, .cons _ h => congrArg (· + 1) (RpAll.length h)

def Ev (K : PySem.W.Frag) (te : TE) (ρ : Rho) (d : D) : Prop := ∀ (F : List Addr) (σ : L2.St) (H : Hp), EnvOk K F H σ ρ → Live F H → ∀ Q : VK, (∀ v H', Same H H' → Rp K (hid F H') v d → Q v H') → te σ H Q
def EvT (K : PySem.W.Frag) (tt : TT) (ρ : Rho) (b : Bool) : Prop := ∀ (F : List Addr) (σ : L2.St) (H : Hp), EnvOk K F H σ ρ → Live F H → ∀ Q : Bool → Hp → Prop, (∀ H', Same H H' → Q b H') → tt σ H Q
def EvA (K : PySem.W.Frag) (ta : TA) (ρ : Rho) (ds : List D) : Prop := ∀ (F : List Addr) (σ : L2.St) (H : Hp), EnvOk K F H σ ρ → Live F H → ∀ Q : List V → Hp → Prop, (∀ vs H', Same H H' → RpAll K (hid F H') vs ds → Q vs H') → ta σ H Q
/-- a new list, a new dict of ints -/
def EvN (K : PySem.W.Frag) (te : TE) (ρ : Rho) (ds : List D) : Prop := ∀ (F : List Addr) (σ : L2.St) (H : Hp), EnvOk K F H σ ρ → Live F H → ∀ Q : VK, (∀ p H' vs, H p = none → Same H H' → H' p = some (.lst vs) → DpAll K (hid (p :: F) H') vs ds → Q (.ref p) H') → te σ H Q
abbrev XE (X : Cx) (ρ : Rho) (e : Expr) (d : D) : Prop := Ev X.K (cE X e) ρ d
abbrev XT (X : Cx) (ρ : Rho) (e : Expr) (b : Bool) : Prop := EvT X.K (cT X e) ρ b
abbrev XW (X : Cx) (ρ : Rho) (e : Expr) (b : Bool) : Prop := EvT X.K (cW X e) ρ b
abbrev XA (X : Cx) (ρ : Rho) (es : List Expr) (ds : List D) : Prop := EvA X.K (cA X es) ρ ds
abbrev XN (X : Cx) (ρ : Rho) (e : Expr) (ds : List D) : Prop := EvN X.K (cE X e) ρ ds

section
variable {X : Cx} {ρ : Rho} {e a b c : Expr} {es : List Expr} {pos p : Pos} {d x y z : D} {ds : List D}
theorem xe_of {t : TE} (h : PE X e t) (q : Ev X.K t ρ d) : XE X ρ e d := fun F σ H en li Q k => cE_of h (q F σ H en li Q k)
theorem xt_of {t : TT} {k : Bool} (h : PT X e t) (q : EvT X.K t ρ k) : XT X ρ e k := fun F σ H en li Q g => cT_of h (q F σ H en li Q g)
theorem xw_of {t : TT} {k : Bool} (h : PW X e t) (q : EvT X.K t ρ k) : XW X ρ e k := fun F σ H en li Q g => cW_of h (q F σ H en li Q g)
theorem xa_of {t : TA} (h : PA X es t) (q : EvA X.K t ρ ds) : XA X ρ es ds := fun F σ H en li Q g => cA_of h (q F σ H en li Q g)
theorem xn_of {t : TE} (h : PE X e t) (q : EvN X.K t ρ ds) : XN X ρ e ds := fun F σ H en li Q k => cE_of h (q F σ H en li Q k)
theorem xe_is (h : XE X ρ e x) (q : x = y) : XE X ρ e y := q ▸ h
theorem xt_is {k l : Bool} (h : XT X ρ e k) (q : k = l) : XT X ρ e l := q ▸ h
/-- a new list is a list -/
theorem xn_e (h : XN X ρ e ds) : XE X ρ e (.list ds) := fun F σ H en li Q k => h F σ H en li _ fun p H' vs hp s e1 da => k _ _ s (.inl (.lst (.inl (.inl (by rw [hid_out (li.out hp)]; exact e1))) (dpAll_mono (hid_sub fun _ m => List.mem_cons_of_mem _ m) da)))

/-! ### names, constants -/
theorem ev_var {K : PySem.W.Frag} {i : Nat} (h : ρ[i]? = some (some d)) : Ev K (tVar i) ρ d := fun F σ H en li Q k => by
  obtain ⟨v, h1, h2⟩ := en.at_ i d h
  exact ⟨v, h1, k v H (Same.refl H) h2⟩
theorem xe_var (i : Nat) {n : Str} (h : ρ[i]? = some (some d) := by rfl) (hN : X.N[i]? = some n := by rfl) (hv : Vis X.env.scope n := by first | exact Or.inl rfl | exact Or.inr (Or.inl rfl) | exact Or.inr (Or.inr rfl)) (hd : (n == ("__debug__" : Str)) = false := by decide)
    (hcd : (n == ("__classdict__" : Str)) = false := by decide) : XE X ρ (.Name n pos) d := xe_of (pe_var hN hv hd hcd) (ev_var h)
theorem ev_c {K : PySem.W.Frag} {v : V} (h : ∀ H, Rp K H v d) : Ev K (tC v) ρ d := fun F σ H en li Q k => k v H (Same.refl H) (h _)
theorem xe_int {i : Int} {j : Nat} : XE X ρ (.Constant (.int i) j pos) (.int i) := xe_of pe_int (ev_c fun _ => rp_i)
theorem xe_bl {i : Bool} {j : Nat} : XE X ρ (.Constant (.bool i) j pos) (.bool i) := xe_of pe_bl (ev_c fun _ => rp_b)
theorem xe_non {j : Nat} : XE X ρ (.Constant .none j pos) .none := xe_of pe_non (ev_c fun _ => rp_n)
theorem xe_str {i : Str} {j : Nat} : XE X ρ (.Constant (.str i) j pos) (.str i) := xe_of pe_str (ev_c fun _ => rp_s)
theorem xe_globI {n : Str} {i : Int} {t : Tok} (hm : X.mg n = some (.int i t)) (hg : Gl X n := by rfl) (hd : (n == ("__debug__" : Str)) = false := by decide) : XE X ρ (.Name n pos) (.int i) := xe_of (pe_glob hg hm (v := .int i) ⟨_, rfl⟩ hd) (ev_c fun _ => rp_i)
theorem xe_globS {n : Str} {i : Str} {t : Tok} (hm : X.mg n = some (.str i t)) (hg : Gl X n := by rfl) (hd : (n == ("__debug__" : Str)) = false := by decide) : XE X ρ (.Name n pos) (.str i) := xe_of (pe_glob hg hm (v := .str i) ⟨_, rfl⟩ hd) (ev_c fun _ => rp_s)

/-! ### operations -/
/-- a two-place operation on data -/
def RV (K : PySem.W.Frag) (r : R2) (x y z : D) : Prop := ∀ (F : List Addr) (H : Hp), Live F H → ∀ u v, Rp K (hid F H) u x → Rp K (hid F H) v y → ∀ Q : VK, (∀ w H', Same H H' → Rp K (hid F H') w z → Q w H') → r u v H Q
theorem ev_op {K : PySem.W.Frag} {r : R2} {ta tb : TE} (ha : Ev K ta ρ x) (hb : Ev K tb ρ y) (hr : RV K r x y z) : Ev K (tOp r ta tb) ρ z := fun F σ H en li Q k =>
  ha F σ H en li _ fun u H1 s1 r1 => hb F σ H1 (en.same s1) (li.mono s1) _ fun v H2 s2 r2 => hr F H2 (li.mono (s1.trans s2)) u v (rp_mono (hid_mono s2) r1) r2 Q fun w H3 s3 r3 => k w H3 ((s1.trans s2).trans s3) r3
theorem xe_op {op : Operator} {r : R2} (ho : OpR X (binaryOp op) r) (ha : XE X ρ a x) (hb : XE X ρ b y) (hr : RV X.K r x y z) : XE X ρ (.BinOp a op b pos) z := xe_of (pe_op ho pE pE) (ev_op ha hb hr)
theorem xe_cmp {op : CmpOp} {r : R2} (ho : OpR X (compareOp op) r) (ha : XE X ρ a x) (hb : XE X ρ b y) (hm : behindInMarks op b = false) (hr : RV X.K r x y z) : XE X ρ (.Compare a [op] [b] pos) z := xe_of (pe_cmpR ho pE pE hm) (ev_op ha hb hr)
theorem xt_cmp {op : CmpOp} {r : R2} {k : Bool} (ho : OpR X (compareOp op) r) (ha : XE X ρ a x) (hb : XE X ρ b y) (hm : behindInMarks op b = false) (hr : RV X.K r x y (.bool k)) : XT X ρ (.Compare a [op] [b] pos) k :=
  xt_of (pt_cmpR ho pE pE hm) fun F σ H en li Q g => ev_op ha hb hr F σ H en li _ fun v H' s h => ⟨k, h.b, g H' s⟩
theorem xe_ix {r : R2} (hi : IxR X r) (ha : XE X ρ a x) (hb : XE X ρ b y) (hr : RV X.K r x y z) (hs : PlainIx b := by exact fun _ _ => rfl) : XE X ρ (.Subscript a b pos) z := xe_of (pe_ix hi pE pE hs) (ev_op ha hb hr)
theorem rv_I0 {K : PySem.W.Frag} {g : Int → Int → V} {i j : Int} (h : ∀ H, Rp K H (g i j) z) : RV K (rI0 g) (.int i) (.int j) z := fun F H li u v r1 r2 Q k => ⟨i, j, r1.i, r2.i, k _ H (Same.refl H) (h _)⟩
theorem rv_I {K : PySem.W.Frag} {C : Int → Int → Prop} {g : Int → Int → V} {i j : Int} (hc : C i j) (h : ∀ H, Rp K H (g i j) z) : RV K (rI C g) (.int i) (.int j) z := fun F H li u v r1 r2 Q k => ⟨i, j, r1.i, r2.i, hc, k _ H (Same.refl H) (h _)⟩
section
variable {i j : Int}
theorem xe_add (ha : XE X ρ a (.int i)) (hb : XE X ρ b (.int j)) : XE X ρ (.BinOp a .Add b pos) (.int (i + j)) := xe_op op_add ha hb (rv_I0 fun _ => rp_i)
theorem xe_sub (ha : XE X ρ a (.int i)) (hb : XE X ρ b (.int j)) : XE X ρ (.BinOp a .Sub b pos) (.int (i - j)) := xe_op op_sub ha hb (rv_I0 fun _ => rp_i)
theorem xe_mul (ha : XE X ρ a (.int i)) (hb : XE X ρ b (.int j)) (hc : CMul i j) : XE X ρ (.BinOp a .Mult b pos) (.int (i * j)) := xe_op op_mul ha hb (rv_I hc fun _ => rp_i)
theorem xe_fdiv (ha : XE X ρ a (.int i)) (hb : XE X ρ b (.int j)) (hc : CDiv i j) : XE X ρ (.BinOp a .FloorDiv b pos) (.int (i / j)) := xe_op op_fdiv ha hb (rv_I hc fun _ => rp_i)
theorem xe_mod (ha : XE X ρ a (.int i)) (hb : XE X ρ b (.int j)) (hc : 0 < j) : XE X ρ (.BinOp a .Mod b pos) (.int (i % j)) := xe_op op_mod ha hb (rv_I hc fun _ => rp_i)
theorem xe_pow (ha : XE X ρ a (.int i)) (hb : XE X ρ b (.int j)) (hc : CPow i j) : XE X ρ (.BinOp a .Pow b pos) (.int (i ^ j.toNat)) := xe_op op_pow ha hb (rv_I hc fun _ => rp_i)
theorem xe_shl (ha : XE X ρ a (.int i)) (hb : XE X ρ b (.int j)) (hc : CPow i j) : XE X ρ (.BinOp a .LShift b pos) (.int (i * 2 ^ j.toNat)) := xe_op op_shl ha hb (rv_I hc fun _ => rp_i)
theorem xe_shr (ha : XE X ρ a (.int i)) (hb : XE X ρ b (.int j)) (hc : 0 ≤ j) : XE X ρ (.BinOp a .RShift b pos) (.int (i / 2 ^ j.toNat)) := xe_op op_shr ha hb (rv_I hc fun _ => rp_i)
theorem xe_band (ha : XE X ρ a (.int i)) (hb : XE X ρ b (.int j)) : XE X ρ (.BinOp a .BitAnd b pos) (.int (Builtin.bitAnd i j)) := xe_op op_and ha hb (rv_I0 fun _ => rp_i)
theorem xe_bxor (ha : XE X ρ a (.int i)) (hb : XE X ρ b (.int j)) : XE X ρ (.BinOp a .BitXor b pos) (.int (Builtin.bitXor i j)) := xe_op op_xor ha hb (rv_I0 fun _ => rp_i)
end
/-! comparisons of ints -/
section
variable {i j : Int}
theorem xe_lt (ha : XE X ρ a (.int i)) (hb : XE X ρ b (.int j)) : XE X ρ (.Compare a [.Lt] [b] pos) (.bool (decide (i < j))) := xe_cmp op_lt ha hb (nomark _) (rv_I0 fun _ => rp_b)
theorem xe_eq (ha : XE X ρ a (.int i)) (hb : XE X ρ b (.int j)) : XE X ρ (.Compare a [.Eq] [b] pos) (.bool (decide (i = j))) := xe_cmp op_eq ha hb (nomark _) fun F H li u v r1 r2 Q k => by
  rw [r1.i, r2.i]
  refine ⟨rfl, k _ H (Same.refl H) ?_⟩
  have : decide (V.int i = V.int j) = decide (i = j) := by simp
  rw [this]; exact rp_b
theorem xt_lt (ha : XE X ρ a (.int i)) (hb : XE X ρ b (.int j)) : XT X ρ (.Compare a [.Lt] [b] pos) (decide (i < j)) := xt_cmp op_lt ha hb (nomark _) (rv_I0 fun _ => rp_b)
theorem xt_gt (ha : XE X ρ a (.int i)) (hb : XE X ρ b (.int j)) : XT X ρ (.Compare a [.Gt] [b] pos) (decide (j < i)) := xt_cmp op_gt ha hb (nomark _) (rv_I0 fun _ => rp_b)
theorem xt_ge (ha : XE X ρ a (.int i)) (hb : XE X ρ b (.int j)) : XT X ρ (.Compare a [.GtE] [b] pos) (decide (j ≤ i)) := xt_cmp op_ge ha hb (nomark _) (rv_I0 fun _ => rp_b)
theorem xt_eq (ha : XE X ρ a (.int i)) (hb : XE X ρ b (.int j)) : XT X ρ (.Compare a [.Eq] [b] pos) (decide (i = j)) := xt_cmp op_eq ha hb (nomark _) fun F H li u v r1 r2 Q k => by
  rw [r1.i, r2.i]
  refine ⟨rfl, k _ H (Same.refl H) ?_⟩
  have : decide (V.int i = V.int j) = decide (i = j) := by simp
  rw [this]; exact rp_b
theorem xt_ne (ha : XE X ρ a (.int i)) (hb : XE X ρ b (.int j)) : XT X ρ (.Compare a [.NotEq] [b] pos) (!decide (i = j)) := xt_cmp op_ne ha hb (nomark _) fun F H li u v r1 r2 Q k => by
  rw [r1.i, r2.i]
  refine ⟨rfl, k _ H (Same.refl H) ?_⟩
  have : decide (V.int i = V.int j) = decide (i = j) := by simp
  rw [this]; exact rp_b
theorem xe_neB {i j : Bool} (ha : XE X ρ a (.bool i)) (hb : XE X ρ b (.bool j)) : XE X ρ (.Compare a [.NotEq] [b] pos) (.bool (!decide (i = j))) := xe_cmp op_ne ha hb (nomark _) fun F H li u v r1 r2 Q k => by
  rw [r1.b, r2.b]
  refine ⟨rfl, k _ H (Same.refl H) ?_⟩
  have : decide (V.bl i = V.bl j) = decide (i = j) := by simp
  rw [this]; exact rp_b
theorem xt_neB {i j : Bool} (ha : XE X ρ a (.bool i)) (hb : XE X ρ b (.bool j)) : XT X ρ (.Compare a [.NotEq] [b] pos) (!decide (i = j)) := xt_cmp op_ne ha hb (nomark _) fun F H li u v r1 r2 Q k => by
  rw [r1.b, r2.b]
  refine ⟨rfl, k _ H (Same.refl H) ?_⟩
  have : decide (V.bl i = V.bl j) = decide (i = j) := by simp
  rw [this]; exact rp_b
theorem xe_eqB {i j : Bool} (ha : XE X ρ a (.bool i)) (hb : XE X ρ b (.bool j)) : XE X ρ (.Compare a [.Eq] [b] pos) (.bool (decide (i = j))) := xe_cmp op_eq ha hb (nomark _) fun F H li u v r1 r2 Q k => by
  rw [r1.b, r2.b]
  refine ⟨rfl, k _ H (Same.refl H) ?_⟩
  have : decide (V.bl i = V.bl j) = decide (i = j) := by simp
  rw [this]; exact rp_b
/-- a chain of two -/
theorem xe_chain_le_le {k : Int} (ha : XE X ρ a (.int i)) (hb : XE X ρ b (.int j)) (hc : XE X ρ c (.int k)) (hm : lastMarks [.LtE, .LtE] [b, c] = false := by with_unfolding_all rfl) :
    XE X ρ (.Compare a [.LtE, .LtE] [b, c] pos) (.bool (decide (i ≤ j) && decide (j ≤ k))) := xe_of (pe_chain op_le op_le pE pE pE hm) fun F σ H en li Q q =>
  ha F σ H en li _ fun u H1 s1 r1 => hb F σ H1 (en.same s1) (li.mono s1) _ fun v H2 s2 r2 => ⟨i, j, r1.i, r2.i, _, rfl, by
    cases h : decide (i ≤ j) with
    | false =>
      refine iteF (q _ H2 (s1.trans s2) ?_)
      rw [h]; exact rp_b
    | true =>
      refine iteT (hc F σ H2 (en.same (s1.trans s2)) (li.mono (s1.trans s2)) _ fun w H3 s3 r3 => ⟨j, k, r2.i, r3.i, q _ H3 ((s1.trans s2).trans s3) ?_⟩)
      rw [h]; exact rp_b⟩
/-- a < b < c < d' -/
theorem xe_chain3 {k l : Int} {d' : Expr} (ha : XE X ρ a (.int i)) (hb : XE X ρ b (.int j)) (hc : XE X ρ c (.int k)) (hd : XE X ρ d' (.int l)) (h1 : i ≤ j) (h2 : j < k) (h3 : k < l) (hm : lastMarks [.LtE, .Lt, .Lt] [b, c, d'] = false := by with_unfolding_all rfl) :
    XE X ρ (.Compare a [.LtE, .Lt, .Lt] [b, c, d'] pos) (.bool true) := fun F σ H en li Q q pins s I => by
  refine Compare_chain (thn (ha F σ H en li (fun u H1 => Same H H1 ∧ u = .int i) (fun u H1 s r => ⟨s, r.i⟩) pins s I) fun v s1 ⟨u1, H1, I1, r1, e1, q1⟩ => chain_link (thn (hb F σ H1 (en.same e1) (li.mono e1) (fun u H2 => Same H1 H2 ∧ u = .int j) (fun u H1 s r => ⟨s, r.i⟩) pins s1 I1) fun v2 s2 ⟨u2, H2, I2, r2, e2, q2⟩ => ?_)) hm
  subst q1 q2
  refine thn (op_le pins s2 σ H2 (.int i) (.int j) v v2 (fun w H3 => w = .bl true ∧ H3 = H2) I2 r1 r2 ⟨i, j, rfl, rfl, congrArg V.bl (decide_eq_true h1), rfl⟩) fun t1 s3 ⟨w3, H3, I3, r3, e3, q3⟩ => ?_
  subst e3 q3
  cases r3
  refine wpAny_truthy_bool (ite_tt ?_)
  refine chain_link (thn (hc F σ H3 (en.same (e1.trans e2)) (li.mono (e1.trans e2)) (fun u H4 => Same H3 H4 ∧ u = .int k) (fun u H1 s r => ⟨s, r.i⟩) pins s3 I3) fun v4 s4 ⟨u4, H4, I4, r4, e4, q4⟩ => ?_)
  subst q4
  refine thn (op_lt pins s4 σ H4 (.int j) (.int k) v2 v4 (fun w H5 => w = .bl true ∧ H5 = H4) I4 r2 r4 ⟨j, k, rfl, rfl, congrArg V.bl (decide_eq_true h2), rfl⟩) fun t5 s5 ⟨w5, H5, I5, r5, e5, q5⟩ => ?_
  subst e5 q5
  cases r5
  refine wpAny_truthy_bool (ite_tt ?_)
  refine chain_last (thn (hd F σ H5 (en.same ((e1.trans e2).trans e4)) (li.mono ((e1.trans e2).trans e4)) (fun u H6 => Same H5 H6 ∧ u = .int l) (fun u H1 s r => ⟨s, r.i⟩) pins s5 I5) fun v6 s6 ⟨u6, H6, I6, r6, e6, q6⟩ => ?_)
  subst q6
  refine op_lt pins s6 σ H6 (.int k) (.int l) v4 v6 Q I6 r4 r6 ⟨k, l, rfl, rfl, ?_⟩
  show Q (V.bl (decide (k < l))) H6
  rw [decide_eq_true h3]
  exact q _ H6 (((e1.trans e2).trans e4).trans e6) rp_b
end

/-! ### and, or, not, if -/
theorem xt_val {k : Bool} (h : XE X ρ e (.bool k)) (he : ∀ whole, isTrue e X.env whole = (do let v ← whole; standAt e.pos; holding [v] (truthy v)) := by intro _; rfl) : XT X ρ e k :=
  xt_of (pt_val pE he) fun F σ H en li Q g => h F σ H en li _ fun v H' s r => ⟨k, r.b, g H' s⟩
theorem xt_not {k : Bool} (h : XT X ρ a k) : XT X ρ (.UnaryOp .Not a pos) (!k) := xt_of (pt_not pT) fun F σ H en li Q g => h F σ H en li _ fun H' s => g H' s
theorem xe_not {k : Bool} (h : XE X ρ a (.bool k)) : XE X ρ (.UnaryOp .Not a pos) (.bool (!k)) := xe_of (pe_not pE) fun F σ H en li Q g => h F σ H en li _ fun v H' s r => ⟨k, r.b, g _ H' s rp_b⟩
theorem xw_and1 {k : Bool} (h : XT X ρ a k) : XW X ρ (.BoolOp .And [a] pos) k := xw_of (pw_and1 pT) h
theorem xw_or1 {k : Bool} (h : XT X ρ a k) : XW X ρ (.BoolOp .Or [a] pos) k := xw_of (pw_or1 pT) h
theorem xw_and {k l : Bool} (h : XT X ρ a k) (g : k = true → XW X ρ (.BoolOp .And (b :: es) pos) l) : XW X ρ (.BoolOp .And (a :: b :: es) pos) (k && l) := xw_of (pw_and pT pW) fun F σ H en li Q q => h F σ H en li _ fun H1 s1 => by
  cases k with
  | true => exact iteT (g rfl F σ H1 (en.same s1) (li.mono s1) _ fun H2 s2 => q H2 (s1.trans s2))
  | false => exact iteF (q H1 s1)
theorem xw_or {k l : Bool} (h : XT X ρ a k) (g : k = false → XW X ρ (.BoolOp .Or (b :: es) pos) l) : XW X ρ (.BoolOp .Or (a :: b :: es) pos) (k || l) := xw_of (pw_or pT pW) fun F σ H en li Q q => h F σ H en li _ fun H1 s1 => by
  cases k with
  | false => exact iteF (g rfl F σ H1 (en.same s1) (li.mono s1) _ fun H2 s2 => q H2 (s1.trans s2))
  | true => exact iteT (q H1 s1)
theorem xw_t {k : Bool} (h : XW X ρ e k) : XT X ρ e k := xt_of pW.pt h
theorem xe_one {op : BoolOp} (h : XE X ρ a d) : XE X ρ (.BoolOp op [a] pos) d := xe_of (pe_one pE) h
theorem xe_and {k l : Bool} (h : XE X ρ a (.bool k)) (g : k = true → XE X ρ (.BoolOp .And (b :: es) pos) (.bool l)) : XE X ρ (.BoolOp .And (a :: b :: es) pos) (.bool (k && l)) := xe_of (pe_and pE pE) fun F σ H en li Q q => h F σ H en li _ fun v H1 s1 r1 => ⟨k, r1.b, by
  cases k with
  | true => exact iteT (g rfl F σ H1 (en.same s1) (li.mono s1) _ fun v H2 s2 r2 => q v H2 (s1.trans s2) r2)
  | false => exact iteF (q _ H1 s1 rp_b)⟩
theorem xe_or {k l : Bool} (h : XE X ρ a (.bool k)) (g : k = false → XE X ρ (.BoolOp .Or (b :: es) pos) (.bool l)) : XE X ρ (.BoolOp .Or (a :: b :: es) pos) (.bool (k || l)) := xe_of (pe_or pE pE) fun F σ H en li Q q => h F σ H en li _ fun v H1 s1 r1 => ⟨k, r1.b, by
  cases k with
  | false => exact iteF (g rfl F σ H1 (en.same s1) (li.mono s1) _ fun v H2 s2 r2 => q v H2 (s1.trans s2) r2)
  | true => exact iteT (q _ H1 s1 rp_b)⟩
theorem xe_if {k : Bool} (h : XT X ρ c k) (h1 : k = true → XE X ρ a d) (h2 : k = false → XE X ρ b d) : XE X ρ (.IfExp c a b pos) d := xe_of (pe_ifExp pT pE pE) fun F σ H en li Q q => h F σ H en li _ fun H1 s1 => by
  cases k with
  | true => exact iteT (h1 rfl F σ H1 (en.same s1) (li.mono s1) _ fun v H2 s2 r2 => q v H2 (s1.trans s2) r2)
  | false => exact iteF (h2 rfl F σ H1 (en.same s1) (li.mono s1) _ fun v H2 s2 r2 => q v H2 (s1.trans s2) r2)
theorem xt_isN (h : XE X ρ a d) {j : Nat} {p' : Pos} : XT X ρ (.Compare a [.Is] [.Constant .none j p'] pos) (match d with | .none => true | _ => false) :=
  xt_cmp op_isN h xe_non (nomark _) fun F H li u v r1 r2 Q k => ⟨r2.n, k _ H (Same.refl H) (by
    cases d with
    | none => rw [r1.n]; exact rp_b
    | bool _ => rw [r1.b]; exact rp_b
    | int _ => rw [r1.i]; exact rp_b
    | str _ => rw [r1.s]; exact rp_b
    | list _ => obtain ⟨_, _, rfl, _⟩ := r1.l; exact rp_b
    | tuple _ => obtain ⟨_, _, rfl, _⟩ := r1.t; exact rp_b
    | dict _ =>
      rcases r1 with r1 | ⟨_, _, rfl, _⟩ | ⟨_, _, rfl, _⟩
      · cases r1
      · exact rp_b
      · exact rp_b)⟩
theorem xt_notN (h : XE X ρ a d) {j : Nat} {p' : Pos} : XT X ρ (.Compare a [.IsNot] [.Constant .none j p'] pos) (match d with | .none => false | _ => true) :=
  xt_cmp op_notN h xe_non (nomark _) fun F H li u v r1 r2 Q k => ⟨r2.n, k _ H (Same.refl H) (by
    cases d with
    | none => rw [r1.n]; exact rp_b
    | bool _ => rw [r1.b]; exact rp_b
    | int _ => rw [r1.i]; exact rp_b
    | str _ => rw [r1.s]; exact rp_b
    | list _ => obtain ⟨_, _, rfl, _⟩ := r1.l; exact rp_b
    | tuple _ => obtain ⟨_, _, rfl, _⟩ := r1.t; exact rp_b
    | dict _ =>
      rcases r1 with r1 | ⟨_, _, rfl, _⟩ | ⟨_, _, rfl, _⟩
      · cases r1
      · exact rp_b
      · exact rp_b)⟩

/-! ### arguments, displays -/
theorem xa_nil : XA X ρ [] [] := xa_of pa_nil fun F σ H en li Q k => k [] H (Same.refl H) .nil
theorem ev_cons {K : PySem.W.Frag} {ta : TE} {tr : TA} (h1 : Ev K ta ρ d) (h2 : EvA K tr ρ ds) : EvA K (tCons ta tr) ρ (d :: ds) := fun F σ H en li Q k =>
  h1 F σ H en li _ fun v H1 s1 r1 => h2 F σ H1 (en.same s1) (li.mono s1) _ fun vs H2 s2 r2 => k _ H2 (s1.trans s2) (.cons (rp_mono (hid_mono s2) r1) r2)
theorem xa_cons (h1 : XE X ρ e d) (h2 : XA X ρ es ds) (hs : starEach (e :: es) X.env = (false, eval e X.env) :: starEach es X.env := by rfl) : XA X ρ (e :: es) (d :: ds) := xa_of (pa_cons pE pA hs) (ev_cons h1 h2)
theorem xe_tup {k : Nat} (h : XA X ρ es ds) (hn : nodict ds = true := by rfl) (hl : ds.length ≤ 1000 := by simp) : XE X ρ (.Tuple es k pos) (.tuple ds) := xe_of (pe_tup pA) fun F σ H en li Q q => h F σ H en li _ fun vs H1 s1 r1 =>
  ⟨by rw [r1.length]; exact Nat.le_of_lt (small1000 hl), fun p hp => q _ _ (s1.trans (same_upd hp)) (.inl (.tup (.inl (.inl (by rw [hid_out ((li.mono s1).out hp)]; exact upd_same))) (dpAll_mono (hid_mono (same_upd hp)) (r1.dp hn))))⟩
theorem xn_lst (h : XA X ρ es ds) (hn : nodict ds = true := by rfl) (hl : ds.length ≤ 1000 := by simp) : XN X ρ (.List es pos) ds := xn_of (pe_lst pA) fun F σ H en li Q q => h F σ H en li _ fun vs H1 s1 r1 =>
  ⟨by rw [r1.length]; exact Nat.le_of_lt (small1000 hl), fun p hp => q _ _ vs (by
    cases h : H p with
    | none => rfl
    | some o => rw [s1 p o h] at hp; cases hp) (s1.trans (same_upd hp)) upd_same (dpAll_mono (hid_new hp (same_upd hp)) (r1.dp hn))⟩
theorem xe_lst (h : XA X ρ es ds) (hn : nodict ds = true := by rfl) (hl : ds.length ≤ 1000 := by simp) : XE X ρ (.List es pos) (.list ds) := xn_e (xn_lst h hn hl)

/-! ### items -/
theorem Rp.tAt {K : PySem.W.Frag} {F : List Addr} {H : Hp} {v : V} {i : Int} (h : Rp K (hid F H) v (.tuple ds)) (hi : atI ds i = some d) : ∃ a vs u, v = .ref a ∧ SqT K H a vs ∧ atI vs i = some u ∧ Dp K (hid F H) u d := by
  obtain ⟨a, vs, rfl, h1, h2⟩ := h.t
  unfold atI at hi
  cases q : ixN ds.length i with
  | none => rw [q] at hi; cases hi
  | some j =>
    rw [q] at hi
    obtain ⟨u, g1, g2⟩ := DpAll.get h2 (show ds[j]? = some d from hi)
    refine ⟨a, vs, u, rfl, seqT hid_le h1, ?_, g2⟩
    unfold atI
    rw [DpAll.length h2, q]
    exact g1
theorem Rp.lAt {K : PySem.W.Frag} {F : List Addr} {H : Hp} {v : V} {i : Int} (h : Rp K (hid F H) v (.list ds)) (hi : atI ds i = some d) : ∃ a vs u, v = .ref a ∧ SqL K H a vs ∧ atI vs i = some u ∧ Dp K (hid F H) u d := by
  obtain ⟨a, vs, rfl, h1, h2⟩ := h.l
  unfold atI at hi
  cases q : ixN ds.length i with
  | none => rw [q] at hi; cases hi
  | some j =>
    rw [q] at hi
    obtain ⟨u, g1, g2⟩ := DpAll.get h2 (show ds[j]? = some d from hi)
    refine ⟨a, vs, u, rfl, Same.seq hid_le h1, ?_, g2⟩
    unfold atI
    rw [DpAll.length h2, q]
    exact g1
theorem xe_ixT {i : Int} (ha : XE X ρ a (.tuple ds)) (hb : XE X ρ b (.int i)) (hi : atI ds i = some d) (hs : PlainIx b := by exact fun _ _ => rfl) : XE X ρ (.Subscript a b pos) d := xe_ix ix_tup ha hb (fun F H li u v r1 r2 Q k => by
  obtain ⟨p, vs, w, rfl, h1, h2, h3⟩ := r1.tAt hi
  exact ⟨p, vs, i, w, rfl, r2.i, h1, h2, k w H (Same.refl H) (.inl h3)⟩) hs
theorem xe_ixL {i : Int} (ha : XE X ρ a (.list ds)) (hb : XE X ρ b (.int i)) (hi : atI ds i = some d) (hs : PlainIx b := by exact fun _ _ => rfl) : XE X ρ (.Subscript a b pos) d := xe_ix ix_list ha hb (fun F H li u v r1 r2 Q k => by
  obtain ⟨p, vs, w, rfl, h1, h2, h3⟩ := r1.lAt hi
  exact ⟨p, vs, i, w, rfl, r2.i, h1, h2, k w H (Same.refl H) (.inl h3)⟩) hs
theorem xe_ixS {i : Int} {w : Str} {k : Nat} (ha : XE X ρ a (.str w)) (hb : XE X ρ b (.int i)) (hl : w.length ≤ 1000) (hi : atI w.cps.toList i = some k) (hs : PlainIx b := by exact fun _ _ => rfl) : XE X ρ (.Subscript a b pos) (.str ⟨#[k]⟩) := xe_ix ix_str ha hb (fun F H li u v r1 r2 Q q =>
  ⟨w, i, k, r1.s, r2.i, Nat.le_of_lt (small1000 hl), hi, q _ H (Same.refl H) rp_s⟩) hs
end
end DL
set_option Elab.async false
set_option linter.all false
set_option maxRecDepth 100000
set_option maxHeartbeats 4000000
/-! Texts, isinstance, built-ins, calls of defs. -/
namespace DL
open PySem PySem.Spec PyProof.Rows L2
section
variable {X : Cx} {ρ : Rho} {e a b c : Expr} {es : List Expr} {pos p : Pos} {d x y z : D} {ds : List D}

/-! ### texts -/
theorem xt_inS {k : Nat} {w : Str} (ha : XE X ρ a (.str ⟨#[k]⟩)) (hb : XE X ρ b (.str w)) (hm : behindInMarks .In b = false := by with_unfolding_all rfl) : XT X ρ (.Compare a [.In] [b] pos) (decide (k ∈ w.cps.toList)) :=
  xt_cmp op_in_sign ha hb hm fun F H li u v r1 r2 Q q => ⟨k, w, r1.s, r2.s, q _ H (Same.refl H) rp_b⟩
theorem xe_inS {k : Nat} {w : Str} (ha : XE X ρ a (.str ⟨#[k]⟩)) (hb : XE X ρ b (.str w)) (hm : behindInMarks .In b = false := by with_unfolding_all rfl) : XE X ρ (.Compare a [.In] [b] pos) (.bool (decide (k ∈ w.cps.toList))) :=
  xe_cmp op_in_sign ha hb hm fun F H li u v r1 r2 Q q => ⟨k, w, r1.s, r2.s, q _ H (Same.refl H) rp_b⟩
theorem xe_ltS {v w : Str} (ha : XE X ρ a (.str v)) (hb : XE X ρ b (.str w)) : XE X ρ (.Compare a [.Lt] [b] pos) (.bool (decide (v.cps.toList < w.cps.toList))) :=
  xe_cmp op_lt_str ha hb (nomark _) fun F H li u t r1 r2 Q q => ⟨v, w, r1.s, r2.s, q _ H (Same.refl H) rp_b⟩
theorem xe_sliceS {w : Str} {i : Int} {p2 : Pos} (ha : XE X ρ a (.str w)) (hb : XE X ρ b (.int i)) (hl : w.length ≤ 1000) : XE X ρ (.Subscript a (.Slice none (some b) none p2) pos) (.str (cutS w none (some i))) :=
  xe_of (pe_slice sl_str pE po_none (po_some pE)) fun F σ H en li Q q => ha F σ H en li _ fun v H1 s1 r1 => hb F σ H1 (en.same s1) (li.mono s1) _ fun u H2 s2 r2 =>
    ⟨i, r2.i, w, r1.s, Nat.le_of_lt (small1000 hl), q _ H2 (s1.trans s2) rp_s⟩
/-- text.index(text) -/
theorem xe_sindex {v w : Str} {i : Nat} {rest : List Nat} {apos : Pos} (ha : XE X ρ a (.str v)) (hb : XE X ρ b (.str w)) (ho : Builtin.Str.occurrences v w 0 v.length 1 = i :: rest)
    (hbase : attributeBase a "index" X.env (eval a X.env) = eval a X.env := by rfl)
    (hfew : ((backTo pos (starEach (b :: []) X.env)).all (fun x => !x.1) && (backToKw pos (keywordEach [] X.env)).all (fun x => x.1.isSome) && decide ((b :: []).length + ([] : List Keyword).length + (if ([] : List Keyword).isEmpty then 0 else 1) < 30)) = true := by rfl)
    (hline : (apos.endLine == pos.line) = true := by rfl) (hs : starEach (b :: []) X.env = (false, eval b X.env) :: starEach [] X.env := by rfl) (hplain : (backTo pos (starEach [] X.env)).any (·.1) = false := by rfl) :
    XE X ρ (.Call (.Attribute a "index" apos) [b] [] pos) (.int (i : Int)) :=
  xe_of (pe_bm PySem.F.plainAttrs_str PySem.F.slot_str_index PySem.F.type_str_index mt_sindex pE (pa_cons pE pa_nil hs) hbase hfew hline hs hplain) fun F σ H en li Q q =>
    ha F σ H en li _ fun t H1 s1 r1 => by
      rw [r1.s]
      exact ⟨rfl, hb F σ H1 (en.same s1) (li.mono s1) _ fun u H2 s2 r2 => ⟨v, w, i, rest, rfl, by rw [r2.s], ho, q _ H2 (s1.trans s2) rp_i⟩⟩
theorem dpAll_strs {K : PySem.W.Frag} {H : Hp} : ∀ {ys : List Str} {vs : List V}, DpAll K H vs (ys.map .str) → vs = ys.map V.str
  | [], _, h => by cases h; rfl
  | y :: ys, _, h => by
    cases h with
    | cons h1 h2 =>
      cases h1
      rw [dpAll_strs h2]
      rfl
theorem dpAll_ints {K : PySem.W.Frag} {H : Hp} : ∀ {ys : List Int} {vs : List V}, DpAll K H vs (ys.map .int) → vs = ys.map V.int
  | [], _, h => by cases h; rfl
  | y :: ys, _, h => by
    cases h with
    | cons h1 h2 =>
      cases h1
      rw [dpAll_ints h2]
      rfl
theorem dpAll_bools {K : PySem.W.Frag} {H : Hp} : ∀ {ys : List Bool} {vs : List V}, DpAll K H vs (ys.map .bool) → vs = ys.map V.bl
  | [], _, h => by cases h; rfl
  | y :: ys, _, h => by
    cases h with
    | cons h1 h2 =>
      cases h1
      rw [dpAll_bools h2]
      rfl
theorem dp_ints {K : PySem.W.Frag} {H : Hp} : ∀ (ys : List Int), DpAll K H (ys.map V.int) (ys.map .int)
  | [] => .nil
  | y :: ys => .cons (.int y) (dp_ints ys)
theorem dp_strs {K : PySem.W.Frag} {H : Hp} : ∀ (ys : List Str), DpAll K H (ys.map V.str) (ys.map .str)
  | [] => .nil
  | y :: ys => .cons (.str y) (dp_strs ys)
/-- ''.join(list of texts) -/
theorem xe_join {v : Str} {ys : List Str} {apos : Pos} (ha : XE X ρ a (.str v)) (hb : XE X ρ b (.list (ys.map .str))) (hz : (ys.map (·.length)).sum + ys.length * v.length ≤ 16777216)
    (hbase : attributeBase a "join" X.env (eval a X.env) = eval a X.env := by rfl)
    (hfew : ((backTo pos (starEach (b :: []) X.env)).all (fun x => !x.1) && (backToKw pos (keywordEach [] X.env)).all (fun x => x.1.isSome) && decide ((b :: []).length + ([] : List Keyword).length + (if ([] : List Keyword).isEmpty then 0 else 1) < 30)) = true := by rfl)
    (hline : (apos.endLine == pos.line) = true := by rfl) (hs : starEach (b :: []) X.env = (false, eval b X.env) :: starEach [] X.env := by rfl) (hplain : (backTo pos (starEach [] X.env)).any (·.1) = false := by rfl) :
    XE X ρ (.Call (.Attribute a "join" apos) [b] [] pos) (.str (Txt.join v ys)) :=
  xe_of (pe_bm PySem.F.plainAttrs_str PySem.F.slot_str_join PySem.F.type_str_join mt_join pE (pa_cons pE pa_nil hs) hbase hfew hline hs hplain) fun F σ H en li Q q =>
    ha F σ H en li _ fun t H1 s1 r1 => by
      rw [r1.s]
      exact ⟨rfl, hb F σ H1 (en.same s1) (li.mono s1) _ fun u H2 s2 r2 => by
        obtain ⟨pa, vs, rfl, h1, h2⟩ := r2.l
        rw [dpAll_strs h2] at h1
        exact ⟨v, pa, ys, rfl, rfl, .inl (Same.seq hid_le h1), hz, q _ H2 (s1.trans s2) rp_s⟩⟩

/-! ### isinstance -/
def kindD : D → String
  | .none => "NoneType" | .bool _ => "bool" | .int _ => "int" | .str _ => "str" | .list _ => "list" | .tuple _ => "tuple" | .dict _ => "dict"
theorem rp_ty {K : PySem.W.Frag} {H : Hp} {v : V} {d : D} (n : isDict d = false) (h : Rp K (hid F H) v d) : TyX K H v (.type (kindD d)) := by
  cases h.dp n with
  | non => exact .base .non
  | bl b => exact .base (.bl b)
  | int i => exact .base (.int i)
  | str x => exact .base (.str x)
  | lst h1 h2 =>
    rcases Same.seq hid_le h1 with (h | ⟨o, h⟩) | ⟨o, its, n, h, hc, _⟩
    · exact .base (.lst h)
    · exact .base (.frz h)
    · exact .kList h hc
  | tup h1 h2 =>
    rcases seqT hid_le h1 with (h | ⟨o, h⟩) | ⟨o, its, n, h, hc, _⟩
    · exact .base (.tup h)
    · exact .fTuple h
    · exact .kTuple h hc
/-- isinstance(e, T) -/
theorem xe_isi {T : Str} {t : String} {k : Bool} {p1 p2 : Pos} (ha : XE X ρ a d) (mi : X.mg "isinstance" = none) (mT : X.mg T = none) (hT : bootBuiltins T = some (.type t)) (hk : kitB (kindD d) t = some k) (n : isDict d = false := by rfl)
    (gi : Gl X "isinstance" := by rfl) (gT : Gl X T := by rfl) (hn : T ≠ "__name__" := by decide) (hd : (T == ("__debug__" : Str)) = false := by decide)
    (he : starEach (a :: [.Name T p2]) X.env = (false, eval a X.env) :: starEach [.Name T p2] X.env := by rfl) (he2 : starEach (Expr.Name T p2 :: []) X.env = (false, eval (.Name T p2) X.env) :: starEach [] X.env := by rfl) (hpl : (backTo pos (starEach [.Name T p2] X.env)).any (·.1) = false := by rfl) :
    XE X ρ (.Call (.Name "isinstance" p1) [a, .Name T p2] [] pos) (.bool k) :=
  xe_of (pe_callB call_isi gi mi PyProof.Rows.boot_isinstance (pa_cons pE (pa_cons (pe_bltn (v := .ty t) gT mT hT rfl hn hd) pa_nil he2) he) (by decide) (by decide) he hpl) fun F σ H en li Q q => ha F σ H en li _ fun v H1 s1 r1 =>
    ⟨v, .ty t, _, _, k, rfl, .ty t, rp_ty n r1, kit_ty hk, q _ H1 s1 rp_b⟩
/-- isinstance(e, (T, U)) -/
theorem xe_isi2 {T U : Str} {t u : String} {k : Bool} {p1 p2 p3 p4 : Pos} {kk : Nat} (ha : XE X ρ a d) (mi : X.mg "isinstance" = none) (mT : X.mg T = none) (hT : bootBuiltins T = some (.type t)) (mU : X.mg U = none) (hU : bootBuiltins U = some (.type u))
    (hk : PySem.W.kitAny X.K (.type (kindD d)) [.type t, .type u] = some k) (n : isDict d = false := by rfl)
    (gi : Gl X "isinstance" := by rfl) (gT : Gl X T := by rfl) (hn : T ≠ "__name__" := by decide) (hd : (T == ("__debug__" : Str)) = false := by decide) (gU : Gl X U := by rfl) (hn2 : U ≠ "__name__" := by decide) (hd2 : (U == ("__debug__" : Str)) = false := by decide)
    (hs1 : starEach (Expr.Name T p2 :: [.Name U p3]) X.env = (false, eval (.Name T p2) X.env) :: starEach [.Name U p3] X.env := by rfl) (hs2 : starEach (Expr.Name U p3 :: []) X.env = (false, eval (.Name U p3) X.env) :: starEach [] X.env := by rfl)
    (he : starEach (a :: [.Tuple [.Name T p2, .Name U p3] kk p4]) X.env = (false, eval a X.env) :: starEach [.Tuple [.Name T p2, .Name U p3] kk p4] X.env := by rfl)
    (he2 : starEach (Expr.Tuple [.Name T p2, .Name U p3] kk p4 :: []) X.env = (false, eval (.Tuple [.Name T p2, .Name U p3] kk p4) X.env) :: starEach [] X.env := by rfl)
    (hpl : (backTo pos (starEach [.Tuple [.Name T p2, .Name U p3] kk p4] X.env)).any (·.1) = false := by rfl) :
    XE X ρ (.Call (.Name "isinstance" p1) [a, .Tuple [.Name T p2, .Name U p3] kk p4] [] pos) (.bool k) :=
  xe_of (pe_callB call_isiT gi mi PyProof.Rows.boot_isinstance (pa_cons pE (pa_cons (pe_tup (pa_cons (pe_bltn (v := .ty t) gT mT hT rfl hn hd) (pa_cons (pe_bltn (v := .ty u) gU mU hU rfl hn2 hd2) pa_nil hs2) hs1)) pa_nil he2) he) (by decide) (by decide) he hpl) fun F σ H en li Q q => ha F σ H en li _ fun v H1 s1 r1 =>
    ⟨by show 2 ≤ sizeLine; decide, fun p hp => ⟨v, p, [.ty t, .ty u], _, [.type t, .type u], k, rfl, upd_same, .cons (.ty t) (.cons (.ty u) .nil), rp_ty (F := F) n (rp_mono (hid_mono (same_upd hp)) r1), hk, q _ _ (s1.trans (same_upd hp)) rp_b⟩⟩

/-! ### built-ins -/
def RC (K : PySem.W.Frag) (r : List V → Hp → VK → Prop) (ds : List D) (z : D) : Prop := ∀ (F : List Addr) (H : Hp), Live F H → ∀ vs, RpAll K (hid F H) vs ds → ∀ Q : VK, (∀ w H', Same H H' → Rp K (hid F H') w z → Q w H') → r vs H Q
theorem ev_cb {K : PySem.W.Frag} {r : List V → Hp → VK → Prop} {ta : TA} (h : EvA K ta ρ ds) (hr : RC K r ds z) : Ev K (tCB r ta) ρ z := fun F σ H en li Q q => h F σ H en li _ fun vs H1 s1 r1 => hr F H1 (li.mono s1) vs r1 Q fun w H2 s2 r2 => q w H2 (s1.trans s2) r2
section
variable {n : Str} {id T : String} {r : List V → Hp → VK → Prop}
theorem xe_callB (hc : CallR X (.builtin id) r) (hm : X.mg n = none) (hv : bootBuiltins n = some (.builtin id)) (ha : XA X ρ (e :: es) ds) (hr : RC X.K r ds z) (hg : Gl X n := by rfl) (hn : n ≠ "__name__" := by decide) (hdb : (n == ("__debug__" : Str)) = false := by decide)
    (he : starEach (e :: es) X.env = (false, eval e X.env) :: starEach es X.env := by rfl) (hpl : (backTo pos (starEach es X.env)).any (·.1) = false := by rfl) : XE X ρ (.Call (.Name n p) (e :: es) [] pos) z :=
  xe_of (pe_callB hc hg hm hv pA hn hdb he hpl) (ev_cb ha hr)
theorem xe_callTy (hc : CallR X (.type T) r) (hm : X.mg n = none) (hv : bootBuiltins n = some (.type T)) (ha : XA X ρ (e :: es) ds) (hr : RC X.K r ds z) (hg : Gl X n := by rfl) (hn : n ≠ "__name__" := by decide) (hdb : (n == ("__debug__" : Str)) = false := by decide)
    (he : starEach (e :: es) X.env = (false, eval e X.env) :: starEach es X.env := by rfl) (hpl : (backTo pos (starEach es X.env)).any (·.1) = false := by rfl) : XE X ρ (.Call (.Name n p) (e :: es) [] pos) z :=
  xe_of (pe_callTy hc hg hm hv pA hn hdb he hpl) (ev_cb ha hr)
end
theorem RpAll.one' {K : PySem.W.Frag} {H : Hp} {vs : List V} (h : RpAll K H vs [d]) : ∃ v, vs = [v] ∧ Rp K H v d := by
  cases h with
  | cons h1 h2 => cases h2; exact ⟨_, rfl, h1⟩
theorem RpAll.two {K : PySem.W.Frag} {H : Hp} {vs : List V} (h : RpAll K H vs [x, y]) : ∃ v w, vs = [v, w] ∧ Rp K H v x ∧ Rp K H w y := by
  cases h with
  | cons h1 h2 =>
    obtain ⟨w, rfl, h3⟩ := h2.one'
    exact ⟨_, w, rfl, h1, h3⟩
/-- one argument -/
theorem xa1 (h : XE X ρ e d) (hs : starEach (e :: []) X.env = (false, eval e X.env) :: starEach [] X.env := by rfl) : XA X ρ [e] [d] := xa_cons h xa_nil hs
theorem xa2 (h : XE X ρ a x) (g : XE X ρ b y) (hs : starEach (a :: [b]) X.env = (false, eval a X.env) :: starEach [b] X.env := by rfl) (hs2 : starEach (b :: []) X.env = (false, eval b X.env) :: starEach [] X.env := by rfl) : XA X ρ [a, b] [x, y] := xa_cons h (xa_cons g xa_nil hs2) hs
theorem xa3 (h : XE X ρ a x) (g : XE X ρ b y) (k : XE X ρ c z) (hs : starEach (a :: [b, c]) X.env = (false, eval a X.env) :: starEach [b, c] X.env := by rfl) (hs2 : starEach (b :: [c]) X.env = (false, eval b X.env) :: starEach [c] X.env := by rfl)
    (hs3 : starEach (c :: []) X.env = (false, eval c X.env) :: starEach [] X.env := by rfl) : XA X ρ [a, b, c] [x, y, z] := xa_cons h (xa_cons g (xa_cons k xa_nil hs3) hs2) hs
section
variable (mg : X.mg "len" = none)
theorem xe_lenL (ml : X.mg "len" = none) (h : XE X ρ e (.list ds)) (hg : Gl X "len" := by rfl) (he : starEach (e :: []) X.env = (false, eval e X.env) :: starEach [] X.env := by rfl) (hpl : (backTo pos (starEach [] X.env)).any (·.1) = false := by rfl) :
    XE X ρ (.Call (.Name "len" p) [e] [] pos) (.int (ds.length : Nat)) := xe_callB call_len_seq ml PySem.boot_len (xa1 h he) (fun F H li vs r0 Q q => by
  obtain ⟨v, rfl, r⟩ := r0.one'
  obtain ⟨a, ws, rfl, h1, h2⟩ := r.l
  exact ⟨a, ws, rfl, .inl (Same.seq hid_le h1), q _ H (Same.refl H) (by rw [DpAll.length h2]; exact rp_i)⟩) hg (by decide) (by decide) he hpl
theorem xe_lenT (ml : X.mg "len" = none) (h : XE X ρ e (.tuple ds)) (hg : Gl X "len" := by rfl) (he : starEach (e :: []) X.env = (false, eval e X.env) :: starEach [] X.env := by rfl) (hpl : (backTo pos (starEach [] X.env)).any (·.1) = false := by rfl) :
    XE X ρ (.Call (.Name "len" p) [e] [] pos) (.int (ds.length : Nat)) := xe_callB call_len_seq ml PySem.boot_len (xa1 h he) (fun F H li vs r0 Q q => by
  obtain ⟨v, rfl, r⟩ := r0.one'
  obtain ⟨a, ws, rfl, h1, h2⟩ := r.t
  exact ⟨a, ws, rfl, .inr (seqT hid_le h1), q _ H (Same.refl H) (by rw [DpAll.length h2]; exact rp_i)⟩) hg (by decide) (by decide) he hpl
theorem xe_lenS {w : Str} (ml : X.mg "len" = none) (h : XE X ρ e (.str w)) (hl : w.length ≤ 1000) (hg : Gl X "len" := by rfl) (he : starEach (e :: []) X.env = (false, eval e X.env) :: starEach [] X.env := by rfl) (hpl : (backTo pos (starEach [] X.env)).any (·.1) = false := by rfl) :
    XE X ρ (.Call (.Name "len" p) [e] [] pos) (.int (w.length : Nat)) := xe_callB call_len ml PySem.boot_len (xa1 h he) (fun F H li vs r0 Q q => by
  obtain ⟨v, rfl, r⟩ := r0.one'
  rw [r.s]
  exact ⟨_, w.length, rfl, ⟨Nat.le_of_lt (small1000 hl), rfl⟩, q _ H (Same.refl H) rp_i⟩) hg (by decide) (by decide) he hpl
theorem xe_sum {ns : List Int} (hc : X.calm = true) (ml : X.mg "sum" = none) (h : XE X ρ e (.list (ns.map .int))) (hg : Gl X "sum" := by rfl) (he : starEach (e :: []) X.env = (false, eval e X.env) :: starEach [] X.env := by rfl) (hpl : (backTo pos (starEach [] X.env)).any (·.1) = false := by rfl) :
    XE X ρ (.Call (.Name "sum" p) [e] [] pos) (.int ns.sum) := xe_callB (cr_sum hc) ml PyProof.Rows.boot_sum (xa1 h he) (fun F H li vs r0 Q q => by
  obtain ⟨v, rfl, r⟩ := r0.one'
  obtain ⟨a, ws, rfl, h1, h2⟩ := r.l
  rw [dpAll_ints h2] at h1
  exact ⟨a, ns, rfl, Same.seq hid_le h1, q _ H (Same.refl H) rp_i⟩) hg (by decide) (by decide) he hpl
theorem xe_all {bs : List Bool} (hc : X.calm = true) (ml : X.mg "all" = none) (h : XE X ρ e (.list (bs.map .bool))) (hg : Gl X "all" := by rfl) (he : starEach (e :: []) X.env = (false, eval e X.env) :: starEach [] X.env := by rfl) (hpl : (backTo pos (starEach [] X.env)).any (·.1) = false := by rfl) :
    XE X ρ (.Call (.Name "all" p) [e] [] pos) (.bool (bs.all _root_.id)) := xe_callB (cr_all hc) ml PyProof.Rows.boot_all (xa1 h he) (fun F H li vs r0 Q q => by
  obtain ⟨v, rfl, r⟩ := r0.one'
  obtain ⟨a, ws, rfl, h1, h2⟩ := r.l
  rw [dpAll_bools h2] at h1
  exact ⟨a, bs, rfl, Same.seq hid_le h1, q _ H (Same.refl H) rp_b⟩) hg (by decide) (by decide) he hpl
theorem xe_any {bs : List Bool} (hc : X.calm = true) (ml : X.mg "any" = none) (h : XE X ρ e (.list (bs.map .bool))) (hg : Gl X "any" := by rfl) (he : starEach (e :: []) X.env = (false, eval e X.env) :: starEach [] X.env := by rfl) (hpl : (backTo pos (starEach [] X.env)).any (·.1) = false := by rfl) :
    XE X ρ (.Call (.Name "any" p) [e] [] pos) (.bool (bs.any _root_.id)) := xe_callB (cr_any hc) ml PyProof.Rows.boot_any (xa1 h he) (fun F H li vs r0 Q q => by
  obtain ⟨v, rfl, r⟩ := r0.one'
  obtain ⟨a, ws, rfl, h1, h2⟩ := r.l
  rw [dpAll_bools h2] at h1
  exact ⟨a, bs, rfl, Same.seq hid_le h1, q _ H (Same.refl H) rp_b⟩) hg (by decide) (by decide) he hpl
theorem xe_max {ns : List Int} {m : Int} (hc : X.calm = true) (ml : X.mg "max" = none) (h : XE X ρ e (.list (ns.map .int))) (h0 : 0 < ns.length) (hm : ∀ k, k ∈ ns → (∀ j ∈ ns, j ≤ k) → k = m) (hg : Gl X "max" := by rfl) (he : starEach (e :: []) X.env = (false, eval e X.env) :: starEach [] X.env := by rfl) (hpl : (backTo pos (starEach [] X.env)).any (·.1) = false := by rfl) :
    XE X ρ (.Call (.Name "max" p) [e] [] pos) (.int m) := xe_callB (cr_max hc) ml PyProof.Rows.boot_max (xa1 h he) (fun F H li vs r0 Q q => by
  obtain ⟨v, rfl, r⟩ := r0.one'
  obtain ⟨a, ws, rfl, h1, h2⟩ := r.l
  rw [dpAll_ints h2] at h1
  refine ⟨a, ns, rfl, Same.seq hid_le h1, h0, fun k hk hle => ?_⟩
  exact q _ H (Same.refl H) (by rw [hm k hk hle]; exact rp_i)) hg (by decide) (by decide) he hpl
/-- list(list), a new list -/
theorem xn_list (ml : X.mg "list" = none) (h : XE X ρ e (.list ds)) (hg : Gl X "list" := by rfl) (he : starEach (e :: []) X.env = (false, eval e X.env) :: starEach [] X.env := by rfl) (hpl : (backTo pos (starEach [] X.env)).any (·.1) = false := by rfl) :
    XN X ρ (.Call (.Name "list" p) [e] [] pos) ds := xn_of (pe_callTy call_list_of hg ml PyProof.Rows.boot_list pA (by decide) (by decide) he hpl) fun F σ H en li Q q => xa1 h he F σ H en li _ fun vs H1 s1 r0 => by
  obtain ⟨v, rfl, r⟩ := r0.one'
  obtain ⟨a, ws, rfl, h1, h2⟩ := r.l
  refine ⟨a, ws, rfl, .inl (Same.seq hid_le h1), fun l hl => q l _ ws ?_ (s1.trans (same_upd hl)) upd_same (dpAll_mono (hid_new hl (same_upd hl)) h2)⟩
  cases h : H l with
  | none => rfl
  | some o => rw [s1 l o h] at hl; cases hl
/-- list(tuple) -/
theorem xn_listT (ml : X.mg "list" = none) (h : XE X ρ e (.tuple ds)) (hg : Gl X "list" := by rfl) (he : starEach (e :: []) X.env = (false, eval e X.env) :: starEach [] X.env := by rfl) (hpl : (backTo pos (starEach [] X.env)).any (·.1) = false := by rfl) :
    XN X ρ (.Call (.Name "list" p) [e] [] pos) ds := xn_of (pe_callTy call_list_of hg ml PyProof.Rows.boot_list pA (by decide) (by decide) he hpl) fun F σ H en li Q q => xa1 h he F σ H en li _ fun vs H1 s1 r0 => by
  obtain ⟨v, rfl, r⟩ := r0.one'
  obtain ⟨a, ws, rfl, h1, h2⟩ := r.t
  refine ⟨a, ws, rfl, .inr (seqT hid_le h1), fun l hl => q l _ ws ?_ (s1.trans (same_upd hl)) upd_same (dpAll_mono (hid_new hl (same_upd hl)) h2)⟩
  cases h : H l with
  | none => rfl
  | some o => rw [s1 l o h] at hl; cases hl
theorem xe_tuple (ml : X.mg "tuple" = none) (h : XE X ρ e (.list ds)) (hg : Gl X "tuple" := by rfl) (he : starEach (e :: []) X.env = (false, eval e X.env) :: starEach [] X.env := by rfl) (hpl : (backTo pos (starEach [] X.env)).any (·.1) = false := by rfl) :
    XE X ρ (.Call (.Name "tuple" p) [e] [] pos) (.tuple ds) := xe_callTy call_tuple_of ml PyProof.Rows.boot_tuple (xa1 h he) (fun F H li vs r0 Q q => by
  obtain ⟨v, rfl, r⟩ := r0.one'
  obtain ⟨a, ws, rfl, h1, h2⟩ := r.l
  exact ⟨a, ws, rfl, .inl ⟨Same.seq hid_le h1, fun l hl => q _ _ (same_upd hl) (.inl (.tup (.inl (.inl (by rw [hid_out (li.out hl)]; exact upd_same))) (dpAll_mono (hid_mono (same_upd hl)) h2)))⟩⟩) hg (by decide) (by decide) he hpl
theorem xe_intI {i : Int} (ml : X.mg "int" = none) (h : XE X ρ e (.int i)) (hg : Gl X "int" := by rfl) (he : starEach (e :: []) X.env = (false, eval e X.env) :: starEach [] X.env := by rfl) (hpl : (backTo pos (starEach [] X.env)).any (·.1) = false := by rfl) :
    XE X ρ (.Call (.Name "int" p) [e] [] pos) (.int i) := xe_callTy call_int1 ml PyProof.Rows.boot_int (xa1 h he) (fun F H li vs r0 Q q => by
  obtain ⟨v, rfl, r⟩ := r0.one'
  rw [r.i]
  exact .inl ⟨i, rfl, q _ H (Same.refl H) rp_i⟩) hg (by decide) (by decide) he hpl
end

/-! ### lists and tuples added -/
def rCatS (K : PySem.W.Frag) : R2 := fun x y H Q => ∃ l b xs zs, x = .ref l ∧ y = .ref b ∧ SqL K H l xs ∧ SqL K H b zs ∧ xs.length + zs.length ≤ sizeLine ∧ ∀ p, H p = none → Q (.ref p) (upd H p (.lst (xs ++ zs)))
theorem op_catS : OpR X (binaryOp .Add) (rCatS X.K) := by
  intro pins s σ H x y v u Q I rx ry h
  obtain ⟨l, b, xs, zs, rfl, rfl, hH, hB, hz, q⟩ := h
  cases rx
  cases ry
  obtain ⟨its, r, ⟨⟨cls, dd, data, sl⟩, n, ho, hc, hdd, hd⟩, hl⟩ := I.list hH
  obtain ⟨its2, r2, ⟨⟨cls2, dd2, data2, sl2⟩, n2, ho2, hc2, hdd2, hd2⟩, hl2⟩ := I.list hB
  simp only at hc hd hc2 hd2 hdd hdd2
  subst hc hd hc2 hd2 hdd hdd2
  have e : its.toArray ++ its2.toArray = (its ++ its2).toArray := by simp
  refine concat_meets ⟨_, ho, rfl⟩ ⟨_, ho2, rfl⟩ noFill_list_add seq_list_add PySem.F.slot_list_add PySem.F.entry_list_add (PySem.F.args_list_add_2 _ _) (list_addW l b its.toArray its2.toArray n n2 none none sl sl2 (by rw [List.size_toArray, List.size_toArray, ← r.length, ← r2.length]; exact hz)) ⟨ho, ho2, ?_⟩
  rw [e]
  exact ⟨.ref _, _, I.lnew (t' := s.toks) (r.append r2) (by rw [List.length_append]; omega), rfl, q _ I.fresh⟩
theorem xe_cat {es' : List D} (ha : XE X ρ a (.list ds)) (hb : XE X ρ b (.list es')) (hl : ds.length + es'.length ≤ 100000) : XE X ρ (.BinOp a .Add b pos) (.list (ds ++ es')) := xe_op op_catS ha hb fun F H li u v r1 r2 Q q => by
  obtain ⟨l, xs, rfl, h1, h2⟩ := r1.l
  obtain ⟨m, zs, rfl, g1, g2⟩ := r2.l
  refine ⟨l, m, xs, zs, rfl, rfl, Same.seq hid_le h1, Same.seq hid_le g1, by rw [DpAll.length h2, DpAll.length g2]; exact Nat.le_trans hl (by decide), fun p hp => q _ _ (same_upd hp) ?_⟩
  exact .inl (.lst (.inl (.inl (by rw [hid_out (li.out hp)]; exact upd_same))) (dpAll_mono (hid_mono (same_upd hp)) (DpAll.append h2 g2)))
theorem dpAll_nil_iff {K : PySem.W.Frag} {H : Hp} {vs : List V} (h : DpAll K H vs ds) : vs = [] ↔ ds = [] := by
  cases h with
  | nil => exact Iff.intro (fun _ => rfl) (fun _ => rfl)
  | cons _ _ => exact Iff.intro (fun q => by cases q) (fun q => by cases q)
theorem xe_catT {es' : List D} (ha : XE X ρ a (.tuple ds)) (hb : XE X ρ b (.tuple es')) (hl : ds.length + es'.length ≤ 100000) : XE X ρ (.BinOp a .Add b pos) (.tuple (ds ++ es')) := xe_op op_catA ha hb fun F H li u v r1 r2 Q q => by
  obtain ⟨l, xs, rfl, h1, h2⟩ := r1.t
  obtain ⟨m, zs, rfl, g1, g2⟩ := r2.t
  refine ⟨l, m, xs, zs, rfl, rfl, seqT hid_le h1, seqT hid_le g1, by rw [DpAll.length h2, DpAll.length g2]; exact Nat.le_trans hl (by decide), fun e1 => ?_, fun _ e2 => ?_, fun _ _ p hp => q _ _ (same_upd hp) ?_⟩
  · rw [(dpAll_nil_iff h2).mp e1, List.nil_append] at q
    exact q _ H (Same.refl H) r2
  · rw [(dpAll_nil_iff g2).mp e2, List.append_nil] at q
    exact q _ H (Same.refl H) r1
  · exact .inl (.tup (.inl (.inl (by rw [hid_out (li.out hp)]; exact upd_same))) (dpAll_mono (hid_mono (same_upd hp)) (DpAll.append h2 g2)))
/-- [x] * n, a new list -/
theorem xn_rep {i : Int} (ha : XN X ρ a [d]) (hb : XE X ρ b (.int i)) (h0 : 0 ≤ i ∧ i ≤ 1000) : XN X ρ (.BinOp a .Mult b pos) (List.replicate i.toNat d) := xn_of (pe_op op_rep pE pE) fun F σ H en li Q q => ha F σ H en li _ fun p H1 vs hp s1 e1 d1 => hb F σ H1 (en.same s1) (li.mono s1) _ fun u H2 s2 r2 => by
  cases d1 with
  | cons g1 g2 =>
    cases g2
    rename_i v
    refine ⟨p, i, [v], rfl, r2.i, s2 p _ e1, by omega, by omega, by show 1 * i.toNat ≤ sizeLine; exact Nat.le_trans (show 1 * i.toNat ≤ 1000 by omega) (by decide), fun l hl => q l _ _ ?_ ((s1.trans s2).trans (same_upd hl)) upd_same ?_⟩
    · cases h : H l with
      | none => rfl
      | some o => rw [(s1.trans s2) l o h] at hl; cases hl
    · have g := dp_mono (Same.trans (hid_mono s2) (hid_sub fun _ m => m)) g1
      have sm : Same (hid (p :: F) H2) (hid (l :: F) (upd H2 l (.lst (List.replicate i.toNat [v]).flatten))) := Same.trans (hid_sub fun _ m => List.mem_cons_of_mem _ m) (hid_new hl (same_upd hl))
      have g := dp_mono sm g
      have e : (List.replicate i.toNat [v]).flatten = List.replicate i.toNat v := by
        induction i.toNat with
        | zero => rfl
        | succ n ih => rw [List.replicate_succ, List.flatten_cons, ih, List.replicate_succ]; rfl
      rw [e]
      rw [e] at g
      have all : ∀ n : Nat, DpAll X.K (hid (l :: F) (upd H2 l (.lst (List.replicate i.toNat v)))) (List.replicate n v) (List.replicate n d) := fun n => by
        induction n with
        | zero => exact .nil
        | succ n ih => exact .cons g ih
      exact all _

/-! ### == of data, in -/
theorem xe_eqD (hu : X.A.units + 64 < cLine) (ha : XE X ρ a x) (hb : XE X ρ b y) (n1 : SeqAt.shaped x = true) (n2 : SeqAt.shaped y = true) (m1 : isDict x = false := by rfl) (m2 : isDict y = false := by rfl) : XE X ρ (.Compare a [.Eq] [b] pos) (.bool (PyData.eqv x y)) :=
  xe_cmp (op_eqD hu) ha hb (nomark _) fun F H li u v r1 r2 Q q => ⟨x, y, dp_mono hid_le (r1.dp m1), dp_mono hid_le (r2.dp m2), n1, n2, q _ H (Same.refl H) rp_b⟩
theorem xt_eqD (hu : X.A.units + 64 < cLine) (ha : XE X ρ a x) (hb : XE X ρ b y) (n1 : SeqAt.shaped x = true) (n2 : SeqAt.shaped y = true) (m1 : isDict x = false := by rfl) (m2 : isDict y = false := by rfl) : XT X ρ (.Compare a [.Eq] [b] pos) (PyData.eqv x y) :=
  xt_cmp (op_eqD hu) ha hb (nomark _) fun F H li u v r1 r2 Q q => ⟨x, y, dp_mono hid_le (r1.dp m1), dp_mono hid_le (r2.dp m2), n1, n2, q _ H (Same.refl H) rp_b⟩
theorem xt_neD (hu : X.A.units + 64 < cLine) (ha : XE X ρ a x) (hb : XE X ρ b y) (n1 : SeqAt.shaped x = true) (n2 : SeqAt.shaped y = true) (m1 : isDict x = false := by rfl) (m2 : isDict y = false := by rfl) : XT X ρ (.Compare a [.NotEq] [b] pos) (!PyData.eqv x y) :=
  xt_cmp (op_neD hu) ha hb (nomark _) fun F H li u v r1 r2 Q q => ⟨x, y, dp_mono hid_le (r1.dp m1), dp_mono hid_le (r2.dp m2), n1, n2, q _ H (Same.refl H) rp_b⟩
theorem xe_inD (hu : X.A.units + 65 < cLine) (ha : XE X ρ a x) (hb : XE X ρ b (.list ds)) (n1 : SeqAt.shaped x = true) (n2 : SeqAt.shaped (.list ds) = true) (m1 : isDict x = false := by rfl) (hm : behindInMarks .In b = false := by with_unfolding_all rfl) : XE X ρ (.Compare a [.In] [b] pos) (.bool (ds.any fun z => PyData.eqv z x)) :=
  xe_cmp (op_inD hu) ha hb hm fun F H li u v r1 r2 Q q => ⟨x, ds, dp_mono hid_le (r1.dp m1), dp_mono hid_le (r2.dp rfl), n1, n2, q _ H (Same.refl H) rp_b⟩
theorem xt_notInD (hu : X.A.units + 65 < cLine) (ha : XE X ρ a x) (hb : XE X ρ b (.list ds)) (n1 : SeqAt.shaped x = true) (n2 : SeqAt.shaped (.list ds) = true) (m1 : isDict x = false := by rfl) (hm : behindInMarks .NotIn b = false := by with_unfolding_all rfl) : XT X ρ (.Compare a [.NotIn] [b] pos) (!ds.any fun z => PyData.eqv z x) :=
  xt_cmp (op_notInD hu) ha hb hm fun F H li u v r1 r2 Q q => ⟨x, ds, dp_mono hid_le (r1.dp m1), dp_mono hid_le (r2.dp rfl), n1, n2, q _ H (Same.refl H) rp_b⟩
/-- an int in a tuple of ints -/
theorem inV_ints (i : Int) : ∀ ns : List Int, inV (.int i) (ns.map V.int) = decide (i ∈ ns)
  | [] => rfl
  | n :: ns => by
    have h := inV_ints i ns
    unfold inV at h ⊢
    rw [List.map_cons, List.any_cons, h]
    show ((n == i) || decide (i ∈ ns)) = _
    by_cases e : n = i
    · subst e; simp
    · have e' : ¬ i = n := fun z => e z.symm
      simp [e, e']
theorem flat_ints : ∀ ns : List Int, (ns.map V.int).all flatV = true
  | [] => rfl
  | n :: ns => by rw [List.map_cons, List.all_cons, flat_ints ns]; rfl
theorem xe_inT {i : Int} {ns : List Int} (ha : XE X ρ a (.int i)) (hb : XE X ρ b (.tuple (ns.map .int))) (hm : behindInMarks .In b = false := by with_unfolding_all rfl) : XE X ρ (.Compare a [.In] [b] pos) (.bool (decide (i ∈ ns))) :=
  xe_cmp op_in_seq ha hb hm fun F H li u v r1 r2 Q q => by
    obtain ⟨l, xs, rfl, h1, h2⟩ := r2.t
    rw [dpAll_ints h2] at h1
    rw [r1.i]
    refine ⟨l, _, rfl, .inr (seqT hid_le h1), rfl, flat_ints ns, q _ H (Same.refl H) ?_⟩
    rw [if_neg Bool.false_ne_true, inV_ints]
    exact rp_b
theorem xt_notInLI {i : Int} {ns : List Int} (ha : XE X ρ a (.int i)) (hb : XE X ρ b (.list (ns.map .int))) (hm : behindInMarks .NotIn b = false := by with_unfolding_all rfl) : XT X ρ (.Compare a [.NotIn] [b] pos) (!decide (i ∈ ns)) :=
  xt_cmp op_notIn_seq ha hb hm fun F H li u v r1 r2 Q q => by
    obtain ⟨l, xs, rfl, h1, h2⟩ := r2.l
    rw [dpAll_ints h2] at h1
    rw [r1.i]
    refine ⟨l, _, rfl, .inl (Same.seq hid_le h1), rfl, flat_ints ns, q _ H (Same.refl H) ?_⟩
    rw [if_pos rfl, inV_ints]
    exact rp_b
theorem inV_strs (i : Str) : ∀ ns : List Str, inV (.str i) (ns.map V.str) = decide (i ∈ ns)
  | [] => rfl
  | n :: ns => by
    have h := inV_strs i ns
    unfold inV at h ⊢
    rw [List.map_cons, List.any_cons, h]
    show ((n == i) || decide (i ∈ ns)) = _
    by_cases e : n = i
    · subst e; simp
    · have e' : ¬ i = n := fun z => e z.symm
      simp [e, e']
theorem flat_strs : ∀ ns : List Str, (ns.map V.str).all flatV = true
  | [] => rfl
  | n :: ns => by rw [List.map_cons, List.all_cons, flat_strs ns]; rfl
theorem xt_notInTS {i : Str} {ns : List Str} (ha : XE X ρ a (.str i)) (hb : XE X ρ b (.tuple (ns.map .str))) (hm : behindInMarks .NotIn b = false := by with_unfolding_all rfl) : XT X ρ (.Compare a [.NotIn] [b] pos) (!decide (i ∈ ns)) :=
  xt_cmp op_notIn_seq ha hb hm fun F H li u v r1 r2 Q q => by
    obtain ⟨l, xs, rfl, h1, h2⟩ := r2.t
    rw [dpAll_strs h2] at h1
    rw [r1.s]
    refine ⟨l, _, rfl, .inr (seqT hid_le h1), rfl, flat_strs ns, q _ H (Same.refl H) ?_⟩
    rw [if_pos rfl, inV_strs]
    exact rp_b

/-! ### the calls of defs -/
/-- a def's promise by data -/
def spD (K : PySem.W.Frag) (R : List D → D → Prop) : Sp := fun vs H Q _ => ∃ (ds : List D) (d : D) (F : List Addr), R ds d ∧ RpAll K (hid F H) vs ds ∧ Live F H ∧ ∀ v H', Same H H' → Rp K (hid F H') v d → Q v H'
/-- a def of the module keeps a promise by data -/
structure Callee (P : Program) (w : World) (K : PySem.W.Frag) (mg : Str → Option Value) (base : Heap) (k : Nat) (n : Str) (R : List D → D → Prop) : Prop where
  ex : ∃ (f : Addr) (fd : FuncData) (ps : List Str), FnOk P w K mg base CX0 k f fd ps (spD K R) ∧ mg n = some (.ref f) ∧ PySem.W.keepIn K (.ref f) = true ∧ Binds K fd ps []
theorem xe_call {k : Nat} {n : Str} {R : List D → D → Prop} (C : Callee X.prog X.w X.K X.mg X.base k n R) (hr : Room k X.A) (ha : XA X ρ (e :: es) ds) (hR : R ds d) (hg : Gl X n := by rfl) (hdb : (n == ("__debug__" : Str)) = false := by decide)
    (he : starEach (e :: es) X.env = (false, eval e X.env) :: starEach es X.env := by rfl) (hpl : (backTo pos (starEach es X.env)).any (·.1) = false := by rfl) : XE X ρ (.Call (.Name n p) (e :: es) [] pos) d := by
  obtain ⟨f, fd, ps, F, hm, hk, hb⟩ := C.ex
  exact xe_of (pe_call F hr hg hm hk hb .nil pass0 pA hdb he hpl) fun G σ H en li Q q => ha G σ H en li _ fun vs H1 s1 r1 => ⟨ds, d, G, hR, by rw [List.append_nil]; exact r1, li.mono s1, fun v H2 s2 r2 => q v H2 (s1.trans s2) r2⟩
end
end DL
set_option Elab.async false
set_option linter.all false
set_option maxRecDepth 100000
set_option maxHeartbeats 4000000
/-! What is walked, targets, comprehensions. -/
namespace DL
open PySem PySem.Spec PyProof.Rows L2

/-! ### what is walked -/
/-- J walks the data ds while S (what is seen) stays -/
def Wk (K : PySem.W.Frag) (J : It) (S : Hp) (ds : List D) : Prop := ∀ H2, Same S H2 →
  (∀ (i : Nat) d, ds[i]? = some d → J.go i H2 ∧ ∀ x H', J.yld i H2 x H' → Same H2 H' ∧ ∃ S' : Hp, Same S' H' ∧ (∀ a o, S' a = some o → S a = some o ∨ H2 a = none) ∧ Rp K S' x d) ∧ J.stop ds.length H2
theorem Wk.item {K : PySem.W.Frag} {J : It} {S : Hp} {ds : List D} (w : Wk K J S ds) {G : List Addr} {H2 : Hp} (s : Same S (hid G H2)) (l : Live G H2) {i : Nat} {d : D} (hd : ds[i]? = some d) {x : V} {H' : Hp} (y : J.yld i H2 x H') : Same H2 H' ∧ Rp K (hid G H') x d := by
  obtain ⟨s1, S', s2, n, r⟩ := ((w H2 (Same.trans s hid_le)).1 i d hd).2 x H' y
  refine ⟨s1, rp_mono (fun a o q => ?_) r⟩
  rcases n a o q with q' | q'
  · obtain ⟨m, _⟩ := hid_some (s a o q')
    rw [hid_out m]
    exact s2 a o q
  · rw [hid_out fun m => l a m q']
    exact s2 a o q
def cI (X : Cx) (tg iter : Expr) : TI := fun σ H R => ∀ (pins : List (Addr × Obj)) (s : Shared), Inv X pins σ H s →
  wpAny (model X.prog X.w) X.A (eval iter X.env) (fun v s1 => wpAny (model X.prog X.w) X.A (pyIter v) (PIE X pins σ tg R) X.xe s1) X.xe s
def EvI (K : PySem.W.Frag) (wi : TI) (ρ : Rho) (ds : List D) : Prop := ∀ (F : List Addr) (σ : L2.St) (H : Hp), EnvOk K F H σ ρ → Live F H → ∀ R : It → Hp → Prop, (∀ J H1, Same H H1 → Wk K J (hid F H1) ds → R J H1) → wi σ H R
abbrev XI (X : Cx) (ρ : Rho) (tg iter : Expr) (ds : List D) : Prop := EvI X.K (cI X tg iter) ρ ds
section
variable {X : Cx} {ρ : Rho} {e a b c tg iter : Expr} {es : List Expr} {pos p : Pos} {d x y z : D} {ds : List D}
theorem pI : PI X tg iter (cI X tg iter) := ⟨fun pins s _ _ _ I h => h pins s I⟩
theorem xi_of {wi : TI} (h : PI X tg iter wi) (q : EvI X.K wi ρ ds) : XI X ρ tg iter ds := fun F σ H en li R g pins s I => h.run pins s σ H R I (q F σ H en li R g)
theorem xi_list (h : XE X ρ e (.list ds)) : XI X ρ tg e ds := xi_of (pi_list pE) fun F σ H en li R g => h F σ H en li _ fun v H1 s1 r => by
  obtain ⟨l, vs, rfl, h1, h2⟩ := r.l
  refine ⟨l, rfl, ⟨vs, Same.seq hid_le h1⟩, g _ H1 s1 fun H2 s2 => ⟨fun i d hd => ?_, ?_⟩⟩
  · obtain ⟨v, hv, dv⟩ := DpAll.get h2 hd
    have q2 := Same.seq s2 h1
    refine ⟨⟨vs, v, q2, hv⟩, fun x H' y => ?_⟩
    obtain ⟨rfl, y⟩ := y
    have e := Option.some.inj ((y vs q2).symm.trans hv)
    subst e
    exact ⟨Same.refl _, _, s2, fun a o q => .inl q, .inl dv⟩
  · exact ⟨vs, Same.seq s2 h1, by rw [DpAll.length h2]; exact Nat.le_refl _⟩
theorem xi_tup (h : XE X ρ e (.tuple ds)) : XI X ρ tg e ds := xi_of (pi_tup pE) fun F σ H en li R g => h F σ H en li _ fun v H1 s1 r => by
  obtain ⟨l, vs, rfl, h1, h2⟩ := r.t
  refine ⟨l, rfl, ⟨vs, seqT hid_le h1⟩, g _ H1 s1 fun H2 s2 => ⟨fun i d hd => ?_, ?_⟩⟩
  · obtain ⟨v, hv, dv⟩ := DpAll.get h2 hd
    have q2 := seqT s2 h1
    refine ⟨⟨vs, v, q2, hv⟩, fun x H' y => ?_⟩
    obtain ⟨rfl, y⟩ := y
    have e := Option.some.inj ((y vs q2).symm.trans hv)
    subst e
    exact ⟨Same.refl _, _, s2, fun a o q => .inl q, .inl dv⟩
  · exact ⟨vs, seqT s2 h1, by rw [DpAll.length h2]; exact Nat.le_refl _⟩
def rng (lo : Int) (n : Nat) : List Int := (List.range n).map fun (i : Nat) => lo + (i : Int)
theorem rng_get {lo : Int} {n i : Nat} {k : Int} (h : (rng lo n)[i]? = some k) : i < n ∧ k = lo + i := by
  unfold rng at h
  rw [List.getElem?_map] at h
  by_cases hi : i < n
  · rw [List.getElem?_range hi] at h
    cases h
    exact ⟨hi, rfl⟩
  · rw [List.getElem?_eq_none (by rw [List.length_range]; omega)] at h
    cases h
theorem rng_len {lo : Int} {n : Nat} : (rng lo n).length = n := by unfold rng; rw [List.length_map, List.length_range]
theorem wk_rng {K : PySem.W.Frag} {S : Hp} {lo : Int} {n : Nat} : Wk K (Itr lo n) S ((rng lo n).map .int) := fun H2 s2 => ⟨fun i d hd => by
  rw [List.getElem?_map] at hd
  cases q : (rng lo n)[i]? with
  | none => rw [q] at hd; cases hd
  | some k =>
    rw [q] at hd
    cases hd
    obtain ⟨hi, rfl⟩ := rng_get q
    refine ⟨hi, fun x H' y => ?_⟩
    obtain ⟨rfl, rfl⟩ := y
    exact ⟨Same.refl _, S, s2, fun a o q => .inl q, rp_i⟩, by
  rw [List.length_map, rng_len]
  exact Nat.le_refl n⟩
theorem xi_range1 {n : Int} (mr : X.mg "range" = none) (h : XE X ρ e (.int n)) (hn : -(2 ^ 62) ≤ n ∧ n < 2 ^ 62) (hg : Gl X "range" := by rfl) (he : starEach (e :: []) X.env = (false, eval e X.env) :: starEach [] X.env := by rfl) (hs : starEach [e] X.env = [(false, eval e X.env)] := by rfl) :
    XI X ρ tg (.Call (.Name "range" p) [e] [] pos) ((rng 0 n.toNat).map .int) := xi_of (pi_range1 hg mr pA hs) fun F σ H en li R g => xa1 h he F σ H en li _ fun vs H1 s1 r0 => by
  obtain ⟨v, rfl, r⟩ := r0.one'
  rw [r.i]
  exact ⟨n, rfl, hn.1, hn.2, g _ H1 s1 wk_rng⟩
theorem xi_range2 {n m : Int} (mr : X.mg "range" = none) (h : XE X ρ a (.int n)) (g : XE X ρ b (.int m)) (hn : -(2 ^ 62) ≤ n ∧ n < 2 ^ 62 ∧ -(2 ^ 62) ≤ m ∧ m < 2 ^ 62) (hg : Gl X "range" := by rfl) (he : starEach (a :: [b]) X.env = (false, eval a X.env) :: starEach [b] X.env := by rfl)
    (he2 : starEach (b :: []) X.env = (false, eval b X.env) :: starEach [] X.env := by rfl) (hs : starEach [a, b] X.env = [(false, eval a X.env), (false, eval b X.env)] := by rfl) (hs2 : starEach [b] X.env = [(false, eval b X.env)] := by rfl) :
    XI X ρ tg (.Call (.Name "range" p) [a, b] [] pos) ((rng n (m - n).toNat).map .int) := xi_of (pi_range2 hg mr pA hs hs2) fun F σ H en li R gg => xa2 h g he he2 F σ H en li _ fun vs H1 s1 r0 => by
  obtain ⟨v, w, rfl, r1, r2⟩ := r0.two
  rw [r1.i, r2.i]
  exact ⟨n, m, rfl, hn, gg _ H1 s1 wk_rng⟩
/-- the signs of a text -/
def signs (w : Str) : List Str := w.cps.toList.map fun c => ⟨#[c]⟩
theorem xi_str {w : Str} (h : XE X ρ e (.str w)) : XI X ρ tg e ((signs w).map .str) := xi_of (pi_str pE) fun F σ H en li R g => h F σ H en li _ fun v H1 s1 r => by
  refine ⟨w, r.s, g _ H1 s1 fun H2 s2 => ⟨fun i d hd => ?_, ?_⟩⟩
  · unfold signs at hd
    rw [List.getElem?_map, List.getElem?_map] at hd
    cases q : w.cps.toList[i]? with
    | none => rw [q] at hd; cases hd
    | some k =>
      rw [q] at hd
      cases hd
      have hi := (List.getElem?_eq_some_iff.mp q).1
      rw [Array.length_toList] at hi
      refine ⟨hi, fun x H' y => ?_⟩
      obtain ⟨rfl, c, hc, rfl⟩ := y
      rw [Array.getElem?_toList] at q
      rw [q] at hc
      cases hc
      exact ⟨Same.refl _, _, s2, fun a o q => .inl q, rp_s⟩
  · unfold signs
    rw [List.length_map, List.length_map, Array.length_toList]
    exact Nat.le_refl _

/-! ### targets -/
/-- the target g takes the datum d: the environment ρ becomes ρ'; only the slots js change -/
def EvG (K : PySem.W.Frag) (g : TG) (js : List Nat) (ρ : Rho) (d : D) (ρ' : Rho) : Prop := ∀ (F : List Addr) (σ : L2.St) (H : Hp) (v : V), EnvOk K F H σ ρ → Rp K (hid F H) v d → ∀ Q : L2.St → Hp → Prop,
  (∀ σ', EnvOk K F H σ' ρ' → σ'.length = σ.length → (∀ k, k ∉ js → σ'[k]? = σ[k]?) → Q σ' H) → g v σ H Q
theorem eg_name {K : PySem.W.Frag} (j : Nat) : EvG K (gName j) [j] ρ d (ρ.set j (some d)) := fun F σ H v en r Q q => q _ (en.set r) (by rw [List.length_set]) fun k hk => by
  rw [List.getElem?_set_ne (fun e => hk (by simp [e]))]
theorem eg_pair {K : PySem.W.Frag} (i j : Nat) : EvG K (gTup K 2 (gCons (gName i) (gCons (gName j) gNil))) [i, j] ρ (.tuple [x, y]) ((ρ.set i (some x)).set j (some y)) := fun F σ H v en r Q q => by
  obtain ⟨l, vs, rfl, h1, h2⟩ := r.t
  cases h2 with
  | cons g1 h2 =>
    cases h2 with
    | cons g2 h2 =>
      cases h2
      refine ⟨l, _, rfl, seqT hid_le h1, rfl, _, _, rfl, _, _, rfl, rfl, q _ ((en.set (.inl g1)).set (.inl g2)) (by rw [List.length_set, List.length_set]) fun k hk => ?_⟩
      rw [List.getElem?_set_ne (fun e => hk (by simp [e])), List.getElem?_set_ne (fun e => hk (by simp [e]))]

/-! ### comprehensions -/
def wipeD (ρ : Rho) : List Nat → Rho
  | [] => ρ
  | v :: vs => (wipeD ρ vs).set v none
theorem EnvOk.wipeD {K : PySem.W.Frag} {F : List Addr} {H : Hp} {σ : L2.St} {ρ : Rho} (e : EnvOk K F H σ ρ) : ∀ vs : List Nat, EnvOk K F H (L2.wipe σ vs) (DL.wipeD ρ vs)
  | [] => e
  | v :: vs => (EnvOk.wipeD e vs).setN
theorem wipe_none {σ : L2.St} : ∀ {vs : List Nat} {i : Nat}, i ∈ vs → i < σ.length → (L2.wipe σ vs)[i]? = some none
  | v :: vs, i, hi, hl => by
    show ((L2.wipe σ vs).set v none)[i]? = some none
    by_cases e : v = i
    · subst e
      rw [List.getElem?_set_self (by rw [wipe_length]; exact hl)]
    · rw [List.getElem?_set_ne e]
      rcases List.mem_cons.mp hi with q | q
      · exact absurd q.symm e
      · exact wipe_none q hl
/-- where only slots of vs changed, wiping vs gives the same -/
theorem wipe_eq {σ σ' : L2.St} {vs js : List Nat} (hl : σ'.length = (L2.wipe σ vs).length) (hj : ∀ j ∈ js, j ∈ vs) (h : ∀ k, k ∉ js → σ'[k]? = (L2.wipe σ vs)[k]?) : L2.wipe σ' vs = L2.wipe σ vs := by
  refine List.ext_getElem? fun i => ?_
  by_cases m : i ∈ vs
  · by_cases q : i < σ.length
    · rw [wipe_none m q, wipe_none m (by rw [hl, wipe_length]; exact q)]
    · rw [List.getElem?_eq_none (by rw [wipe_length, hl, wipe_length]; omega), List.getElem?_eq_none (by rw [wipe_length]; omega)]
  · rw [wipe_out m, h i fun z => m (hj i z)]
def cTs (X : Cx) (ifs : List Expr) : TT := fun σ H Q => ∀ (pins : List (Addr × Obj)) (s : Shared), Inv X pins σ H s →
    wpAny (model X.prog X.w) X.A (forIn ifs true fun c r => if r = true then do let ok ← isTrue c X.env (eval c X.env); pure (ForInStep.yield ok) else pure (ForInStep.yield r)) (TP X pins σ Q) X.xe s
abbrev XTs (X : Cx) (ρ : Rho) (ifs : List Expr) (b : Bool) : Prop := EvT X.K (cTs X ifs) ρ b
theorem xts_nil : XTs X ρ [] true := fun F σ H en li Q g pins s I => pts_nil.run pins s σ H Q I (g H (Same.refl H))
theorem xts_one {k : Bool} (h : XT X ρ c k) : XTs X ρ [c] k := fun F σ H en li Q g pins s I => (pts_one pT).run pins s σ H Q I (h F σ H en li Q g)
abbrev tLcOf (X : Cx) (tg iter : Expr) (g : TG) (scope : Scope) (own : List (Str × Nat)) (ifs : List Expr) (elt : Expr) : TE := tLc (cI X tg iter) g (fun σ H Q => ∀ (s : Shared) (H0 : Hp) (C : Addr) (cl : List (Str × Addr)) (fp : List Addr), cTs (X.blk s H0 scope (compEnvC scope cl C X.env) fp) ifs σ H Q)
    (fun σ H Q => ∀ (s : Shared) (H0 : Hp) (C : Addr) (cl : List (Str × Addr)) (fp : List Addr), cE (X.blk s H0 scope (compEnvC scope cl C X.env) fp) elt σ H Q) (own.map (·.2))
theorem evn_tLc {α : Type} {xs : List α} {enc : α → D} {elt : Expr} {ifs : List Expr} {scope : Scope} {own : List (Str × Nat)} {g : TG} {js : List Nat} {f : α → Bool} {h : α → D} {ρt : α → Rho}
    (hi : XI X ρ tg iter (xs.map enc))
    (hG : ∀ x, x ∈ xs → EvG X.K g js (wipeD ρ (own.map (·.2))) (enc x) (ρt x)) (hj : ∀ j ∈ js, j ∈ own.map (·.2))
    (ht : ∀ (s : Shared) (H : Hp) (C : Addr) (cl : List (Str × Addr)) (fp : List Addr) (x : α), x ∈ xs → XTs (X.blk s H scope (compEnvC scope cl C X.env) fp) (ρt x) ifs (f x))
    (he : ∀ (s : Shared) (H : Hp) (C : Addr) (cl : List (Str × Addr)) (fp : List Addr) (x : α), x ∈ xs → f x = true → XE (X.blk s H scope (compEnvC scope cl C X.env) fp) (ρt x) elt (h x))
    (hnd : ∀ x, x ∈ xs → f x = true → isDict (h x) = false) (hlen : xs.length ≤ 100000) :
    EvN X.K (tLcOf X tg iter g scope own ifs elt) ρ ((xs.filter f).map h) := by
  intro F σ H en li Q q
  refine hi F σ H en li _ fun J H1 s1 wk Dl hD => ?_
  have hD0 : H Dl = none := by
    cases h : H Dl with
    | none => rfl
    | some o => rw [s1 Dl o h] at hD; cases hD
  have hDF : Dl ∉ F := (li.mono s1).out hD
  have li1 : Live (Dl :: F) (upd H1 Dl (.lst [])) := fun a m => by
    rcases List.mem_cons.mp m with rfl | m
    · rw [upd_same]; exact fun z => nomatch z
    · exact (li.mono (s1.trans (same_upd hD))) a m
  have sH1 : Same (hid F H1) (hid (Dl :: F) (upd H1 Dl (.lst []))) := hid_new hD (same_upd hD)
  -- the word
  refine ⟨fun i m Hi => m = xs.length - i ∧ i ≤ xs.length ∧ Same (hid F H1) (hid (Dl :: F) Hi) ∧ Live (Dl :: F) Hi ∧ (∀ a o, a ≠ Dl → H1 a = some o → Hi a = some o) ∧ ∃ vs, Hi Dl = some (.lst vs) ∧ DpAll X.K (hid (Dl :: F) Hi) vs (((xs.take i).filter f).map h) ∧ vs.length ≤ i,
    ⟨xs.length, rfl, Nat.zero_le _, sH1, li1, fun a o n e => by rw [upd_ne n]; exact e, [], upd_same, .nil, Nat.le_refl _⟩, ?_⟩
  rintro i m Hi ⟨rfl, hle, sm, lv, old, vs, hv, da, hvl⟩
  obtain ⟨wgo, wst⟩ := wk Hi (Same.trans sm hid_le)
  by_cases hlt : i < xs.length
  · have hx : xs[i]? = some xs[i] := List.getElem?_eq_getElem hlt
    have hmem : xs[i] ∈ xs := List.getElem_mem hlt
    have hd : (xs.map enc)[i]? = some (enc xs[i]) := by rw [List.getElem?_map, hx]; rfl
    have htake : xs.take (i + 1) = xs.take i ++ [xs[i]] := by rw [List.take_add_one, hx]; rfl
    refine .inr ⟨(wgo i _ hd).1, fun Hn => Same (hid F H1) (hid (Dl :: F) Hn) ∧ Live (Dl :: F) Hn ∧ (∀ a o, a ≠ Dl → H1 a = some o → Hn a = some o) ∧ ∃ vs, Hn Dl = some (.lst vs) ∧ DpAll X.K (hid (Dl :: F) Hn) vs (((xs.take (i + 1)).filter f).map h) ∧ vs.length ≤ i + 1,
      fun H' ⟨a1, a2, a3, a4⟩ => ⟨xs.length - (i + 1), by omega, rfl, hlt, a1, a2, a3, a4⟩, fun x H' y => ?_⟩
    obtain ⟨sy, rx⟩ := wk.item sm lv hd y
    have en1 : EnvOk X.K (Dl :: F) H' (L2.wipe σ (own.map (·.2))) (wipeD ρ (own.map (·.2))) := EnvOk.wipeD (en.mono (Same.trans (hid_mono s1) (Same.trans sm (hid_mono sy)))) _
    refine hG xs[i] hmem (Dl :: F) _ H' x en1 rx _ fun σ2 en2 hl2 hk2 => ⟨wipe_eq hl2 hj hk2, fun s H0 C cl fp => ?_⟩
    refine ht s H0 C cl fp xs[i] hmem (Dl :: F) σ2 H' en2 (lv.mono sy) _ fun H3 s3 => ?_
    have grow : ∀ Hn, Same Hi Hn → Same (hid F H1) (hid (Dl :: F) Hn) := fun Hn s => Same.trans sm (hid_mono s)
    cases hf : f xs[i] with
    | false =>
      refine iteF ⟨grow H3 (sy.trans s3), lv.mono (sy.trans s3), fun a o n e => (sy.trans s3) a o (old a o n e), vs, (sy.trans s3) Dl _ hv, ?_, by omega⟩
      rw [htake, List.filter_append, List.filter_cons, hf]
      simp only [Bool.false_eq_true, if_false, List.filter_nil, List.append_nil]
      exact dpAll_mono (hid_mono (sy.trans s3)) da
    | true =>
      refine iteT fun s H0 C cl fp => he s H0 C cl fp xs[i] hmem hf (Dl :: F) σ2 H3 (en2.same s3) (lv.mono (sy.trans s3)) _ fun v H4 s4 r4 => ?_
      have s14 := (sy.trans s3).trans s4
      have hid4 : hid (Dl :: F) (upd H4 Dl (.lst (vs ++ [v]))) = hid (Dl :: F) H4 := by
        funext a
        by_cases m : a ∈ Dl :: F
        · rw [hid_in m, hid_in m]
        · rw [hid_out m, hid_out m, upd_ne fun z => m (by simp [z])]
      refine ⟨vs, s14 Dl _ hv, Nat.lt_of_le_of_lt (show vs.length ≤ 100000 by omega) (by decide), by rw [hid4]; exact grow H4 s14, fun a m => ?_, fun a o n e => by rw [upd_ne n]; exact s14 a o (old a o n e), _, upd_same, ?_, by rw [List.length_append]; simp; omega⟩
      · by_cases z : a = Dl
        · rw [z, upd_same]; exact fun q => nomatch q
        · rw [upd_ne z]; exact lv.mono s14 a m
      · rw [hid4, htake, List.filter_append, List.filter_cons, hf]
        simp only [if_true, List.filter_nil, List.map_append, List.map_cons, List.map_nil]
        exact DpAll.append (dpAll_mono (hid_mono s14) da) (DpAll.one (r4.dp (hnd _ hmem hf)))
  · have e : i = xs.length := by omega
    subst e
    rw [List.length_map] at wst
    refine .inl ⟨wst, q Dl Hi vs hD0 (fun a o e => ?_) hv ?_⟩
    · exact old a o (ne_of_none e hD0) (s1 a o e)
    · rw [List.take_length] at da
      exact da
/-- [elt for tg in iter if ..] -/
theorem xn_lcG {α : Type} {xs : List α} {enc : α → D} {elt : Expr} {ifs : List Expr} {scope : Scope} {own : List (Str × Nat)} {g : TG} {js : List Nat} {f : α → Bool} {h : α → D} {ρt : α → Rho}
    (hc : X.calm = true) (hN : X.N.Nodup) (hi : XI X ρ tg iter (xs.map enc)) (ok : BlkOk X.N X.env.scope scope own)
    (hg : ∀ (s : Shared) (H : Hp) (C : Addr) (cl : List (Str × Addr)) (fp : List Addr), PG (X.blk s H scope (compEnvC scope cl C X.env) fp) tg g)
    (hG : ∀ x, x ∈ xs → EvG X.K g js (wipeD ρ (own.map (·.2))) (enc x) (ρt x)) (hj : ∀ j ∈ js, j ∈ own.map (·.2))
    (ht : ∀ (s : Shared) (H : Hp) (C : Addr) (cl : List (Str × Addr)) (fp : List Addr) (x : α), x ∈ xs → XTs (X.blk s H scope (compEnvC scope cl C X.env) fp) (ρt x) ifs (f x))
    (he : ∀ (s : Shared) (H : Hp) (C : Addr) (cl : List (Str × Addr)) (fp : List Addr) (x : α), x ∈ xs → f x = true → XE (X.blk s H scope (compEnvC scope cl C X.env) fp) (ρt x) elt (h x))
    (hnd : ∀ x, x ∈ xs → f x = true → isDict (h x) = false) (hlen : xs.length ≤ 100000) (hs : ∀ x, foldedSetIterable iter X.env x = pure x) :
    XN X ρ (.ListComp elt [⟨tg, iter, ifs, 0⟩] scope pos) ((xs.filter f).map h) :=
  xn_of (pe_lc hc hN pI ok hg (fun s H C cl fp => ⟨fun pins s1 σ1 H1 Q I h => h s H C cl fp pins s1 I⟩) (fun s H C cl fp => ⟨fun pins s1 σ1 H1 Q I h => h s H C cl fp pins s1 I⟩) hs) (evn_tLc hi hG hj ht he hnd hlen)
/-- a new list that a statement may hand to a name at once -/
structure XLc (X : Cx) (ρ : Rho) (e : Expr) (ds : List D) : Prop where
  ex : ∃ t : TE, EvN X.K t ρ ds ∧ ∀ (i : Nat) (y : Str) (py spos : Pos), X.N[i]? = some y → X.env.scope.names.lookup y = some .local → swapsWith e (some (.Name y py)) spos.line X.env = pure true → PS X (.Assign [.Name y py] e spos) (tAsg t (gName i))
/-- [elt for tg in iter if ..] -/
theorem xlc_lcG {α : Type} {xs : List α} {enc : α → D} {elt : Expr} {ifs : List Expr} {scope : Scope} {own : List (Str × Nat)} {g : TG} {js : List Nat} {f : α → Bool} {h : α → D} {ρt : α → Rho}
    (hc : X.calm = true) (hN : X.N.Nodup) (hi : XI X ρ tg iter (xs.map enc)) (ok : BlkOk X.N X.env.scope scope own)
    (hg : ∀ (s : Shared) (H : Hp) (C : Addr) (cl : List (Str × Addr)) (fp : List Addr), PG (X.blk s H scope (compEnvC scope cl C X.env) fp) tg g)
    (hG : ∀ x, x ∈ xs → EvG X.K g js (wipeD ρ (own.map (·.2))) (enc x) (ρt x)) (hj : ∀ j ∈ js, j ∈ own.map (·.2))
    (ht : ∀ (s : Shared) (H : Hp) (C : Addr) (cl : List (Str × Addr)) (fp : List Addr) (x : α), x ∈ xs → XTs (X.blk s H scope (compEnvC scope cl C X.env) fp) (ρt x) ifs (f x))
    (he : ∀ (s : Shared) (H : Hp) (C : Addr) (cl : List (Str × Addr)) (fp : List Addr) (x : α), x ∈ xs → f x = true → XE (X.blk s H scope (compEnvC scope cl C X.env) fp) (ρt x) elt (h x))
    (hnd : ∀ x, x ∈ xs → f x = true → isDict (h x) = false) (hlen : xs.length ≤ 100000) (hs : ∀ x, foldedSetIterable iter X.env x = pure x) :
    XLc X ρ (.ListComp elt [⟨tg, iter, ifs, 0⟩] scope pos) ((xs.filter f).map h) :=
  ⟨_, evn_tLc hi hG hj ht he hnd hlen, fun i y py spos hy hl hw => ps_setLc hc hN hy hl hw pI ok hg (fun s H C cl fp => ⟨fun pins s1 σ1 H1 Q I h => h s H C cl fp pins s1 I⟩) (fun s H C cl fp => ⟨fun pins s1 σ1 H1 Q I h => h s H C cl fp pins s1 I⟩) hs⟩
end
end DL
set_option Elab.async false
set_option linter.all false
set_option maxRecDepth 100000
set_option maxHeartbeats 4000000
/-! enumerate of a tuple. -/
namespace PySem
open Sem (wp)
open PyProof.Rows
theorem meets_enumerate_newB0 {v : Value} {o : Obj} {H : Heap → Prop} (B : Begins v o H) :
    Meets (Builtin.«enumerate.__new__» ⟨[.type "enumerate", v], []⟩) (fun _ R s => H s.heap ∧
      R (.ok (.ret (.ref (s.heap.push o).objs.size))) { s with heap := (s.heap.push o).push { cls := .type "enumerate", data := .fields #[.none, .bool false, .ref s.heap.objs.size, rawInt 0, .none, .none] } }) :=
  .of_wp fun prog w A R s h => by
    obtain ⟨hp, g, d, tk, os⟩ := s; obtain ⟨h1, h⟩ := h
    have hsub := sub_enumerate
    have q1 : ∀ {A' : Around} {E : Value → Shared → Prop} {Q : Value → Shared → Prop}, Q (.ref hp.objs.size) ⟨hp.push o, g, d, tk, os⟩ → wpAny (model prog w) A' (pyIter v) Q E ⟨hp, g, d, tk, os⟩ :=
      fun q => B.iter prog w _ _ ⟨hp, g, d, tk, os⟩ _ h1 q
    wp_walk using q1
    refine wpAny_stack_any fun st => wpAny_pure ?_
    split
    · rename_i c _ _ _ _ _
      cases (c == Value.type "enumerate")
      · wp_walk using q1
        exact ⟨_, rfl, h⟩
      · wp_walk using q1
        exact ⟨_, rfl, h⟩
    · wp_walk using q1
      exact ⟨_, rfl, h⟩
section
variable {prog : Program} {w : World} {A : Around} {E : Value → Shared → Prop} {s : Shared}
theorem enum_begins0 {v : Value} {o : Obj} {H : Heap → Prop} {Q : Value → Shared → Prop} (B : Begins v o H) (h1 : H s.heap)
    (h : ∀ h', IsEnum h' (s.heap.objs.size + 1) s.heap.objs.size 0 .none → h'.get? s.heap.objs.size = some o → h'.objs.size = s.heap.objs.size + 2 →
      (∀ b o, s.heap.get? b = some o → h'.get? b = some o) → Q (.ref (s.heap.objs.size + 1)) { s with heap := h' }) :
    wpAny (model prog w) A (call (.type "enumerate") [v]) Q E s := by
  refine callType_new F.called_enumerate (by decide) (F.typeCall_enumerate_1 _) (F.newCall_enumerate_1 _) (fun obj => F.args_object_init_2 obj _) F.entry_enumerate_new
    (meets_enumerate_newB0 B) ⟨h1, ?_⟩
  have hz : (s.heap.push o).objs.size = s.heap.objs.size + 1 := Heap.size_push ..
  show _ ∧ _
  rw [hz]
  have he : IsEnum ((s.heap.push o).push { cls := .type "enumerate", data := .fields #[.none, .bool false, .ref s.heap.objs.size, rawInt 0, .none, .none] }) (s.heap.objs.size + 1) s.heap.objs.size 0 .none := by
    have := Heap.get?_push_size (s.heap.push o) (o := { cls := .type "enumerate", data := .fields #[.none, .bool false, .ref s.heap.objs.size, rawInt 0, .none, .none] }) rfl
    rw [hz] at this; exact this
  refine ⟨⟨_, he, rfl⟩, h _ he (Heap.get?_push_of_some _ (Heap.get?_push_size _ B.free)) (by rw [Heap.size_push, hz]) fun b o x => Heap.get?_push_of_some _ (Heap.get?_push_of_some _ x)⟩
end
end PySem
namespace DL
open PySem PySem.Spec PyProof.Rows L2
def IteT (K : PySem.W.Frag) (a : Addr) : It :=
  ⟨fun i H => ∃ (xs : List V) (x : V), SqT K H a xs ∧ xs[i]? = some x, fun i H v H' => ∃ T x, v = .ref T ∧ H T = none ∧ H' = upd H T (.tup [.int (i : Nat), x]) ∧ ∀ xs, SqT K H a xs → xs[i]? = some x, fun i H => ∃ xs : List V, SqT K H a xs ∧ xs.length = i⟩
theorem tup_ne {h : Heap} {a b : Addr} {items : Array Value} {o : Obj} (t : h.IsTuple a items) (e : h.get? b = some o) (hc : o.cls ≠ .type "tuple") : a ≠ b := fun z => by
  obtain ⟨ot, ht, hct, _⟩ := t
  rw [z, e] at ht
  cases ht
  exact hc hct
theorem turn_enumT {P : Program} {w : World} {K : PySem.W.Frag} {elts : List Expr} {kk : Nat} {tpos : Pos} (a e it : Addr) :
    Turn P w K (.Tuple elts kk tpos) (IteT K a) [e, it] e (fun i h => (∃ old, IsEnum h e it ((i : Nat) : Int) old) ∧ h.IsTupleIter it a i ∧ e ≠ it) where
  mem := by simp
  obj := fun i h st b hb => by
    obtain ⟨⟨old, he⟩, ⟨o, ho, hc, hd⟩, _⟩ := st
    have e' : b = e ∨ b = it := by simpa using hb
    rcases e' with z | z
    · rw [z]; exact ⟨_, he, fun v q => nomatch q⟩
    · rw [z]; exact ⟨o, ho, fun v q => by rw [hd] at q; cases q⟩
  keep := fun i h h' st k => let ⟨⟨old, he⟩, hi, hne⟩ := st; ⟨⟨old, k e (by simp) _ he⟩, hi.at fun o q => k it (by simp) o q, hne⟩
  item := by
    intro X hP hw hK hc i pins s σ H E I hf st hg
    subst hP hw hK
    obtain ⟨⟨old, he⟩, hit, hne⟩ := st
    obtain ⟨xs, x, hq, hx⟩ := hg
    obtain ⟨its, rv, p, hz⟩ := I.tuple hq
    obtain ⟨u, hu, ru⟩ := rv.get hx
    have pt : s.heap.IsTuple a its.toArray := p
    have hel : e < s.heap.objs.size := Heap.lt_size he
    have hil : it < s.heap.objs.size := by obtain ⟨_, q, _⟩ := hit; exact Heap.lt_size q
    have nai : a ≠ it := by
      obtain ⟨o, q, qc, _⟩ := hit
      exact tup_ne pt q (by rw [qc]; decide)
    have nae : a ≠ e := tup_ne pt he (by intro z; injection z with z; revert z; decide)
    refine wpAny_pyNext_enum_itemC (Draws.tuple (A := X.A.in1) (I.ok.hd hc) it a nai its.toArray) he ⟨hit, pt⟩ (by
      have := (List.getElem?_eq_some_iff.mp hu).1
      simpa using this) hne (by simp [hne, nae.symm]) fun y h' tk hP ho hst hT hsz hk => ?_
    have ey : y = u := by
      have : its[i]? = some y := by simpa using hP
      rw [hu] at this; cases this; rfl
    subst ey
    refine ⟨_, rfl, wpAny_letOwnedTupleGo_enum (s := { s with heap := h', toks := tk + 1 }) ho fun h'' he' sb => ?_⟩
    have hT2 : h''.get? s.heap.objs.size = some { cls := .type "tuple", data := .seq #[.int i tk, y] } := (sb.2 _ (Nat.ne_of_gt hel)).trans hT
    have new : ObjOk X.prog X.w (upd H s.heap.objs.size (.tup [.int (i : Nat), x])) h'' s.heap.objs.size (.tup [.int (i : Nat), x]) :=
      ⟨by show 2 ≤ sizeLine; decide, [.int i tk, y], .cons ⟨_, rfl⟩ (.cons ru .nil), ⟨_, hT2, rfl, _, rfl⟩⟩
    have I1 : Inv X pins σ (upd H s.heap.objs.size (.tup [.int (i : Nat), x])) { s with heap := h'', toks := tk + 1 } :=
      I.turnedNew (ch := [e, it]) (fun b ob hb q => (sb.2 b (fun z => hb (by simp [z]))).trans (hk b ob (fun z => hb (by simp [z])) (fun z => hb (by simp [z])) q)) hf (Nat.le_refl _) new
    refine ⟨.ref s.heap.objs.size, _, I1, rfl, ⟨_, x, rfl, I.hok.fresh (Nat.le_refl _), rfl, fun ys hy => by rw [I.tuple_inj hy hq]; exact hx⟩, ⟨⟨y, ?_⟩, hst.1.at fun o q => (sb.2 it (Ne.symm hne)).trans q, hne⟩, fun b hb => ?_⟩
    · have e1 : ((i + 1 : Nat) : Int) = (i : Int) + 1 := by omega
      rw [e1]; exact he'
    · have hb' : b < s.heap.objs.size := by
        have e' : b = e ∨ b = it := by simpa using hb
        rcases e' with z | z
        · rw [z]; exact hel
        · rw [z]; exact hil
      rw [upd_ne (Nat.ne_of_lt hb')]
      exact (hf b hb).1
  done := by
    intro X hP hw hK hc i pins s σ H E I hf st hg
    subst hP hw hK
    obtain ⟨⟨old, he⟩, hit, hne⟩ := st
    obtain ⟨xs, hq, hx⟩ := hg
    obtain ⟨its, rv, p, hz⟩ := I.tuple hq
    have pt : s.heap.IsTuple a its.toArray := p
    obtain ⟨f0, f1, f2, f3, f4, f5⟩ := hf it (by simp)
    have hl := rv.length
    have nai : a ≠ it := by
      obtain ⟨o, q, qc, _⟩ := hit
      exact tup_ne pt q (by rw [qc]; decide)
    have hi : i = its.toArray.size := by simp; omega
    subst hi
    exact wpAny_pyNext_enum_endD (Draws.tuple (A := X.A.in1) (I.ok.hd hc) it a nai its.toArray) he ⟨hit, pt⟩ fun h' eb => ⟨rfl, I.turned (t' := s.toks) (fun b o hb q => eb b o hb q) f0 f1 f3 f4 f5⟩
  self := fun A i s Q E st h => let ⟨⟨_, he⟩, _⟩ := st; wpAny_pyIter_enum he h
def iEnumT (K : PySem.W.Frag) (ta : TA) : TI := fun σ H R => ta σ H fun vs H1 => ∃ a xs, vs = [.ref a] ∧ SqT K H1 a xs ∧ R (IteT K a) H1
theorem pi_enumT {X : Cx} {e : Expr} {ta : TA} {p pos tpos : Pos} {elts : List Expr} {kk : Nat} (hg : Gl X "enumerate") (hm : X.mg "enumerate" = none) (ha : PA X [e] ta) (hs : starEach [e] X.env = [(false, eval e X.env)] := by rfl) :
    PI X (.Tuple elts kk tpos) (.Call (.Name "enumerate" p) [e] [] pos) (iEnumT X.K ta) := by
  refine ⟨fun pins s σ H R I h => ?_⟩
  refine Call_ (ld_blt I hg hm boot_enumerate (PyProof.Rows.callWith_type1 (thn (ha.run pos pins s σ H _ I h) fun us s1 ⟨vs, H1, I1, r1, q1⟩ => ?_) hs rfl))
  obtain ⟨a, xs, ex, hq, q⟩ := q1
  subst ex
  cases r1 with
  | cons r rr =>
    cases rr
    cases r
    obtain ⟨its, rv, p', hz⟩ := I1.tuple hq
    have pt : s1.heap.IsTuple a its.toArray := p'
    refine enum_begins0 (begins_tuple a its.toArray) pt fun h' he hit hsz hk => wpAny_pyIter_enum he ?_
    have I2 : Inv X pins σ H1 { s1 with heap := h' } := I1.kept (t' := s1.toks) hk
    refine ⟨s1.heap.objs.size + 1, [s1.heap.objs.size + 1, s1.heap.objs.size], _, _, H1, rfl, I2, turn_enumT a (s1.heap.objs.size + 1) s1.heap.objs.size, ⟨⟨.none, he⟩, ⟨_, hit, rfl, rfl⟩, Nat.succ_ne_self _⟩, fun b hb => ?_, q⟩
    have e' : b = s1.heap.objs.size + 1 ∨ b = s1.heap.objs.size := by simpa using hb
    have hle : s1.heap.objs.size ≤ b := by
      rcases e' with z | z
      · rw [z]; exact Nat.le_add_right _ _
      · rw [z]; exact Nat.le_refl _
    exact I1.fpOk hle (I1.hok.fresh hle)
section
variable {X : Cx} {ρ : Rho} {e : Expr} {pos p tpos : Pos} {ds : List D} {elts : List Expr} {kk : Nat}
def enumD (ds : List D) : List D := ds.zipIdx.map fun x => .tuple [.int (x.2 : Nat), x.1]
theorem enumD_get {i : Nat} {d : D} (h : (enumD ds)[i]? = some d) : ∃ x, ds[i]? = some x ∧ d = .tuple [.int (i : Nat), x] := by
  unfold enumD at h
  rw [List.getElem?_map, List.getElem?_zipIdx] at h
  cases q : ds[i]? with
  | none => rw [q] at h; cases h
  | some x =>
    rw [q] at h
    simp at h
    exact ⟨x, rfl, h.symm⟩
theorem xi_enumT (mr : X.mg "enumerate" = none) (h : XE X ρ e (.tuple ds)) (hg : Gl X "enumerate" := by rfl) (he : starEach (e :: []) X.env = (false, eval e X.env) :: starEach [] X.env := by rfl) (hs : starEach [e] X.env = [(false, eval e X.env)] := by rfl) :
    XI X ρ (.Tuple elts kk tpos) (.Call (.Name "enumerate" p) [e] [] pos) (enumD ds) := xi_of (pi_enumT hg mr pA hs) fun F σ H en li R g => xa1 h he F σ H en li _ fun vs H1 s1 r0 => by
  obtain ⟨v, rfl, r⟩ := r0.one'
  obtain ⟨l, vs, rfl, h1, h2⟩ := r.t
  refine ⟨l, vs, rfl, seqT hid_le h1, g _ H1 s1 fun H2 s2 => ⟨fun i d hd => ?_, ?_⟩⟩
  · obtain ⟨x, hx, rfl⟩ := enumD_get hd
    obtain ⟨v, hv, dv⟩ := DpAll.get h2 hx
    have q2 := seqT s2 h1
    refine ⟨⟨vs, v, q2, hv⟩, fun y H' yy => ?_⟩
    obtain ⟨T, x', rfl, hT, rfl, yy⟩ := yy
    have e := Option.some.inj ((yy vs q2).symm.trans hv)
    subst e
    have hS : hid F H1 T = none := by
      cases q : hid F H1 T with
      | none => rfl
      | some o => rw [s2 T o q] at hT; cases hT
    refine ⟨same_upd hT, upd (hid F H1) T (.tup [.int (i : Nat), x']), fun a o q => ?_, fun a o q => ?_, .inl (.tup (.inl (.inl upd_same)) (.cons (.int _) (.cons (dp_mono (same_upd hS) dv) .nil)))⟩
    · by_cases z : a = T
      · subst z; rw [upd_same] at q ⊢; exact q
      · rw [upd_ne z] at q ⊢; exact s2 a o q
    · by_cases z : a = T
      · subst z; exact .inr hT
      · rw [upd_ne z] at q; exact .inl q
  · refine ⟨vs, seqT s2 h1, ?_⟩
    unfold enumD
    rw [DpAll.length h2, List.length_map, List.length_zipIdx]
end
end DL
set_option Elab.async false
set_option linter.all false
set_option maxRecDepth 100000
set_option maxHeartbeats 4000000
/-! Statements: what stands (Stt), steps, loops, defs. -/
namespace DL
open PySem PySem.Spec PyProof.Rows L2

/-! ### the object that the def owns for a while -/
inductive Own where
  | no
  | lst (i : Nat) (a : Addr) (ds : List D)
  | dI (i : Nat) (a : Addr) (ks : List Int)
  | dT (i : Nat) (a : Addr) (ks : List (List Int))
namespace Own
def ads : Own → List Addr
  | no => []
  | lst _ a _ => [a]
  | dI _ a _ => [a]
  | dT _ a _ => [a]
def slot : Own → Option Nat
  | no => none
  | lst i _ _ => some i
  | dI i _ _ => some i
  | dT i _ _ => some i
/-- the environment in which the object is seen as a datum -/
def sh : Own → Rho → Rho
  | no, ρ => ρ
  | lst i _ ds, ρ => ρ.set i (some (.list ds))
  | dI i _ ks, ρ => ρ.set i (some (dictI ks))
  | dT i _ ks, ρ => ρ.set i (some (dictT ks))
def ok (K : PySem.W.Frag) (F : List Addr) (H : Hp) (σ : L2.St) : Own → Prop
  | no => True
  | lst i a ds => a ∉ F ∧ σ[i]? = some (some (.ref a)) ∧ ∃ vs, H a = some (.lst vs) ∧ DpAll K (hid (a :: F) H) vs ds
  | dI i a ks => a ∉ F ∧ σ[i]? = some (some (.ref a)) ∧ H a = some (.dK (kvI ks))
  | dT i a ks => a ∉ F ∧ σ[i]? = some (some (.ref a)) ∧ H a = some (.dT (kvT ks))
end Own
structure Stt (K : PySem.W.Frag) (F : List Addr) (H0 : Hp) (ρ : Rho) (o : Own) (σ : L2.St) (H : Hp) : Prop where
  env : EnvOk K (o.ads ++ F) H σ ρ
  same : ∀ x u, x ∉ o.ads → H0 x = some u → H x = some u
  live : Live F H
  own : o.ok K F H σ
section
variable {K : PySem.W.Frag} {F : List Addr} {H0 H1 H H' : Hp} {ρ ρ' : Rho} {o o' : Own} {σ σ' : L2.St} {d : D} {v : V}
theorem Own.ok.same (h : o.ok K F H σ) (s : Same H H') : o.ok K F H' σ := by
  cases o with
  | no => trivial
  | lst i a ds =>
    obtain ⟨h1, h2, vs, h3, h4⟩ := h
    exact ⟨h1, h2, vs, s a _ h3, dpAll_mono (hid_mono s) h4⟩
  | dI i a ks => exact ⟨h.1, h.2.1, s a _ h.2.2⟩
  | dT i a ks => exact ⟨h.1, h.2.1, s a _ h.2.2⟩
theorem Own.ok.slots (h : o.ok K F H σ) (q : ∀ i, o.slot = some i → σ'[i]? = σ[i]?) : o.ok K F H σ' := by
  cases o with
  | no => trivial
  | lst i a ds => exact ⟨h.1, (q i rfl).trans h.2.1, h.2.2⟩
  | dI i a ks => exact ⟨h.1, (q i rfl).trans h.2.1, h.2.2⟩
  | dT i a ks => exact ⟨h.1, (q i rfl).trans h.2.1, h.2.2⟩
theorem Stt.lives (h : Stt K F H0 ρ o σ H) : Live (o.ads ++ F) H := fun a m => by
  rcases List.mem_append.mp m with m | m
  · have k := h.own
    cases o with
    | no => cases m
    | lst i b ds =>
      obtain ⟨h1, h2, vs, h3, h4⟩ := k
      rw [show a = b from by simpa [Own.ads] using m, h3]
      exact fun z => nomatch z
    | dI i b ks =>
      rw [show a = b from by simpa [Own.ads] using m, k.2.2]
      exact fun z => nomatch z
    | dT i b ks =>
      rw [show a = b from by simpa [Own.ads] using m, k.2.2]
      exact fun z => nomatch z
  · exact h.live a m
theorem Stt.grow (h : Stt K F H0 ρ o σ H) (s : Same H H') : Stt K F H0 ρ o σ H' := ⟨h.env.same s, fun x u n e => s x u (h.same x u n e), h.live.mono s, h.own.same s⟩
/-- the own object seen as a datum -/
theorem Stt.shared (h : Stt K F H0 ρ o σ H) : EnvOk K F H σ (o.sh ρ) := by
  have e : EnvOk K F H σ ρ := h.env.mono (hid_sub fun a m => List.mem_append_right _ m)
  have k := h.own
  -- the slot of the own object holds its address
  have put : ∀ (i : Nat) (d : D) (v : V), σ[i]? = some (some v) → Rp K (hid F H) v d → EnvOk K F H σ (ρ.set i (some d)) := fun i d v hs r => by
    refine ⟨by rw [List.length_set]; exact e.len, fun j x hj => ?_⟩
    by_cases q : i = j
    · subst q
      have hl : i < ρ.length := by
        have := (List.getElem?_eq_some_iff.mp hj).1
        rw [List.length_set] at this
        exact this
      rw [List.getElem?_set_self hl] at hj
      cases hj
      exact ⟨v, hs, r⟩
    · rw [List.getElem?_set_ne q] at hj
      exact e.at_ j x hj
  cases o with
  | no => exact e
  | lst i a ds =>
    obtain ⟨h1, h2, vs, h3, h4⟩ := k
    exact put i _ _ h2 (.inl (.lst (.inl (.inl (by rw [hid_out h1]; exact h3))) (dpAll_mono (hid_sub fun _ m => List.mem_cons_of_mem _ m) h4)))
  | dI i a ks => exact put i _ _ k.2.1 (.inr (.inl ⟨a, ks, rfl, rfl, by rw [hid_out k.1]; exact k.2.2⟩))
  | dT i a ks => exact put i _ _ k.2.1 (.inr (.inr ⟨a, ks, rfl, rfl, by rw [hid_out k.1]; exact k.2.2⟩))
/-- the own object is given up: from now on a datum -/
theorem Stt.drop (h : Stt K F H0 ρ o σ H) (n : ∀ a, a ∈ o.ads → H0 a = none) : Stt K F H0 (o.sh ρ) .no σ H :=
  ⟨h.shared, fun x u _ e => by
    by_cases m : x ∈ o.ads
    · rw [n x m] at e; cases e
    · exact h.same x u m e, h.live, trivial⟩
theorem Stt.all (h : Stt K F H0 ρ o σ H) (n : ∀ a, a ∈ o.ads → H0 a = none) : Same H0 H := fun x u e => (h.drop n).same x u (by simp [Own.ads]) e
theorem Stt.set (h : Stt K F H0 ρ o σ H) {i : Nat} (r : Rp K (hid (o.ads ++ F) H) v d) (n : o.slot ≠ some i) : Stt K F H0 (ρ.set i (some d)) o (σ.set i (some v)) H :=
  ⟨h.env.set r, h.same, h.live, h.own.slots fun j hj => by rw [List.getElem?_set_ne (fun z => n (by rw [hj, z]))]⟩
theorem Stt.weak (h : Stt K F H0 ρ o σ H) (hl : ρ'.length = ρ.length) (q : ∀ (i : Nat) (d : D), ρ'[i]? = some (some d) → ρ[i]? = some (some d)) : Stt K F H0 ρ' o σ H := ⟨h.env.weak hl q, h.same, h.live, h.own⟩
/-- a later base -/
theorem Stt.rebase (h : Stt K F H0 ρ o σ H) : Stt K F H ρ o σ H := ⟨h.env, fun _ _ _ e => e, h.live, h.own⟩
theorem Stt.back (h : Stt K F H1 ρ o σ H) (s : ∀ x u, x ∉ o.ads → H0 x = some u → H1 x = some u) : Stt K F H0 ρ o σ H := ⟨h.env, fun x u n e => h.same x u n (s x u n e), h.live, h.own⟩
end

/-! ### statements -/
def cS (X : Cx) (st : Stmt) : TS := fun Dn σ H => ∀ (pins : List (Addr × Obj)) (s : Shared), Inv X pins σ H s → wpAny (model X.prog X.w) X.A (exec st X.env) (SP X pins Dn) X.xe s
def cSs (X : Cx) (sts : List Stmt) : TS := fun Dn σ H => ∀ (pins : List (Addr × Obj)) (s : Shared), Inv X pins σ H s → wpAny (model X.prog X.w) X.A (execs sts X.env) (SP X pins Dn) X.xe s
def SX (X : Cx) (F : List Addr) (H0 : Hp) (ρ : Rho) (o : Own) (sts : List Stmt) (Dn : Ends) : Prop := ∀ σ H, Stt X.K F H0 ρ o σ H → cSs X sts Dn σ H
section
variable {X : Cx} {F : List Addr} {H0 : Hp} {ρ ρ' : Rho} {o o' : Own} {Dn : Ends} {e a b c tg iter : Expr} {es : List Expr} {st : Stmt} {sts ta tb body : List Stmt} {pos p p' : Pos} {d x y z : D} {ds : List D}
theorem pS : PS X st (cS X st) := ⟨fun pins s _ _ _ I h => h pins s I⟩
theorem pSs : PSs X sts (cSs X sts) := ⟨fun pins s _ _ _ I h => h pins s I⟩
theorem cSs_of {t : TS} {σ : L2.St} {H : Hp} (h : PSs X sts t) (q : t Dn σ H) : cSs X sts Dn σ H := fun pins s I => h.run pins s σ H Dn I q
/-- a first statement by its rule -/
theorem cSs_cons {t : TS} {σ : L2.St} {H : Hp} (h : PS X st t) (q : t { Dn with nx := cSs X sts Dn } σ H) : cSs X (st :: sts) Dn σ H := cSs_of (pss_cons h pSs) q
theorem sx_nil (h : ∀ σ H, Stt X.K F H0 ρ o σ H → Dn.nx σ H) : SX X F H0 ρ o [] Dn := fun σ H st => cSs_of pss_nil (h σ H st)
/-- the end of a branch: the rest follows -/
theorem sx_k (h : SX X F H0 ρ o sts Dn) : SX X F H0 ρ o [] { Dn with nx := cSs X sts Dn } := sx_nil fun σ H s => h σ H s
theorem sx_weak (h : SX X F H0 ρ' o sts Dn) (hl : ρ'.length = ρ.length) (q : ∀ (i : Nat) (d : D), ρ'[i]? = some (some d) → ρ[i]? = some (some d)) : SX X F H0 ρ o sts Dn := fun σ H s => h σ H (s.weak hl q)
theorem sx_drop (n : ∀ a, a ∈ o.ads → H0 a = none) (h : SX X F H0 (o.sh ρ) .no sts Dn) : SX X F H0 ρ o sts Dn := fun σ H s => h σ H (s.drop n)
/-- x = e -/
theorem sx_set (i : Nat) {n : Str} (hN : X.N.Nodup) (he : XE X ρ e d) (h : SX X F H0 (ρ.set i (some d)) o sts Dn) (hi : X.N[i]? = some n := by rfl) (hx : Loc X.env.scope n := by first | exact Or.inl rfl | exact Or.inr rfl) (ho : o.slot ≠ some i := by decide) (hs : swapsWith e (some (.Name n p)) pos.line X.env = pure false := by rfl)
    (hf : X.fn n = true ∨ X.env.scope.names.lookup n = some .local := by first | exact .inl rfl | exact .inr rfl) : SX X F H0 ρ o (.Assign [.Name n p] e pos :: sts) Dn := fun σ H s => cSs_cons (ps_set hN hi hx pE hs hf) (he _ σ H s.env s.lives _ fun v H' s1 r => h _ _ ((s.grow s1).set r ho))
/-- x = e, a flat datum, the own object seen -/
theorem sx_setF (i : Nat) {n : Str} (hN : X.N.Nodup) (he : XE X (o.sh ρ) e d) (hd : flatD d = true) (h : SX X F H0 (ρ.set i (some d)) o sts Dn) (hi : X.N[i]? = some n := by rfl) (hx : Loc X.env.scope n := by first | exact Or.inl rfl | exact Or.inr rfl) (ho : o.slot ≠ some i := by decide) (hs : swapsWith e (some (.Name n p)) pos.line X.env = pure false := by rfl)
    (hf : X.fn n = true ∨ X.env.scope.names.lookup n = some .local := by first | exact .inl rfl | exact .inr rfl) : SX X F H0 ρ o (.Assign [.Name n p] e pos :: sts) Dn := fun σ H s => cSs_cons (ps_set hN hi hx pE hs hf) (he _ σ H s.shared s.live _ fun v H' s1 r => h _ _ ((s.grow s1).set (r.flat hd) ho))
/-- x = a new list that the def owns -/
theorem sx_own (i : Nat) {n : Str} (hN : X.N.Nodup) (he : XN X ρ e ds) (h : ∀ l, H0 l = none → SX X F H0 (ρ.set i none) (.lst i l ds) sts Dn) (hi : X.N[i]? = some n := by rfl) (hx : Loc X.env.scope n := by first | exact Or.inl rfl | exact Or.inr rfl) (hil : i < ρ.length := by simp) (hs : swapsWith e (some (.Name n p)) pos.line X.env = pure false := by rfl)
    (hf : X.fn n = true ∨ X.env.scope.names.lookup n = some .local := by first | exact .inl rfl | exact .inr rfl) : SX X F H0 ρ .no (.Assign [.Name n p] e pos :: sts) Dn := fun σ H s => cSs_cons (ps_set hN hi hx pE hs hf) (he F σ H s.env s.live _ fun l H' vs hl s1 e1 d1 => by
  have hl0 : H0 l = none := by
    cases q : H0 l with
    | none => rfl
    | some u => rw [s.same l u (by simp [Own.ads]) q] at hl; cases hl
  have e' : EnvOk X.K (l :: F) H' (σ.set i (some (.ref l))) (ρ.set i none) := EnvOk.setN (EnvOk.mono s.env (hid_new hl s1))
  exact h l hl0 _ _ ⟨e', fun x u n q => s1 x u (s.same x u (by simp [Own.ads]) q), s.live.mono s1, s.live.out hl, by rw [List.getElem?_set_self (by rw [s.env.len]; exact hil)], vs, e1, d1⟩)
/-- return e -/
theorem sx_ret (he : XE X (o.sh ρ) e d) (n : ∀ a, a ∈ o.ads → H0 a = none) (h : ∀ v H', Same H0 H' → Rp X.K (hid F H') v d → Dn.rt v H') : SX X F H0 ρ o (.Return (some e) pos :: sts) Dn := fun σ H s => cSs_cons (ps_ret pE) (he F σ H s.shared s.live _ fun v H' s1 r => h v H' (Same.trans (s.all n) s1) r)
/-- if c: .. else: .. -/
theorem sx_if {k : Bool} (hc : XT X (o.sh ρ) c k) (h1 : k = true → SX X F H0 ρ o ta { Dn with nx := cSs X sts Dn }) (h2 : k = false → SX X F H0 ρ o tb { Dn with nx := cSs X sts Dn }) : SX X F H0 ρ o (.If c ta tb pos :: sts) Dn := fun σ H s => cSs_cons (ps_if pT pSs pSs) (hc F σ H s.shared s.live _ fun H' s1 => by
  cases k with
  | true => exact iteT (h1 rfl _ _ (s.grow s1))
  | false => exact iteF (h2 rfl _ _ (s.grow s1)))
/-- if c: .. where c is false -/
theorem sx_unless (hc : XT X (o.sh ρ) c false) (h : SX X F H0 ρ o sts Dn) : SX X F H0 ρ o (.If c ta [] pos :: sts) Dn := sx_if hc (fun z => nomatch z) fun _ => sx_k h
/-- a, b = x, y -/
theorem sx_par (i j : Nat) {n m : Str} {px py pt pt2 : Pos} {kt k2 : Nat} (hN : X.N.Nodup) (ha : XA X (o.sh ρ) [a, b] [x, y]) (f1 : flatD x = true) (f2 : flatD y = true) (h : SX X F H0 ((ρ.set i (some x)).set j (some y)) o sts Dn) (hc : X.calm = true := by rfl) (hi : X.N[i]? = some n := by rfl) (hj : X.N[j]? = some m := by rfl) (hij : i ≠ j := by decide)
    (hx : X.env.scope.names.lookup n = some .local := by rfl) (hy : X.env.scope.names.lookup m = some .local := by rfl) (o1 : o.slot ≠ some i := by decide) (o2 : o.slot ≠ some j := by decide)
    (hw : swappedStores [.Tuple [.Name n px, .Name m py] kt pt] (.Tuple [a, b] k2 pt2) X.env = pure (some [n, m]) := by rfl) (hs : swapsWithSole [.Tuple [.Name n px, .Name m py] kt pt] (.Tuple [a, b] k2 pt2) pos.line X.env = pure false := by rfl) :
    SX X F H0 ρ o (.Assign [.Tuple [.Name n px, .Name m py] kt pt] (.Tuple [a, b] k2 pt2) pos :: sts) Dn := fun σ H s => cSs_cons (ps_par hc hN hi hj hij hx hy pA hw hs) (ha F σ H s.shared s.live _ fun vs H' s1 r => by
  obtain ⟨v, w, rfl, r1, r2⟩ := r.two
  exact ⟨v, w, rfl, h _ _ (((s.grow s1).set (r1.flat f1) o1).set (r2.flat f2) o2)⟩)
/-- a, b = x, y; any data -/
theorem sx_parD (i j : Nat) {n m : Str} {px py pt pt2 : Pos} {kt k2 : Nat} (hN : X.N.Nodup) (ha : XA X ρ [a, b] [x, y]) (h : SX X F H0 ((ρ.set i (some x)).set j (some y)) o sts Dn) (hc : X.calm = true := by rfl) (hi : X.N[i]? = some n := by rfl) (hj : X.N[j]? = some m := by rfl) (hij : i ≠ j := by decide)
    (hx : X.env.scope.names.lookup n = some .local := by rfl) (hy : X.env.scope.names.lookup m = some .local := by rfl) (o1 : o.slot ≠ some i := by decide) (o2 : o.slot ≠ some j := by decide)
    (hw : swappedStores [.Tuple [.Name n px, .Name m py] kt pt] (.Tuple [a, b] k2 pt2) X.env = pure (some [n, m]) := by rfl) (hs : swapsWithSole [.Tuple [.Name n px, .Name m py] kt pt] (.Tuple [a, b] k2 pt2) pos.line X.env = pure false := by rfl) :
    SX X F H0 ρ o (.Assign [.Tuple [.Name n px, .Name m py] kt pt] (.Tuple [a, b] k2 pt2) pos :: sts) Dn := fun σ H s => cSs_cons (ps_par hc hN hi hj hij hx hy pA hw hs) (ha _ σ H s.env s.lives _ fun vs H' s1 r => by
  obtain ⟨v, w, rfl, r1, r2⟩ := r.two
  exact ⟨v, w, rfl, h _ _ (((s.grow s1).set r1 o1).set r2 o2)⟩)
/-- a, b = x, [..]: the second a new list that the def owns -/
theorem sx_parN (i j : Nat) {n m : Str} {px py pt pt2 : Pos} {kt k2 : Nat} (hN : X.N.Nodup) (ha : XE X ρ a x) (hb : XN X ρ b ds) (h : ∀ l, H0 l = none → SX X F H0 ((ρ.set i (some x)).set j none) (.lst j l ds) sts Dn) (hc : X.calm = true := by rfl) (hi : X.N[i]? = some n := by rfl) (hj : X.N[j]? = some m := by rfl) (hij : i ≠ j := by decide)
    (hx : X.env.scope.names.lookup n = some .local := by rfl) (hy : X.env.scope.names.lookup m = some .local := by rfl) (hjl : j < ρ.length := by simp)
    (hw : swappedStores [.Tuple [.Name n px, .Name m py] kt pt] (.Tuple [a, b] k2 pt2) X.env = pure (some [n, m]) := by rfl) (hs : swapsWithSole [.Tuple [.Name n px, .Name m py] kt pt] (.Tuple [a, b] k2 pt2) pos.line X.env = pure false := by rfl)
    (hs1 : starEach (a :: [b]) X.env = (false, eval a X.env) :: starEach [b] X.env := by rfl) (hs2 : starEach (b :: []) X.env = (false, eval b X.env) :: starEach [] X.env := by rfl) :
    SX X F H0 ρ .no (.Assign [.Tuple [.Name n px, .Name m py] kt pt] (.Tuple [a, b] k2 pt2) pos :: sts) Dn := fun σ H s => cSs_cons (ps_par hc hN hi hj hij hx hy (pa_cons pE (pa_cons pE pa_nil hs2) hs1) hw hs) (ha F σ H s.env s.live _ fun v H1 s1 r1 => hb F σ H1 (EnvOk.same s.env s1) (s.live.mono s1) _ fun l H2 vs hl s2 e2 d2 => by
  have hl0 : H0 l = none := by
    cases q : H0 l with
    | none => rfl
    | some u => rw [s1 l u (s.same l u (by simp [Own.ads]) q)] at hl; cases hl
  refine ⟨v, .ref l, rfl, h l hl0 _ _ ⟨?_, fun x u n q => s2 x u (s1 x u (s.same x u (by simp [Own.ads]) q)), s.live.mono (s1.trans s2), (s.live.mono s1).out hl, by rw [List.getElem?_set_self (by rw [List.length_set, s.env.len]; exact hjl)], vs, e2, d2⟩⟩
  have e1 : EnvOk X.K (l :: F) H2 σ ρ := EnvOk.mono (EnvOk.same s.env s1) (hid_new hl s2)
  exact EnvOk.setN (EnvOk.set e1 (rp_mono (hid_new hl s2) r1)))
/-- found.append(e) -/
theorem sx_app {i : Nat} {l : Addr} {n : Str} {apos : Pos} {p2 : Pos} (he : XE X ρ e d) (h : SX X F H0 ρ (.lst i l (ds ++ [d])) sts Dn) (hz : ds.length < 100000) (hd : isDict d = false := by rfl) (hN : X.N[i]? = some n := by rfl) (hv : Vis X.env.scope n := by first | exact Or.inl rfl | exact Or.inr (Or.inl rfl) | exact Or.inr (Or.inr rfl))
    (hdb : (n == ("__debug__" : Str)) = false := by decide) (hcd : (n == ("__classdict__" : Str)) = false := by decide)
    (hbase : attributeBase (.Name n p) "append" X.env (eval (.Name n p) X.env) = eval (.Name n p) X.env := by rfl)
    (hfew : ((backTo p2 (starEach (e :: []) X.env)).all (fun x => !x.1) && (backToKw p2 (keywordEach [] X.env)).all (fun x => x.1.isSome) && decide ((e :: []).length + ([] : List Keyword).length + (if ([] : List Keyword).isEmpty then 0 else 1) < 30)) = true := by rfl)
    (hline : (apos.endLine == p2.line) = true := by rfl) (hs1 : starEach (e :: []) X.env = (false, eval e X.env) :: starEach [] X.env := by rfl) (hplain : (backTo p2 (starEach [] X.env)).any (·.1) = false := by rfl)
    (hs : swapsWith (.Call (.Attribute (.Name n p) "append" apos) [e] [] p2) none pos.line X.env = pure false := by rfl) :
    SX X F H0 ρ (.lst i l ds) (.Expr (.Call (.Attribute (.Name n p) "append" apos) [e] [] p2) pos :: sts) Dn := fun σ H s => by
  refine cSs_cons (ps_expr (pe_bm PySem.F.plainAttrs_list PySem.F.slot_list_append PySem.F.type_list_append mt_append (pe_var hN hv hdb hcd) (pa_cons pE pa_nil hs1) hbase hfew hline hs1 hplain) hs) ?_
  obtain ⟨h1, h2, vs, h3, h4⟩ := s.own
  refine ⟨.ref l, h2, .inl ⟨rfl, vs, .inl (.inl h3)⟩, he _ σ H s.env s.lives _ fun v H' s1 r => ⟨l, vs, v, rfl, rfl, s1 l _ h3, ?_, h _ _ ?_⟩⟩
  · rw [DpAll.length h4]; exact Nat.lt_of_lt_of_le hz (by decide)
  have hid' : hid (l :: F) (upd H' l (.lst (vs ++ [v]))) = hid (l :: F) H' := by
    funext a
    by_cases m : a ∈ l :: F
    · rw [hid_in m, hid_in m]
    · rw [hid_out m, hid_out m, upd_ne fun z => m (by simp [z])]
  refine ⟨?_, fun x u n q => ?_, fun a m => ?_, h1, h2, vs ++ [v], upd_same, ?_⟩
  · have e1 : EnvOk X.K (l :: F) H' σ ρ := (s.grow s1).env
    exact ⟨e1.len, fun i d q => by
      obtain ⟨u, g1, g2⟩ := e1.at_ i d q
      refine ⟨u, g1, ?_⟩
      show Rp X.K (hid (l :: F) (upd H' l (.lst (vs ++ [v])))) u d
      rw [hid']; exact g2⟩
  · rw [upd_ne (by simpa [Own.ads] using n)]
    exact s1 x u (s.same x u n q)
  · rw [upd_ne (show a ≠ l from fun z => h1 (by rw [← z]; exact m))]
    exact s.live.mono s1 a m
  · rw [hid']
    exact DpAll.append (dpAll_mono (hid_mono s1) h4) (DpAll.one (r.dp hd))

/-! ### loops -/
/-- for tg in iter: body. Pρ, Po: what stands ahead of turn i -/
theorem sx_forG {α : Type} {xs : List α} {enc : α → D} {g : TG} {js : List Nat} (Pρ : Nat → Rho) (Po : Nat → Own) (ρt : Nat → α → Rho)
    (hp : PassesOwn (model X.prog X.w) X.A X.env X.xe) (hc : X.calm = true) (hi : XI X ρ tg iter (xs.map enc)) (hg : PG X tg g)
    (h0 : ∀ σ H H1, Stt X.K F H1 ρ o σ H → Stt X.K F H1 (Pρ 0) (Po 0) σ H) (hads : ∀ i, (Po i).ads = o.ads) (hslot : ∀ i j, j ∈ js → (Po i).slot ≠ some j)
    (hG : ∀ i x, xs[i]? = some x → EvG X.K g js (Pρ i) (enc x) (ρt i x))
    (hb : ∀ (i : Nat) (x : α) (H1 : Hp), xs[i]? = some x → (∀ x u, x ∉ o.ads → H0 x = some u → H1 x = some u) → SX X F H1 (ρt i x) (Po i) body ⟨Stt X.K F H1 (Pρ (i + 1)) (Po (i + 1)), Dn.rt, cSs X sts Dn, Stt X.K F H1 (Pρ (i + 1)) (Po (i + 1))⟩)
    (hd : SX X F H0 (Pρ xs.length) (Po xs.length) sts Dn) (hs : ∀ x, foldedSetIterable iter X.env x = pure x) : SX X F H0 ρ o (.For tg iter body [] pos :: sts) Dn := fun σ H s => by
  refine cSs_cons (ps_for hp hc pI hg pSs hs) ?_
  refine hi _ σ H s.env s.lives _ fun J H1 s1 wk => ?_
  have base : ∀ x u, x ∉ o.ads → H0 x = some u → H1 x = some u := fun x u n e => s1 x u (s.same x u n e)
  refine ⟨fun i m σi Hi => m = xs.length - i ∧ i ≤ xs.length ∧ Stt X.K F H1 (Pρ i) (Po i) σi Hi, ⟨xs.length, rfl, Nat.zero_le _, h0 _ _ _ ((s.grow s1).rebase)⟩, ?_⟩
  rintro i m σi Hi ⟨rfl, hle, si⟩
  have see : Same (hid (o.ads ++ F) H1) (hid (o.ads ++ F) Hi) := fun a u e => by
    obtain ⟨n, e⟩ := hid_some e
    rw [hid_out n]
    exact si.same a u (by rw [hads]; exact fun m => n (List.mem_append_left _ m)) e
  obtain ⟨wgo, wst⟩ := wk Hi (Same.trans see hid_le)
  by_cases hlt : i < xs.length
  · have hx : xs[i]? = some xs[i] := List.getElem?_eq_getElem hlt
    have hd' : (xs.map enc)[i]? = some (enc xs[i]) := by rw [List.getElem?_map, hx]; rfl
    refine .inr ⟨(wgo i _ hd').1, Stt X.K F H1 (Pρ (i + 1)) (Po (i + 1)), fun σ' H' h' => ⟨xs.length - (i + 1), by omega, rfl, hlt, h'⟩, fun x H' y => ?_⟩
    have lv : Live (o.ads ++ F) Hi := by
      have := si.lives
      rw [hads] at this
      exact this
    obtain ⟨sy, rx⟩ := wk.item see lv hd' y
    have sg := si.grow sy
    have en := sg.env
    rw [hads] at en
    refine hG i xs[i] hx (o.ads ++ F) σi H' x en rx _ fun σ2 en2 hl2 hk2 => ?_
    refine hb i xs[i] H1 hx base σ2 H' ⟨by rw [hads]; exact en2, sg.same, sg.live, sg.own.slots fun j hj => hk2 j fun m => hslot i j m hj⟩
  · have e : i = xs.length := by omega
    subst e
    rw [List.length_map] at wst
    exact .inl ⟨wst, hd σi Hi (si.back (by rw [hads]; exact base))⟩
/-- for x in iter, a name; the own object and the environment as functions of the turn -/
theorem sx_for {α : Type} {xs : List α} {enc : α → D} (j : Nat) {n : Str} (Pρ : Nat → Rho) (Po : Nat → Own) (hN : X.N.Nodup) (hi : XI X ρ (.Name n p) iter (xs.map enc))
    (h0 : ∀ σ H H1, Stt X.K F H1 ρ o σ H → Stt X.K F H1 (Pρ 0) (Po 0) σ H) (hads : ∀ i, (Po i).ads = o.ads) (hslot : ∀ i, (Po i).slot ≠ some j)
    (hb : ∀ (i : Nat) (x : α) (H1 : Hp), xs[i]? = some x → (∀ x u, x ∉ o.ads → H0 x = some u → H1 x = some u) → SX X F H1 ((Pρ i).set j (some (enc x))) (Po i) body ⟨Stt X.K F H1 (Pρ (i + 1)) (Po (i + 1)), Dn.rt, cSs X sts Dn, Stt X.K F H1 (Pρ (i + 1)) (Po (i + 1))⟩)
    (hd : SX X F H0 (Pρ xs.length) (Po xs.length) sts Dn) (hp : PassesOwn (model X.prog X.w) X.A X.env X.xe := by exact PassesOwn.never) (hc : X.calm = true := by rfl)
    (hj : X.N[j]? = some n := by rfl) (hx : Loc X.env.scope n := by first | exact Or.inl rfl | exact Or.inr rfl) (hf : X.fn n = true ∨ X.env.scope.names.lookup n = some .local := by first | exact .inl rfl | exact .inr rfl) (hs : ∀ x, foldedSetIterable iter X.env x = pure x := by intro _; rfl) : SX X F H0 ρ o (.For (.Name n p) iter body [] pos :: sts) Dn :=
  sx_forG (js := [j]) Pρ Po (fun i x => (Pρ i).set j (some (enc x))) hp hc hi (pg_name hN hj hx hf) h0 hads (fun i k hk => by rw [show k = j from by simpa using hk]; exact hslot i) (fun i x _ => eg_name j) hb hd hs
/-- while c: body, the turns counted -/
theorem sx_while (n : Nat) (Pρ : Nat → Rho) (Po : Nat → Own) (h0 : ∀ σ H, Stt X.K F H0 ρ o σ H → Stt X.K F H0 (Pρ 0) (Po 0) σ H) (ht : ∀ i, i < n → XT X ((Po i).sh (Pρ i)) c true) (hn : XT X ((Po n).sh (Pρ n)) c false)
    (hb : ∀ i, i < n → SX X F H0 (Pρ i) (Po i) body ⟨Stt X.K F H0 (Pρ (i + 1)) (Po (i + 1)), Dn.rt, cSs X sts Dn, Stt X.K F H0 (Pρ (i + 1)) (Po (i + 1))⟩) (hd : SX X F H0 (Pρ n) (Po n) sts Dn) (hp : PassesOwn (model X.prog X.w) X.A X.env X.xe := by exact PassesOwn.never) :
    SX X F H0 ρ o (.While c body [] pos :: sts) Dn := fun σ H s => by
  refine cSs_cons (ps_while hp pT pSs) ?_
  refine ⟨fun m σi Hi => ∃ i, m = n - i ∧ i ≤ n ∧ Stt X.K F H0 (Pρ i) (Po i) σi Hi, ⟨n, 0, rfl, Nat.zero_le _, h0 _ _ s⟩, ?_⟩
  rintro m σi Hi ⟨i, rfl, hle, si⟩
  by_cases hlt : i < n
  · refine ht i hlt F σi Hi si.shared si.live _ fun H' s1 => iteT ⟨Stt X.K F H0 (Pρ (i + 1)) (Po (i + 1)), fun σ' H' h' => ⟨n - (i + 1), by omega, i + 1, rfl, hlt, h'⟩, hb i hlt σi H' (si.grow s1)⟩
  · have e : i = n := by omega
    subst e
    exact hn F σi Hi si.shared si.live _ fun H' s1 => iteF (hd σi H' (si.grow s1))
end

/-! ### defs -/
section
variable {P : Program} {w : World} {K : PySem.W.Frag} {mg : Str → Option Value} {base : Heap}
theorem rpAll_env {F : List Addr} {H : Hp} {N : List Str} : ∀ {vs : List V} {ds : List D}, RpAll K (hid F H) vs ds → vs.length ≤ N.length → EnvOk K F H (L2.start N vs) (ds.map some ++ List.replicate (N.length - ds.length) none) := fun {vs ds} r hl => by
  have hlen := r.length
  refine ⟨by unfold L2.start; rw [List.length_append, List.length_append, List.length_map, List.length_map, List.length_replicate, List.length_replicate, hlen], fun i d q => ?_⟩
  by_cases hi : i < ds.length
  · rw [List.getElem?_append_left (by rw [List.length_map]; exact hi), List.getElem?_map] at q
    have hd : ds[i]? = some d := by
      cases z : ds[i]? with
      | none => rw [z] at q; cases q
      | some y => rw [z] at q; cases q; rfl
    have get : ∀ {vs : List V} {ds : List D} {i : Nat}, RpAll K (hid F H) vs ds → ds[i]? = some d → ∃ v, vs[i]? = some v ∧ Rp K (hid F H) v d := by
      intro vs ds i r
      induction r generalizing i with
      | nil => intro q; simp at q
      | cons h1 h2 ih =>
        intro q
        cases i with
        | zero => simp at q; subst q; exact ⟨_, rfl, h1⟩
        | succ i => obtain ⟨v, g1, g2⟩ := ih (by simpa using q); exact ⟨v, by simpa using g1, g2⟩
    obtain ⟨v, hv, rv⟩ := get r hd
    refine ⟨v, ?_, rv⟩
    unfold L2.start
    rw [List.getElem?_append_left (by rw [List.length_map]; exact (List.getElem?_eq_some_iff.mp hv).1), List.getElem?_map, hv]
    rfl
  · rw [List.getElem?_append_right (by rw [List.length_map]; omega)] at q
    by_cases z : i - (List.map some ds).length < N.length - ds.length
    · rw [List.getElem?_replicate_of_lt z] at q; cases q
    · rw [List.getElem?_eq_none (by rw [List.length_replicate]; omega)] at q; cases q
/-- what is wanted behind the body of a def that hands back d -/
structure Rt (K : PySem.W.Frag) (F : List Addr) (H0 : Hp) (Dn : Ends) (d : D) : Prop where
  rt : ∀ v H', Same H0 H' → Rp K (hid F H') v d → Dn.rt v H'
  nx : d = .none → ∀ σ H', Same H0 H' → Dn.nx σ H'
/-- a def keeps its promise by data -/
theorem fn_d {x qual : Str} {st : Stmt} {f : Addr} {fd : FuncData} {N ps : List Str} {k : Nat} {R : List D → D → Prop} (F : Fun K x qual st f fd) (S : FnScope N ps (defScope st)) (hlen : ∀ ds d, R ds d → ds.length = ps.length) (hN : ps.length ≤ N.length)
    (body : ∀ (cdv : Value) (A : Around) (outer : List Env) (s : Shared) (H : Hp) (E : XK), Room k (A.deeper (envOfC qual (defScope st) s.heap.objs.size f cdv)) → ∀ (ds : List D) (d : D), R ds d → ∀ (G : List Addr) (H0 : Hp) (Dn : Ends), Rt K G H0 Dn d →
      SX (cxOf CX0 P w K mg base N qual (defScope st) f cdv A outer s H E).nox G H0 (ds.map some ++ List.replicate (N.length - ds.length) none) .no (defBody st) Dn) :
    FnOk P w K mg base CX0 (k + 1) f fd ps (spD K R) := by
  refine F.ok S (fun vs H Q E h => ?_) fun cdv A outer s H vs Q E hr h => ?_
  · obtain ⟨ds, d, G, hR, r, _⟩ := h
    rw [r.length]; exact hlen ds d hR
  · obtain ⟨ds, d, G, hR, r, li, q⟩ := h
    refine ⟨_, pSs, body cdv A outer s H E hr ds d hR G H _ ⟨q, fun e σ H' s1 => ?_⟩ _ _ ⟨?_, fun _ _ _ z => z, li, trivial⟩⟩
    · exact q _ _ s1 (by rw [e]; exact rp_n)
    · exact rpAll_env r (by rw [r.length, hlen ds d hR]; exact hN)
theorem callee_of {n : Str} {k : Nat} {R : List D → D → Prop} {f : Addr} {fd : FuncData} {ps : List Str} (h : FnOk P w K mg base CX0 k f fd ps (spD K R)) (hm : mg n = some (.ref f)) (hk : PySem.W.keepIn K (.ref f) = true) (hb : Binds K fd ps []) : Callee P w K mg base k n R := ⟨⟨f, fd, ps, h, hm, hk, hb⟩⟩
theorem sx_end {X : Cx} {F : List Addr} {H0 : Hp} {ρ : Rho} {o : Own} {Dn : Ends} (h : Rt X.K F H0 Dn .none) (n : ∀ a, a ∈ o.ads → H0 a = none) : SX X F H0 ρ o [] Dn := sx_nil fun σ H s => h.nx rfl σ H (s.all n)
theorem sx_rt {X : Cx} {F : List Addr} {H0 : Hp} {ρ : Rho} {Dn : Ends} {e : Expr} {sts : List Stmt} {pos : Pos} {d : D} (h : Rt X.K F H0 Dn d) (he : XE X ρ e d) : SX X F H0 ρ .no (.Return (some e) pos :: sts) Dn := sx_ret he (fun a m => by cases m) h.rt
theorem sx_rtO {X : Cx} {F : List Addr} {H0 : Hp} {ρ : Rho} {o : Own} {Dn : Ends} {e : Expr} {sts : List Stmt} {pos : Pos} {d : D} (h : Rt X.K F H0 Dn d) (n : ∀ a, a ∈ o.ads → H0 a = none) (he : XE X (o.sh ρ) e d) : SX X F H0 ρ o (.Return (some e) pos :: sts) Dn := sx_ret he n h.rt
end
end DL
set_option Elab.async false
set_option linter.all false
set_option maxRecDepth 100000
set_option maxHeartbeats 4000000
/-! Comprehensions in short. -/
namespace DL
open PySem PySem.Spec PyProof.Rows L2
section
variable {X : Cx} {ρ : Rho} {e a b c tg iter elt cond : Expr} {es : List Expr} {pos p p1 p2 p3 : Pos} {d x y z : D} {ds : List D} {scope : Scope} {α : Type} {xs : List α} {enc h : α → D}
/-- a block's own name -/
def LocB (X : Cx) (n : Str) : Prop := X.env.scope.names.lookup n = some .local ∨ (X.env.scope.names.lookup n = some .cell ∧ X.fn n = true)
theorem LocB.loc {X : Cx} {n : Str} (h : LocB X n) : Loc X.env.scope n := h.elim .inl fun h => .inr h.1
theorem LocB.fn {X : Cx} {n : Str} (h : LocB X n) : X.fn n = true ∨ X.env.scope.names.lookup n = some .local := h.elim .inr fun h => .inl h.2
/-- [elt for n in iter] -/
theorem xn_lc (j : Nat) {n : Str} (hN : X.N.Nodup) (hi : XI X ρ (.Name n p) iter (xs.map enc)) (ok : BlkOk X.N X.env.scope scope [(n, j)])
    (he : ∀ (s : Shared) (H : Hp) (C : Addr) (cl : List (Str × Addr)) (fp : List Addr) (x : α), x ∈ xs → XE (X.blk s H scope (compEnvC scope cl C X.env) fp) ((ρ.set j none).set j (some (enc x))) elt (h x))
    (hlen : xs.length ≤ 100000) (hnd : ∀ x, x ∈ xs → isDict (h x) = false := by exact fun _ _ => rfl) (hc : X.calm = true := by rfl) (hj : X.N[j]? = some n := by rfl)
    (hx : ∀ (s : Shared) (H : Hp) (C : Addr) (cl : List (Str × Addr)) (fp : List Addr), LocB (X.blk s H scope (compEnvC scope cl C X.env) fp) n := by first | exact fun _ _ _ _ _ => .inl rfl | exact fun _ _ _ _ _ => .inr ⟨rfl, rfl⟩)
    (hs : ∀ x, foldedSetIterable iter X.env x = pure x := by intro _; rfl) : XN X ρ (.ListComp elt [⟨.Name n p, iter, [], 0⟩] scope pos) (xs.map h) := by
  have g := xn_lcG (js := [j]) (f := fun _ => true) (ifs := []) (h := h) (pos := pos) hc hN hi ok (fun s H C cl fp => pg_name hN hj (hx s H C cl fp).loc (hx s H C cl fp).fn) (fun x _ => eg_name j) (fun k hk => by simpa using hk) (fun _ _ _ _ _ _ _ => xts_nil) (fun s H C cl fp x hx _ => he s H C cl fp x hx) (fun x hx _ => hnd x hx) hlen hs
  rw [List.filter_eq_self.mpr (fun _ _ => rfl)] at g
  exact g
/-- [elt for n in iter if cond] -/
theorem xn_lcif (j : Nat) {n : Str} {f : α → Bool} (hN : X.N.Nodup) (hi : XI X ρ (.Name n p) iter (xs.map enc)) (ok : BlkOk X.N X.env.scope scope [(n, j)])
    (ht : ∀ (s : Shared) (H : Hp) (C : Addr) (cl : List (Str × Addr)) (fp : List Addr) (x : α), x ∈ xs → XT (X.blk s H scope (compEnvC scope cl C X.env) fp) ((ρ.set j none).set j (some (enc x))) cond (f x))
    (he : ∀ (s : Shared) (H : Hp) (C : Addr) (cl : List (Str × Addr)) (fp : List Addr) (x : α), x ∈ xs → f x = true → XE (X.blk s H scope (compEnvC scope cl C X.env) fp) ((ρ.set j none).set j (some (enc x))) elt (h x))
    (hlen : xs.length ≤ 100000) (hnd : ∀ x, x ∈ xs → f x = true → isDict (h x) = false := by exact fun _ _ _ => rfl) (hc : X.calm = true := by rfl) (hj : X.N[j]? = some n := by rfl)
    (hx : ∀ (s : Shared) (H : Hp) (C : Addr) (cl : List (Str × Addr)) (fp : List Addr), LocB (X.blk s H scope (compEnvC scope cl C X.env) fp) n := by first | exact fun _ _ _ _ _ => .inl rfl | exact fun _ _ _ _ _ => .inr ⟨rfl, rfl⟩)
    (hs : ∀ x, foldedSetIterable iter X.env x = pure x := by intro _; rfl) : XN X ρ (.ListComp elt [⟨.Name n p, iter, [cond], 0⟩] scope pos) ((xs.filter f).map h) :=
  xn_lcG (js := [j]) (h := h) (pos := pos) hc hN hi ok (fun s H C cl fp => pg_name hN hj (hx s H C cl fp).loc (hx s H C cl fp).fn) (fun x _ => eg_name j) (fun k hk => by simpa using hk) (fun s H C cl fp x hx => xts_one (ht s H C cl fp x hx)) he hnd hlen hs
/-- at once: [elt for n in iter] -/
theorem xlc_lc (j : Nat) {n : Str} (hN : X.N.Nodup) (hi : XI X ρ (.Name n p) iter (xs.map enc)) (ok : BlkOk X.N X.env.scope scope [(n, j)])
    (he : ∀ (s : Shared) (H : Hp) (C : Addr) (cl : List (Str × Addr)) (fp : List Addr) (x : α), x ∈ xs → XE (X.blk s H scope (compEnvC scope cl C X.env) fp) ((ρ.set j none).set j (some (enc x))) elt (h x))
    (hlen : xs.length ≤ 100000) (hnd : ∀ x, x ∈ xs → isDict (h x) = false := by exact fun _ _ => rfl) (hc : X.calm = true := by rfl) (hj : X.N[j]? = some n := by rfl)
    (hx : ∀ (s : Shared) (H : Hp) (C : Addr) (cl : List (Str × Addr)) (fp : List Addr), LocB (X.blk s H scope (compEnvC scope cl C X.env) fp) n := by first | exact fun _ _ _ _ _ => .inl rfl | exact fun _ _ _ _ _ => .inr ⟨rfl, rfl⟩)
    (hs : ∀ x, foldedSetIterable iter X.env x = pure x := by intro _; rfl) : XLc X ρ (.ListComp elt [⟨.Name n p, iter, [], 0⟩] scope pos) (xs.map h) := by
  have g := xlc_lcG (js := [j]) (f := fun _ => true) (ifs := []) (h := h) (pos := pos) hc hN hi ok (fun s H C cl fp => pg_name hN hj (hx s H C cl fp).loc (hx s H C cl fp).fn) (fun x _ => eg_name j) (fun k hk => by simpa using hk) (fun _ _ _ _ _ _ _ => xts_nil) (fun s H C cl fp x hx _ => he s H C cl fp x hx) (fun x hx _ => hnd x hx) hlen hs
  rw [List.filter_eq_self.mpr (fun _ _ => rfl)] at g
  exact g
/-- at once: [elt for n in iter if cond] -/
theorem xlc_lcif (j : Nat) {n : Str} {f : α → Bool} (hN : X.N.Nodup) (hi : XI X ρ (.Name n p) iter (xs.map enc)) (ok : BlkOk X.N X.env.scope scope [(n, j)])
    (ht : ∀ (s : Shared) (H : Hp) (C : Addr) (cl : List (Str × Addr)) (fp : List Addr) (x : α), x ∈ xs → XT (X.blk s H scope (compEnvC scope cl C X.env) fp) ((ρ.set j none).set j (some (enc x))) cond (f x))
    (he : ∀ (s : Shared) (H : Hp) (C : Addr) (cl : List (Str × Addr)) (fp : List Addr) (x : α), x ∈ xs → f x = true → XE (X.blk s H scope (compEnvC scope cl C X.env) fp) ((ρ.set j none).set j (some (enc x))) elt (h x))
    (hlen : xs.length ≤ 100000) (hnd : ∀ x, x ∈ xs → f x = true → isDict (h x) = false := by exact fun _ _ _ => rfl) (hc : X.calm = true := by rfl) (hj : X.N[j]? = some n := by rfl)
    (hx : ∀ (s : Shared) (H : Hp) (C : Addr) (cl : List (Str × Addr)) (fp : List Addr), LocB (X.blk s H scope (compEnvC scope cl C X.env) fp) n := by first | exact fun _ _ _ _ _ => .inl rfl | exact fun _ _ _ _ _ => .inr ⟨rfl, rfl⟩)
    (hs : ∀ x, foldedSetIterable iter X.env x = pure x := by intro _; rfl) : XLc X ρ (.ListComp elt [⟨.Name n p, iter, [cond], 0⟩] scope pos) ((xs.filter f).map h) :=
  xlc_lcG (js := [j]) (h := h) (pos := pos) hc hN hi ok (fun s H C cl fp => pg_name hN hj (hx s H C cl fp).loc (hx s H C cl fp).fn) (fun x _ => eg_name j) (fun k hk => by simpa using hk) (fun s H C cl fp x hx => xts_one (ht s H C cl fp x hx)) he hnd hlen hs
/-- [elt for n, m in iter] -/
theorem xn_lc2n (i j : Nat) {n m : Str} {k1 : Nat} {encA encB : α → D} (hN : X.N.Nodup) (hi : XI X ρ (.Tuple [.Name n p1, .Name m p2] k1 p3) iter (xs.map fun x => .tuple [encA x, encB x])) (ok : BlkOk X.N X.env.scope scope [(n, i), (m, j)])
    (he : ∀ (s : Shared) (H : Hp) (C : Addr) (cl : List (Str × Addr)) (fp : List Addr) (x : α), x ∈ xs → XE (X.blk s H scope (compEnvC scope cl C X.env) fp) ((((ρ.set j none).set i none).set i (some (encA x))).set j (some (encB x))) elt (h x))
    (hlen : xs.length ≤ 100000) (hnd : ∀ x, x ∈ xs → isDict (h x) = false := by exact fun _ _ => rfl) (hc : X.calm = true := by rfl) (hni : X.N[i]? = some n := by rfl) (hnj : X.N[j]? = some m := by rfl)
    (hxi : ∀ (s : Shared) (H : Hp) (C : Addr) (cl : List (Str × Addr)) (fp : List Addr), LocB (X.blk s H scope (compEnvC scope cl C X.env) fp) n := by first | exact fun _ _ _ _ _ => .inl rfl | exact fun _ _ _ _ _ => .inr ⟨rfl, rfl⟩)
    (hxj : ∀ (s : Shared) (H : Hp) (C : Addr) (cl : List (Str × Addr)) (fp : List Addr), LocB (X.blk s H scope (compEnvC scope cl C X.env) fp) m := by first | exact fun _ _ _ _ _ => .inl rfl | exact fun _ _ _ _ _ => .inr ⟨rfl, rfl⟩)
    (hs : ∀ x, foldedSetIterable iter X.env x = pure x := by intro _; rfl) : XN X ρ (.ListComp elt [⟨.Tuple [.Name n p1, .Name m p2] k1 p3, iter, [], 0⟩] scope pos) (xs.map h) := by
  have g := xn_lcG (js := [i, j]) (f := fun _ => true) (ifs := []) (h := h) (pos := pos) hc hN hi ok
    (fun s H C cl fp => pg_tup (X := X.blk s H scope (compEnvC scope cl C X.env) fp) hc (pgs_cons (pg_name hN hni (hxi s H C cl fp).loc (hxi s H C cl fp).fn) (pgs_cons (pg_name hN hnj (hxj s H C cl fp).loc (hxj s H C cl fp).fn) pgs_nil)))
    (fun x _ => eg_pair i j) (fun k hk => by simpa using hk) (fun _ _ _ _ _ _ _ => xts_nil) (fun s H C cl fp x hx _ => he s H C cl fp x hx) (fun x hx _ => hnd x hx) hlen hs
  rw [List.filter_eq_self.mpr (fun _ _ => rfl)] at g
  exact g
theorem xn_is {ds' : List D} (h : XN X ρ e ds) (q : ds = ds') : XN X ρ e ds' := q ▸ h
theorem xlc_is {ds' : List D} (h : XLc X ρ e ds) (q : ds = ds') : XLc X ρ e ds' := q ▸ h
/-- x = [..], stored before the block goes -/
theorem sx_setLc {F : List Addr} {H0 : Hp} {o : Own} {Dn : Ends} {sts : List Stmt} (i : Nat) {n : Str} (he : XLc X ρ e ds) (h : SX X F H0 (ρ.set i (some (.list ds))) o sts Dn) (hi : X.N[i]? = some n := by rfl) (hx : X.env.scope.names.lookup n = some .local := by rfl) (ho : o.slot ≠ some i := by decide)
    (hs : swapsWith e (some (.Name n p)) pos.line X.env = pure true := by rfl) : SX X F H0 ρ o (.Assign [.Name n p] e pos :: sts) Dn := fun σ H s => by
  obtain ⟨t, h1, h2⟩ := he.ex
  refine cSs_cons (h2 i n p pos hi hx hs) (h1 (o.ads ++ F) σ H s.env s.lives _ fun l H' vs hl s1 e1 d1 => h _ _ ((s.grow s1).set (.inl (.lst (.inl (.inl (by rw [hid_out (s.lives.out hl)]; exact e1))) (dpAll_mono (hid_sub fun _ m => List.mem_cons_of_mem _ m) d1))) ho))
theorem xi_is {ds' : List D} (h : XI X ρ tg iter ds) (q : ds = ds') : XI X ρ tg iter ds' := q ▸ h
end
/-! ### the text -/
def topS (i : Nat) : Stmt := PySem.Challenge.pw_chumwords_k23_whole_greatest_lots.main.body.getD i (.Pass ⟨0, 0, 0, 0⟩)
/-- the names that stand behind the top -/
structure Nm (mg : Str → Option Value) : Prop where
  isinstance : mg "isinstance" = none
  int : mg "int" = none
  bool : mg "bool" = none
  tuple : mg "tuple" = none
  str : mg "str" = none
  list : mg "list" = none
  len : mg "len" = none
  all : mg "all" = none
  any : mg "any" = none
  sum : mg "sum" = none
  range : mg "range" = none
  enumerate : mg "enumerate" = none
  sorted : mg "sorted" = none
  max : mg "max" = none
  min : mg "min" = none
  set : mg "set" = none
  alpha : ∃ t, mg "ALPHABET" = some (.str "abcdefgh" t)
  letters : ∃ t, mg "MOST_LETTERS" = some (.int 8 t)
  lots : ∃ t, mg "MOST_LOTS" = some (.int 200 t)
end DL
set_option Elab.async false
set_option linter.all false
set_option maxRecDepth 100000
set_option maxHeartbeats 4000000
/-! sorted, dicts. -/
namespace DL
open PySem PySem.Spec PyProof.Rows L2

/-! ### sorted of data -/
/-- the one sorted list, where all items differ -/
theorem sorted_is {es ds : List D} (hp : es.Perm ds) (hs : es.Pairwise fun a b => PySem.W.dataLt a b = true) : ds.mergeSort (PySem.W.dataLe false id) = es := by
  have T : PySem.W.TotalLe (PySem.W.dataLe false (id : D → D)) := PySem.W.sortLe_total _ _ _
  have h1 : (ds.mergeSort (PySem.W.dataLe false id)).Perm es := (List.mergeSort_perm _ _).trans hp.symm
  have h2 : (ds.mergeSort (PySem.W.dataLe false id)).Pairwise (fun a b => PySem.W.dataLe false id a b = true) := List.pairwise_mergeSort T.trans (fun a b => by rcases T.total a b with h | h <;> simp [h]) _
  generalize ds.mergeSort (PySem.W.dataLe false id) = ms at h1 h2
  clear hp
  induction es generalizing ms with
  | nil => exact h1.eq_nil
  | cons x es ih =>
    cases ms with
    | nil => exact absurd h1.symm.eq_nil (by simp)
    | cons y ms =>
      have hxy : y = x := by
        have hy : y ∈ x :: es := h1.mem_iff.mp List.mem_cons_self
        rcases List.mem_cons.mp hy with e | hy
        · exact e
        · have l1 : PySem.W.dataLt x y = true := (List.pairwise_cons.mp hs).1 y hy
          have hx : x ∈ y :: ms := h1.mem_iff.mpr List.mem_cons_self
          rcases List.mem_cons.mp hx with e | hx
          · exact e.symm
          · have l2 : PySem.W.dataLe false (id : D → D) y x = true := (List.pairwise_cons.mp h2).1 x hx
            have l3 : (!PySem.W.dataLt x y) = true := l2
            rw [l1] at l3
            cases l3
      subst hxy
      rw [ih (List.pairwise_cons.mp hs).2 ms (List.Perm.cons_inv h1) (List.pairwise_cons.mp h2).2]
theorem eachV {K : PySem.W.Frag} {S : Hp} : ∀ {ws : List V} {us : List Value} {ds : List D}, DpAll K S ws ds → Vals ws us → PySem.W.EachIs (fun v d => ∃ x : V, RelV x v ∧ Dp K S x d) us ds
  | _, _, _, .nil, .nil => .nil
  | _, _, _, .cons h1 h2, .cons r1 r2 => .cons ⟨_, r1, h1⟩ (eachV h2 r2)
theorem eachR {X : Cx} {pins : List (Addr × Obj)} {σ : L2.St} {H : Hp} {s : Shared} (I : Inv X pins σ H s) : ∀ {ws : List V} {us : List Value} {ds : List D}, DpAll X.K H ws ds → Vals ws us → PySem.W.EachIs (fun v d => ∃ as, Reads s.heap v d as) us ds
  | _, _, _, .nil, .nil => .nil
  | _, _, _, .cons h1 h2, .cons r1 r2 => .cons (Dp.reads I _ _ _ h1 r1) (eachR I h2 r2)
theorem of_each {K : PySem.W.Frag} {H : Hp} : ∀ {us : List Value} {ds : List D}, PySem.W.EachIs (fun v d => ∃ x : V, RelV x v ∧ Dp K H x d) us ds → ∃ ws, Vals ws us ∧ DpAll K H ws ds
  | _, _, .nil => ⟨[], .nil, .nil⟩
  | _, _, .cons ⟨x, r, h⟩ t => by
    obtain ⟨ws, g1, g2⟩ := of_each t
    exact ⟨x :: ws, .cons r g1, .cons h g2⟩
def alikeB (ds : List D) : Bool := ds.all fun d => ds.all fun e => PySem.W.alike d e
theorem allAlike_of {ds : List D} (h : alikeB ds = true) : PySem.W.AllAlike ds := fun d hd e he => List.all_eq_true.mp (List.all_eq_true.mp h d hd) e he
/-- what must hold of data that are sorted -/
structure Srt (ds es : List D) : Prop where
  al : PySem.W.AllAlike ds
  so : PySem.W.Sortable ds
  len : ds.length ≤ 100000
  dep : ∀ d, d ∈ ds → d.depth ≤ 60
  perm : es.Perm ds
  inc : es.Pairwise fun a b => PySem.W.dataLt a b = true
def rSortedD (K : PySem.W.Frag) (S : Hp) : List V → Hp → VK → Prop := fun vs H Q => ∃ (a : Addr) (ws : List V) (ds es : List D), vs = [V.ref a] ∧ SqL K H a ws ∧ Same S H ∧ DpAll K S ws ds ∧ Srt ds es ∧ ∀ (p : Addr) (xs : List V), DpAll K S xs es → H p = none → Q (.ref p) (upd H p (.lst xs))
theorem cr_sortedD {X : Cx} {S : Hp} (hu : X.A.units + 64 < cLine) : CallR X (.builtin "sorted") (rSortedD X.K S) := by
  intro pins s σ H vs us Q I r h
  obtain ⟨a, ws, ds, es, rfl, hs, hS, da, sr, q⟩ := h
  obtain ⟨its, rv, pl, hz⟩ := I.list hs
  rw [Vals.ref1 r]
  have hl := sr.len
  refine PySem.W.sorted_data (enc := id) (bs := ds) pl.isList (eachV da rv) (eachR I (dpAll_mono hS da) rv) (by rw [List.map_id]; exact sr.al) (by rw [List.map_id]; exact sr.so) (Nat.le_trans sr.len (by decide)) (fun b hb => by
    have := sr.dep b hb
    show X.A.units + 2 + b.depth < cLine
    omega) fun out ho eo => ?_
  rw [sorted_is sr.perm sr.inc] at eo
  obtain ⟨xs, g1, g2⟩ := of_each eo
  obtain ⟨ep, he'⟩ := PyProof.Rows.sortedAll_at s.heap its out.toArray
  have hlen : xs.length ≤ sizeLine := by
    rw [DpAll.length g2, sr.perm.length_eq]
    exact Nat.le_trans hl (by decide)
  exact ⟨.ref _, upd H (s.heap.objs.size + 1) (.lst xs), I.laid (t' := s.toks) (fun _ _ => PyProof.Rows.sortedAll_old) (Nat.le_succ _) ⟨hlen, out, ep, g1, he'⟩, rfl, q _ _ g2 (I.hok.fresh (Nat.le_succ _))⟩
section
variable {X : Cx} {ρ : Rho} {e a b : Expr} {pos p : Pos} {ds es : List D}
theorem xe_sorted (hu : X.A.units + 64 < cLine) (ms : X.mg "sorted" = none) (h : XE X ρ e (.list ds)) (sr : Srt ds es) (hg : Gl X "sorted" := by rfl) (he : starEach (e :: []) X.env = (false, eval e X.env) :: starEach [] X.env := by rfl) (hpl : (backTo pos (starEach [] X.env)).any (·.1) = false := by rfl) :
    XE X ρ (.Call (.Name "sorted" p) [e] [] pos) (.list es) := fun F σ H en li Q q pins s I => by
  refine (pe_callB (r := fun vs H' Q => ∃ S, Same S H' ∧ rSortedD X.K S vs H' Q) (fun pins s σ H vs us Q I r h => by
    obtain ⟨S, _, h⟩ := h
    exact cr_sortedD hu pins s σ H vs us Q I r h) hg ms PyProof.Rows.boot_sorted pA (by decide) (by decide) he hpl).run pins s σ H Q I ?_
  refine xa1 h he F σ H en li _ fun vs H1 s1 r0 => ?_
  obtain ⟨v, rfl, r⟩ := r0.one'
  obtain ⟨l, ws, rfl, h1, h2⟩ := r.l
  refine ⟨hid F H1, hid_le, l, ws, ds, es, rfl, Same.seq hid_le h1, hid_le, h2, sr, fun p xs dx hp => q _ _ (s1.trans (same_upd hp)) ?_⟩
  exact .inl (.lst (.inl (.inl (by rw [hid_out ((li.mono s1).out hp)]; exact upd_same))) (dpAll_mono (hid_mono (same_upd hp)) dx))
end
end DL
set_option Elab.async false
set_option linter.all false
set_option maxRecDepth 100000
set_option maxHeartbeats 4000000
/-! Dicts whose keys are ints, whose values are True. -/
namespace DL
open PySem PySem.Spec PyProof.Rows L2

def addKey (ks : List Int) (k : Int) : List Int := if k ∈ ks then ks else ks ++ [k]
theorem kvI_any (ks : List Int) (k : Int) : ((kvI ks).any fun kv => decide (kv.1 = (Sum.inl k : Key))) = decide (k ∈ ks) := by
  induction ks with
  | nil => rfl
  | cons a ks ih =>
    show (decide ((Sum.inl a : Key) = Sum.inl k) || (kvI ks).any _) = _
    rw [ih]
    by_cases e : a = k
    · subst e; simp
    · have e' : ¬ k = a := fun z => e z.symm
      simp [e, e']
theorem putK_I (ks : List Int) (k : Int) : putK (kvI ks) (.inl k) (.bl true) = kvI (addKey ks k) := by
  unfold putK addKey
  rw [kvI_any]
  by_cases h : k ∈ ks
  · rw [if_pos (decide_eq_true h), if_pos h]
    unfold kvI
    rw [List.map_map]
    refine List.map_congr_left fun a _ => ?_
    show (if (Sum.inl a : Key) = Sum.inl k then ((Sum.inl a : Key), V.bl true) else _) = _
    split <;> rfl
  · rw [if_neg (by simp [h]), if_neg h]
    unfold kvI
    rw [List.map_append]
    rfl
theorem mergeK_I (more : List Int) : ∀ ks : List Int, mergeK (kvI ks) (kvI more) = kvI (more.foldl addKey ks) := by
  induction more with
  | nil => intro ks; rfl
  | cons k more ih =>
    intro ks
    show mergeK (putK (kvI ks) (.inl k) (.bl true)) (kvI more) = _
    rw [putK_I, ih]
    rfl
theorem valV_I (ks : List Int) (k : Int) : (valV (kvI ks) (Sum.inl k)).isSome = decide (k ∈ ks) := by rw [← valV_any, kvI_any]
theorem addKey_len (ks : List Int) (k : Int) : (addKey ks k).length ≤ ks.length + 1 := by
  unfold addKey
  split
  · omega
  · rw [List.length_append]; simp
theorem kvI_len (ks : List Int) : (kvI ks).length = ks.length := List.length_map _
theorem addKeys_len (more : List Int) : ∀ ks : List Int, (more.foldl addKey ks).length ≤ ks.length + more.length := by
  induction more with
  | nil => intro ks; simp
  | cons k more ih =>
    intro ks
    have h1 := ih (addKey ks k)
    have h2 := addKey_len ks k
    rw [List.foldl_cons, List.length_cons]
    omega

/-- a.update(b), two dicts -/
def rDUpd : V → List V → Hp → VK → Prop := fun x vs H Q => ∃ a b kvs more, x = .ref a ∧ vs = [.ref b] ∧ a ≠ b ∧ H a = some (.dK kvs) ∧ H b = some (.dK more) ∧ kvs.length + more.length ≤ sizeLine ∧ (mergeK kvs more).length ≤ sizeLine ∧ Q .non (upd H a (.dK (mergeK kvs more)))
theorem mt_dupd {X : Cx} : MtR X "dict.update" rDUpd := by
  intro pins s σ H x vs v us Q I rx rv h
  obtain ⟨a, b, kvs, more, rfl, rfl, hne, ha, hb, hz, hz2, q⟩ := h
  obtain rfl : v = Value.ref a := rx
  obtain ⟨u, rfl, ru⟩ := rv.one
  obtain rfl : u = Value.ref b := ru
  obtain ⟨z, hd, vs1, rel, dd⟩ := dk_of I.hok ha
  obtain ⟨z2, hd2, vs2, rel2, dd2⟩ := dk_of I.hok hb
  refine call_meetsIn PySem.F.slot_dict_update dd.typeIs PySem.F.entry_dict_update (PySem.F.args_dict_update_2 _ _) (meets_dict_update (mixKind X.prog X.w) a b hne hd2)
    ⟨vs1, vs2, dd, dd2, by rw [← rel.length, ← rel2.length]; exact hz, fun h' dd' _ hs => ?_⟩
  have he : ∃ q, h'.get? a = some q := let ⟨q, _, _, hq, _⟩ := dd'; ⟨q, hq⟩
  exact ⟨.non, _, d_write (t' := s.toks) I (by rw [ha]; exact True.intro) hs he (dk_new hz2 hd (KV.merge rel2 rel) dd'), rfl, q⟩

/-- a new dict -/
def EvND (K : PySem.W.Frag) (te : TE) (ρ : Rho) (ks : List Int) : Prop := ∀ (F : List Addr) (σ : L2.St) (H : Hp), EnvOk K F H σ ρ → Live F H → ∀ Q : VK, (∀ p H', H p = none → Same H H' → H' p = some (.dK (kvI ks)) → Q (.ref p) H') → te σ H Q
abbrev XND (X : Cx) (ρ : Rho) (e : Expr) (ks : List Int) : Prop := EvND X.K (cE X e) ρ ks
section
variable {X : Cx} {ρ : Rho} {e a b tg iter kx vx : Expr} {pos p : Pos} {ks : List Int}
theorem xnd_e (h : XND X ρ e ks) : XE X ρ e (dictI ks) := fun F σ H en li Q q => h F σ H en li _ fun p H' hp s1 e1 => q _ _ s1 (.inr (.inl ⟨p, ks, rfl, rfl, by rw [hid_out (li.out hp)]; exact e1⟩))
theorem xnd_is {ks' : List Int} (h : XND X ρ e ks) (q : ks = ks') : XND X ρ e ks' := q ▸ h
/-- {0: True} -/
theorem xnd_disp1 {i : Int} {j k : Nat} {p1 p2 : Pos} : XND X ρ (.Dict [some (.Constant (.int i) j p1)] [.Constant (.bool true) k p2] pos) [i] := fun F σ H en li Q q =>
  cE_of (pe_disp (pps_cons pe_int pe_bl pps_nil) (by rfl) (by rfl) (by intro z; cases z) (by simp)) fun p hp => ⟨upd_same, [(Sum.inl i, .bl true)], rfl, by simp, q p _ hp (fun c o e => by rw [upd_ne (ne_of_none e hp), upd_ne (ne_of_none e hp)]; exact e) upd_same⟩
/-- i not in d -/
theorem xt_notInDI {i : Int} (hu : X.A.units + 1 < cLine) (ha : XE X ρ a (.int i)) (hb : XE X ρ b (dictI ks)) (h0 : ks ≠ []) (hm : behindInMarks .NotIn b = false := by with_unfolding_all rfl) : XT X ρ (.Compare a [.NotIn] [b] pos) (!decide (i ∈ ks)) :=
  xt_of (pt_cmp (pc_dnotin hu pE pE) hm) fun F σ H en li Q g => ha F σ H en li _ fun v H1 s1 r1 => hb F σ H1 (en.same s1) (li.mono s1) _ fun u H2 s2 r2 => by
    obtain ⟨d, rfl, hd⟩ := r2.dI h0
    rw [r1.i]
    exact ⟨d, _, rfl, .inl ⟨kvI ks, .inl i, .inl ((hid_some hd).2), rfl, rfl⟩, _, rfl, by rw [valV_I]; exact g H2 (s1.trans s2)⟩
/-- list(d) -/
theorem xn_listDI (hc : X.calm = true) (ml : X.mg "list" = none) (h : XE X ρ e (dictI ks)) (h0 : ks ≠ []) (hg : Gl X "list" := by rfl) (he : starEach (e :: []) X.env = (false, eval e X.env) :: starEach [] X.env := by rfl) (hpl : (backTo pos (starEach [] X.env)).any (·.1) = false := by rfl) :
    XN X ρ (.Call (.Name "list" p) [e] [] pos) (ks.map .int) := xn_of (pe_callTy (call_listD hc) hg ml PyProof.Rows.boot_list pA (by decide) (by decide) he hpl) fun F σ H en li Q q => xa1 h he F σ H en li _ fun vs H1 s1 r0 => by
  obtain ⟨v, rfl, r⟩ := r0.one'
  obtain ⟨d, rfl, hd⟩ := r.dI h0
  refine ⟨d, kvI ks, rfl, .inl ((hid_some hd).2), fun l hl => q l _ _ ?_ (s1.trans (same_upd hl)) upd_same ?_⟩
  · cases h : H l with
    | none => rfl
    | some o => rw [s1 l o h] at hl; cases hl
  · have e : (kvI ks).map (fun kv => kV kv.1) = ks.map V.int := by
      unfold kvI
      rw [List.map_map]
      rfl
    rw [e]
    exact dp_ints ks
theorem xe_lenDI (ml : X.mg "len" = none) (h : XE X ρ e (dictI ks)) (h0 : ks ≠ []) (hg : Gl X "len" := by rfl) (he : starEach (e :: []) X.env = (false, eval e X.env) :: starEach [] X.env := by rfl) (hpl : (backTo pos (starEach [] X.env)).any (·.1) = false := by rfl) :
    XE X ρ (.Call (.Name "len" p) [e] [] pos) (.int (ks.length : Nat)) := xe_callB call_lenD ml PySem.boot_len (xa1 h he) (fun F H li vs r0 Q q => by
  obtain ⟨v, rfl, r⟩ := r0.one'
  obtain ⟨d, rfl, hd⟩ := r.dI h0
  exact ⟨d, _, rfl, (hid_some hd).2, q _ H (Same.refl H) (by rw [kvI_len]; exact rp_i)⟩) hg (by decide) (by decide) he hpl
theorem pairwise_unique : ∀ {ys es : List Int}, ys.Perm es → ys.Pairwise (· ≤ ·) → es.Pairwise (· < ·) → ys = es
  | ys, [], h, _, _ => h.eq_nil
  | [], e :: es, h, _, _ => absurd h.symm.eq_nil (by simp)
  | y :: ys, e :: es, h, h1, h2 => by
    have hye : y = e := by
      have m1 : y ∈ e :: es := h.mem_iff.mp List.mem_cons_self
      rcases List.mem_cons.mp m1 with q | q
      · exact q
      · have l1 := (List.pairwise_cons.mp h2).1 y q
        have m2 : e ∈ y :: ys := h.mem_iff.mpr List.mem_cons_self
        rcases List.mem_cons.mp m2 with q2 | q2
        · exact q2.symm
        · have l2 := (List.pairwise_cons.mp h1).1 e q2
          omega
    subst hye
    rw [pairwise_unique (List.Perm.cons_inv h) (List.pairwise_cons.mp h1).2 (List.pairwise_cons.mp h2).2]
/-- sorted(d) -/
theorem xe_sortedDI {es : List Int} (hc : X.calm = true) (ms : X.mg "sorted" = none) (h : XE X ρ e (dictI ks)) (h0 : ks ≠ []) (h64 : ks.length < 64) (hp : es.Perm ks) (hs : es.Pairwise (· < ·)) (hg : Gl X "sorted" := by rfl) (he : starEach (e :: []) X.env = (false, eval e X.env) :: starEach [] X.env := by rfl) (hpl : (backTo pos (starEach [] X.env)).any (·.1) = false := by rfl) :
    XE X ρ (.Call (.Name "sorted" p) [e] [] pos) (.list (es.map .int)) := xe_callB (call_sortedDI hc) ms PyProof.Rows.boot_sorted (xa1 h he) (fun F H li vs r0 Q q => by
  obtain ⟨v, rfl, r⟩ := r0.one'
  obtain ⟨d, rfl, hd⟩ := r.dI h0
  refine ⟨d, kvI ks, ks, rfl, .inl ((hid_some hd).2), ?_, h64, fun ys p g1 g2 hp' => ?_⟩
  · unfold kvI; rw [List.map_map]; rfl
  · rw [pairwise_unique (g1.trans hp.symm) g2 hs]
    exact q _ _ (same_upd hp') (.inl (.lst (.inl (.inl (by rw [hid_out (li.out hp')]; exact upd_same))) (dp_ints es)))) hg (by decide) (by decide) he hpl
/-- {k: True for n in iter} -/
theorem xnd_dc {α : Type} {xs : List α} {enc : α → D} {key : α → Int} {scope : Scope} {kk : Nat} {pv : Pos} (j : Nat) {n : Str} (hN : X.N.Nodup) (hi : XI X ρ (.Name n p) iter (xs.map enc)) (ok : BlkOk X.N X.env.scope scope [(n, j)])
    (hk : ∀ (s : Shared) (H : Hp) (C : Addr) (cl : List (Str × Addr)) (fp : List Addr) (x : α), x ∈ xs → XE (X.blk s H scope (compEnvC scope cl C X.env) fp) ((ρ.set j none).set j (some (enc x))) kx (.int (key x)))
    (hlen : xs.length ≤ 100000) (hc : X.calm = true := by rfl) (hj : X.N[j]? = some n := by rfl)
    (hx : ∀ (s : Shared) (H : Hp) (C : Addr) (cl : List (Str × Addr)) (fp : List Addr), LocB (X.blk s H scope (compEnvC scope cl C X.env) fp) n := by first | exact fun _ _ _ _ _ => .inl rfl | exact fun _ _ _ _ _ => .inr ⟨rfl, rfl⟩)
    (hs : ∀ x, foldedSetIterable iter X.env x = pure x := by intro _; rfl) : XND X ρ (.DictComp kx (.Constant (.bool true) kk pv) [⟨.Name n p, iter, [], 0⟩] scope pos) ((xs.map key).foldl addKey []) := by
  intro F σ H en li Q q
  refine cE_of (t := tDc (cI X (.Name n p) iter) (gName j) tYes (fun σ H Q => ∀ (s : Shared) (H0 : Hp) (C : Addr) (cl : List (Str × Addr)) (fp : List Addr), cE (X.blk s H0 scope (compEnvC scope cl C X.env) fp) kx σ H Q) (tC (.bl true)) [j])
    (pe_dc hc hN pI ok (fun s H C cl fp => pg_name hN hj (hx s H C cl fp).loc (hx s H C cl fp).fn) (fun s H C cl fp => pts_nil) (fun s H C cl fp => ⟨fun pins s1 σ1 H1 Q I h => h s H C cl fp pins s1 I⟩) (fun s H C cl fp => pe_bl) hs) ?_
  refine hi F σ H en li _ fun J H1 s1 wk Dl hD => ?_
  have hD0 : H Dl = none := by
    cases h : H Dl with
    | none => rfl
    | some o => rw [s1 Dl o h] at hD; cases hD
  have li1 : Live (Dl :: F) (upd H1 Dl (.dK [])) := fun a m => by
    rcases List.mem_cons.mp m with rfl | m
    · rw [upd_same]; exact fun z => nomatch z
    · exact (li.mono (s1.trans (same_upd hD))) a m
  have sH1 : Same (hid F H1) (hid (Dl :: F) (upd H1 Dl (.dK []))) := hid_new hD (same_upd hD)
  refine ⟨fun i m Hi => m = xs.length - i ∧ i ≤ xs.length ∧ Same (hid F H1) (hid (Dl :: F) Hi) ∧ Live (Dl :: F) Hi ∧ (∀ a o, a ≠ Dl → H1 a = some o → Hi a = some o) ∧ Hi Dl = some (.dK (kvI (((xs.take i).map key).foldl addKey []))),
    ⟨xs.length, rfl, Nat.zero_le _, sH1, li1, fun a o n e => by rw [upd_ne n]; exact e, upd_same⟩, ?_⟩
  rintro i m Hi ⟨rfl, hle, sm, lv, old, hv⟩
  obtain ⟨wgo, wst⟩ := wk Hi (Same.trans sm hid_le)
  by_cases hlt : i < xs.length
  · have hx' : xs[i]? = some xs[i] := List.getElem?_eq_getElem hlt
    have hmem : xs[i] ∈ xs := List.getElem_mem hlt
    have hd : (xs.map enc)[i]? = some (enc xs[i]) := by rw [List.getElem?_map, hx']; rfl
    have htake : ((xs.take (i + 1)).map key).foldl addKey [] = addKey (((xs.take i).map key).foldl addKey []) (key xs[i]) := by
      rw [List.take_add_one, hx', List.map_append, List.foldl_append]; rfl
    refine .inr ⟨(wgo i _ hd).1, fun Hn => Same (hid F H1) (hid (Dl :: F) Hn) ∧ Live (Dl :: F) Hn ∧ (∀ a o, a ≠ Dl → H1 a = some o → Hn a = some o) ∧ Hn Dl = some (.dK (kvI (((xs.take (i + 1)).map key).foldl addKey []))),
      fun H' ⟨a1, a2, a3, a4⟩ => ⟨xs.length - (i + 1), by omega, rfl, hlt, a1, a2, a3, a4⟩, fun x H' y => ?_⟩
    obtain ⟨sy, rx⟩ := wk.item sm lv hd y
    have en1 : EnvOk X.K (Dl :: F) H' (L2.wipe σ [j]) (wipeD ρ [j]) := EnvOk.wipeD (en.mono (Same.trans (hid_mono s1) (Same.trans sm (hid_mono sy)))) _
    refine (eg_name (K := X.K) j) (Dl :: F) _ H' x en1 rx _ fun σ2 en2 hl2 hk2 => ⟨wipe_eq hl2 (fun k hk => by simpa using hk) hk2, ?_⟩
    simp only [tYes, if_true]
    intro s H0 C cl fp
    refine hk s H0 C cl fp xs[i] hmem (Dl :: F) σ2 H' en2 (lv.mono sy) _ fun v H4 s4 r4 => ?_
    have s14 := sy.trans s4
    rw [r4.i]
    have hid4 : ∀ o, hid (Dl :: F) (upd H4 Dl o) = hid (Dl :: F) H4 := fun o => by
      funext a
      by_cases m : a ∈ Dl :: F
      · rw [hid_in m, hid_in m]
      · rw [hid_out m, hid_out m, upd_ne fun z => m (by simp [z])]
    refine ⟨_, .inl (key xs[i]), rfl, s14 Dl _ hv, ?_, by rw [hid4]; exact Same.trans sm (hid_mono s14), fun a m => ?_, fun a o n e => by rw [upd_ne n]; exact s14 a o (old a o n e), ?_⟩
    · rw [kvI_len]
      have := addKeys_len ((xs.take i).map key) []
      rw [List.length_map, List.length_take] at this
      exact Nat.lt_of_le_of_lt (show _ ≤ 100000 by rw [List.length_nil, Nat.zero_add] at this; omega) (by decide)
    · by_cases z : a = Dl
      · rw [z, upd_same]; exact fun q => nomatch q
      · rw [upd_ne z]; exact lv.mono s14 a m
    · rw [upd_same, putK_I, htake]
  · have e : i = xs.length := by omega
    subst e
    rw [List.length_map] at wst
    refine .inl ⟨wst, q Dl Hi hD0 (fun a o e => ?_) ?_⟩
    · exact old a o (ne_of_none e hD0) (s1 a o e)
    · rw [List.take_length] at hv
      exact hv
end
section
variable {X : Cx} {F : List Addr} {H0 : Hp} {ρ ρ' : Rho} {o : Own} {Dn : Ends} {e : Expr} {sts : List Stmt} {pos p : Pos} {ks more : List Int}
/-- x = a new dict that the def owns -/
theorem sx_ownD (i : Nat) {n : Str} (hN : X.N.Nodup) (he : XND X ρ e ks) (h : ∀ l, H0 l = none → SX X F H0 (ρ.set i none) (.dI i l ks) sts Dn) (hi : X.N[i]? = some n := by rfl) (hx : Loc X.env.scope n := by first | exact Or.inl rfl | exact Or.inr rfl) (hil : i < ρ.length := by simp) (hs : swapsWith e (some (.Name n p)) pos.line X.env = pure false := by rfl)
    (hf : X.fn n = true ∨ X.env.scope.names.lookup n = some .local := by first | exact .inl rfl | exact .inr rfl) : SX X F H0 ρ .no (.Assign [.Name n p] e pos :: sts) Dn := fun σ H s => cSs_cons (ps_set hN hi hx pE hs hf) (he F σ H s.env s.live _ fun l H' hl s1 e1 => by
  have hl0 : H0 l = none := by
    cases q : H0 l with
    | none => rfl
    | some u => rw [s.same l u (by simp [Own.ads]) q] at hl; cases hl
  have e' : EnvOk X.K (l :: F) H' (σ.set i (some (.ref l))) (ρ.set i none) := EnvOk.setN (EnvOk.mono s.env (hid_new hl s1))
  exact h l hl0 _ _ ⟨e', fun x u n q => s1 x u (s.same x u (by simp [Own.ads]) q), s.live.mono s1, s.live.out hl, by rw [List.getElem?_set_self (by rw [s.env.len]; exact hil)], e1⟩)
/-- found.update(a new dict) -/
theorem sx_upd {i : Nat} {l : Addr} {n : Str} {apos : Pos} {p2 : Pos} (he : XND X (ρ.set i (some (dictI ks))) e more) (h : SX X F H0 ρ (.dI i l (more.foldl addKey ks)) sts Dn) (hz : ks.length + more.length ≤ 100000) (hN : X.N[i]? = some n := by rfl) (hv : Vis X.env.scope n := by first | exact Or.inl rfl | exact Or.inr (Or.inl rfl) | exact Or.inr (Or.inr rfl))
    (hdb : (n == ("__debug__" : Str)) = false := by decide) (hcd : (n == ("__classdict__" : Str)) = false := by decide)
    (hbase : attributeBase (.Name n p) "update" X.env (eval (.Name n p) X.env) = eval (.Name n p) X.env := by rfl)
    (hfew : ((backTo p2 (starEach (e :: []) X.env)).all (fun x => !x.1) && (backToKw p2 (keywordEach [] X.env)).all (fun x => x.1.isSome) && decide ((e :: []).length + ([] : List Keyword).length + (if ([] : List Keyword).isEmpty then 0 else 1) < 30)) = true := by rfl)
    (hline : (apos.endLine == p2.line) = true := by rfl) (hs1 : starEach (e :: []) X.env = (false, eval e X.env) :: starEach [] X.env := by rfl) (hplain : (backTo p2 (starEach [] X.env)).any (·.1) = false := by rfl)
    (hs : swapsWith (.Call (.Attribute (.Name n p) "update" apos) [e] [] p2) none pos.line X.env = pure false := by rfl) :
    SX X F H0 ρ (.dI i l ks) (.Expr (.Call (.Attribute (.Name n p) "update" apos) [e] [] p2) pos :: sts) Dn := fun σ H s => by
  refine cSs_cons (ps_expr (pe_bm PySem.F.plainAttrs_dict PySem.F.slot_dict_update PySem.F.type_dict_update mt_dupd (pe_var hN hv hdb hcd) (pa_cons pE pa_nil hs1) hbase hfew hline hs1 hplain) hs) ?_
  obtain ⟨h1, h2, h3⟩ := s.own
  refine ⟨.ref l, h2, .inr (.inr (.inl ⟨rfl, .inl ⟨_, h3⟩⟩)), he F σ H s.shared s.live _ fun p H' hp s1 e1 => ⟨l, p, _, _, rfl, rfl, ne_of_none h3 hp, s1 l _ h3, e1, ?_, ?_, ?_⟩⟩
  · rw [kvI_len, kvI_len]; exact Nat.le_trans hz (by decide)
  · rw [mergeK_I, kvI_len]; exact Nat.le_trans (Nat.le_trans (addKeys_len more ks) hz) (by decide)
  rw [mergeK_I]
  refine h _ _ ⟨?_, fun x u n q => ?_, fun a m => ?_, h1, h2, upd_same⟩
  · have e1 : EnvOk X.K (l :: F) H' σ ρ := (s.grow s1).env
    have hid' : hid (l :: F) (upd H' l (.dK (kvI (more.foldl addKey ks)))) = hid (l :: F) H' := by
      funext a
      by_cases m : a ∈ l :: F
      · rw [hid_in m, hid_in m]
      · rw [hid_out m, hid_out m, upd_ne fun z => m (by simp [z])]
    exact ⟨e1.len, fun i d q => by
      obtain ⟨u, g1, g2⟩ := e1.at_ i d q
      refine ⟨u, g1, ?_⟩
      show Rp X.K (hid (l :: F) (upd H' l (.dK (kvI (more.foldl addKey ks))))) u d
      rw [hid']; exact g2⟩
  · rw [upd_ne (by simpa [Own.ads] using n)]
    exact s1 x u (s.same x u n q)
  · rw [upd_ne (show a ≠ l from fun z => h1 (by rw [← z]; exact m))]
    exact s.live.mono s1 a m
end
end DL
set_option Elab.async false
set_option linter.all false
set_option maxRecDepth 100000
set_option maxHeartbeats 4000000
/-! Companies, masks, sets, kinds as plain data. -/
namespace DL
open PySem PySem.Spec PyProof.Rows L2

structure Co where
  n : Nat
  ps : List (Nat × Nat)
  deriving DecidableEq
def encP (p : Nat × Nat) : D := .tuple [.int (p.1 : Int), .int (p.2 : Int)]
def encC (c : Co) : D := .tuple [.int (c.n : Int), .tuple (c.ps.map encP)]
/-- all pairs one < other < n, ascending -/
def pairsOf (n : Nat) : List (Nat × Nat) := (List.range n).flatMap fun i => ((List.range n).filter (i < ·)).map fun j => (i, j)
def subsOf : List (Nat × Nat) → List (List (Nat × Nat))
  | [] => [[]]
  | p :: r => (subsOf r).map (p :: ·) ++ subsOf r
def covered (n : Nat) (ps : List (Nat × Nat)) : Bool := (List.range n).all fun a => ps.any fun p => p.1 == a || p.2 == a
def comps : List Co := [2, 3, 4].flatMap fun n => ((subsOf (pairsOf n)).filter (covered n)).map (Co.mk n)
theorem comps_len : comps.length = 46 := by decide +kernel
def goodB (c : Co) : Bool := decide (2 ≤ c.n) && decide (c.n ≤ 4) && decide (1 ≤ c.ps.length) && decide (c.ps.length ≤ 6) && c.ps.all (fun p => decide (p.1 < p.2) && decide (p.2 < c.n)) &&
  ((List.range c.ps.length).all fun i => i == 0 || (match c.ps[i - 1]?, c.ps[i]? with
    | some p, some q => decide (p.1 < q.1) || (p.1 == q.1 && decide (p.2 < q.2))
    | _, _ => false)) && covered c.n c.ps
theorem comps_good : comps.all goodB = true := by decide +kernel
structure Good (c : Co) : Prop where
  n2 : 2 ≤ c.n
  n4 : c.n ≤ 4
  l1 : 1 ≤ c.ps.length
  l6 : c.ps.length ≤ 6
  lt : ∀ p, p ∈ c.ps → p.1 < p.2 ∧ p.2 < c.n
  asc : ∀ (i : Nat) p q, c.ps[i]? = some p → c.ps[i + 1]? = some q → p.1 < q.1 ∨ (p.1 = q.1 ∧ p.2 < q.2)
  cov : covered c.n c.ps = true
theorem good_of {c : Co} (h : c ∈ comps) : Good c := by
  have g := List.all_eq_true.mp comps_good c h
  unfold goodB at g
  simp only [Bool.and_eq_true, decide_eq_true_eq] at g
  obtain ⟨⟨⟨⟨⟨⟨g1, g2⟩, g3⟩, g4⟩, g5⟩, g6⟩, g7⟩ := g
  refine ⟨g1, g2, g3, g4, fun p hp => ?_, fun i p q hp hq => ?_, g7⟩
  · have := List.all_eq_true.mp g5 p hp
    simpa using this
  · have hl : i + 1 < c.ps.length := (List.getElem?_eq_some_iff.mp hq).1
    have := List.all_eq_true.mp g6 (i + 1) (List.mem_range.mpr hl)
    rw [show i + 1 - 1 = i from rfl, hp, hq] at this
    simpa using this

/-- the text of a mask -/
def lt (m : Nat) : Str := ⟨(((List.range 8).filter fun i => m.testBit i).map (97 + ·)).toArray⟩
def encK (k : Nat × Nat) : D := .tuple [.str (lt k.1), .int (k.2 : Int)]

theorem dec_nat (i j : Nat) : decide ((i : Int) = (j : Int)) = (i == j) := by
  by_cases h : i = j
  · subst h; simp
  · have : ¬ (i : Int) = (j : Int) := by omega
    rw [decide_eq_false this]
    exact (beq_eq_false_iff_ne.mpr h).symm
theorem bitAnd_nat (a b : Nat) : Builtin.bitAnd (a : Int) (b : Int) = ((a &&& b : Nat) : Int) := by simp [Builtin.bitAnd]
theorem shr_nat (a b : Nat) : (a : Int) / 2 ^ ((b : Int)).toNat = ((a >>> b : Nat) : Int) := by
  rw [Int.toNat_natCast, Nat.shiftRight_eq_div_pow]
  simp
theorem bitXor_16 : ∀ (a : Nat), a < 16 → ∀ (b : Nat), b < 16 → Builtin.bitXor (a : Int) (b : Int) = ((a ^^^ b : Nat) : Int) := by decide +kernel
section
variable {X : Cx} {ρ : Rho} {a b e : Expr} {pos : Pos} {i j : Nat}
theorem xe_bandN (ha : XE X ρ a (.int (i : Int))) (hb : XE X ρ b (.int (j : Int))) : XE X ρ (.BinOp a .BitAnd b pos) (.int ((i &&& j : Nat) : Int)) := xe_is (xe_band ha hb) (by rw [bitAnd_nat])
theorem xe_bxorN (ha : XE X ρ a (.int (i : Int))) (hb : XE X ρ b (.int (j : Int))) (hi : i < 16) (hj : j < 16) : XE X ρ (.BinOp a .BitXor b pos) (.int ((i ^^^ j : Nat) : Int)) := xe_is (xe_bxor ha hb) (by rw [bitXor_16 i hi j hj])
theorem xe_shrN (ha : XE X ρ a (.int (i : Int))) (hb : XE X ρ b (.int (j : Int))) : XE X ρ (.BinOp a .RShift b pos) (.int ((i >>> j : Nat) : Int)) := xe_is (xe_shr ha hb (by omega)) (by rw [shr_nat])
theorem xe_shlN (ha : XE X ρ a (.int (i : Int))) (hb : XE X ρ b (.int (j : Int))) (hi : i < 1000) (hj : j < 1000) : XE X ρ (.BinOp a .LShift b pos) (.int ((i <<< j : Nat) : Int)) := xe_is (xe_shl ha hb ⟨by omega, by omega, by
  have : ((i : Int)).natAbs = i := by omega
  rw [this]; exact Nat.lt_of_lt_of_le hi (by decide)⟩) (by
    rw [Int.toNat_natCast, Nat.shiftLeft_eq]
    simp)
theorem xe_addN (ha : XE X ρ a (.int (i : Int))) (hb : XE X ρ b (.int (j : Int))) : XE X ρ (.BinOp a .Add b pos) (.int ((i + j : Nat) : Int)) := xe_is (xe_add ha hb) (by rw [Int.natCast_add])
theorem xe_modN (ha : XE X ρ a (.int (i : Int))) (hb : XE X ρ b (.int (j : Int))) (hj : 0 < j) : XE X ρ (.BinOp a .Mod b pos) (.int ((i % j : Nat) : Int)) := xe_is (xe_mod ha hb (by omega)) (by rw [Int.natCast_emod])
theorem xe_subN (ha : XE X ρ a (.int (i : Int))) (hb : XE X ρ b (.int (j : Int))) (h : j ≤ i) : XE X ρ (.BinOp a .Sub b pos) (.int ((i - j : Nat) : Int)) := xe_is (xe_sub ha hb) (by rw [Int.ofNat_sub h])
theorem xe_divN (ha : XE X ρ a (.int (i : Int))) (hb : XE X ρ b (.int (j : Int))) (h0 : 0 < j) (h1 : j < 1000) : XE X ρ (.BinOp a .FloorDiv b pos) (.int ((i / j : Nat) : Int)) := xe_is (xe_fdiv ha hb ⟨by omega, by omega⟩) (by rw [Int.natCast_ediv])
theorem xe_mulN (ha : XE X ρ a (.int (i : Int))) (hb : XE X ρ b (.int (j : Int))) (h : i < 1000000) : XE X ρ (.BinOp a .Mult b pos) (.int ((i * j : Nat) : Int)) := xe_is (xe_mul ha hb (.inl ⟨by omega, by omega⟩)) (by rw [Int.natCast_mul])
theorem xt_eqN (ha : XE X ρ a (.int (i : Int))) (hb : XE X ρ b (.int (j : Int))) : XT X ρ (.Compare a [.Eq] [b] pos) (i == j) := xt_is (xt_eq ha hb) (dec_nat i j)
theorem xe_eqN (ha : XE X ρ a (.int (i : Int))) (hb : XE X ρ b (.int (j : Int))) : XE X ρ (.Compare a [.Eq] [b] pos) (.bool (i == j)) := xe_is (xe_eq ha hb) (by rw [dec_nat])
theorem xt_ltN (ha : XE X ρ a (.int (i : Int))) (hb : XE X ρ b (.int (j : Int))) : XT X ρ (.Compare a [.Lt] [b] pos) (decide (i < j)) := xt_is (xt_lt ha hb) (by
  by_cases h : i < j
  · have : (i : Int) < (j : Int) := by omega
    simp [h]
  · have : ¬ (i : Int) < (j : Int) := by omega
    simp [h])
theorem xt_gtN (ha : XE X ρ a (.int (i : Int))) (hb : XE X ρ b (.int (j : Int))) : XT X ρ (.Compare a [.Gt] [b] pos) (decide (j < i)) := xt_is (xt_gt ha hb) (by
  by_cases h : j < i
  · have : (j : Int) < (i : Int) := by omega
    simp [h]
  · have : ¬ (j : Int) < (i : Int) := by omega
    simp [h])
end
/-! ### lists made by comprehensions, handed to built-ins -/
section
variable {X : Cx} {ρ : Rho} {a b e : Expr} {pos p : Pos} {α : Type} {xs : List α}
theorem map_bool (g : α → Bool) : xs.map (fun x => (PyData.bool (g x))) = (xs.map g).map .bool := by rw [List.map_map]; rfl
theorem map_int (g : α → Int) : xs.map (fun x => (PyData.int (g x))) = (xs.map g).map .int := by rw [List.map_map]; rfl
theorem map_str (g : α → Str) : xs.map (fun x => (PyData.str (g x))) = (xs.map g).map .str := by rw [List.map_map]; rfl
theorem xe_allF {g : α → Bool} (ml : X.mg "all" = none) (h : XE X ρ e (.list (xs.map fun x => .bool (g x)))) (hc : X.calm = true := by rfl) (hg : Gl X "all" := by rfl) (he : starEach (e :: []) X.env = (false, eval e X.env) :: starEach [] X.env := by rfl) (hpl : (backTo pos (starEach [] X.env)).any (·.1) = false := by rfl) :
    XE X ρ (.Call (.Name "all" p) [e] [] pos) (.bool (xs.all g)) := xe_is (xe_all hc ml (xe_is h (by rw [map_bool])) hg he hpl) (by rw [List.all_map]; rfl)
theorem xe_anyF {g : α → Bool} (ml : X.mg "any" = none) (h : XE X ρ e (.list (xs.map fun x => .bool (g x)))) (hc : X.calm = true := by rfl) (hg : Gl X "any" := by rfl) (he : starEach (e :: []) X.env = (false, eval e X.env) :: starEach [] X.env := by rfl) (hpl : (backTo pos (starEach [] X.env)).any (·.1) = false := by rfl) :
    XE X ρ (.Call (.Name "any" p) [e] [] pos) (.bool (xs.any g)) := xe_is (xe_any hc ml (xe_is h (by rw [map_bool])) hg he hpl) (by rw [List.any_map]; rfl)
theorem natsum : ∀ l : List Nat, (l.map fun (n : Nat) => (n : Int)).sum = ((l.sum : Nat) : Int)
  | [] => rfl
  | n :: l => by rw [List.map_cons, List.sum_cons, List.sum_cons, natsum l, Int.natCast_add]
theorem xe_sumF {g : α → Nat} (ml : X.mg "sum" = none) (h : XE X ρ e (.list (xs.map fun x => .int ((g x : Nat) : Int)))) (hc : X.calm = true := by rfl) (hg : Gl X "sum" := by rfl) (he : starEach (e :: []) X.env = (false, eval e X.env) :: starEach [] X.env := by rfl) (hpl : (backTo pos (starEach [] X.env)).any (·.1) = false := by rfl) :
    XE X ρ (.Call (.Name "sum" p) [e] [] pos) (.int (((xs.map g).sum : Nat) : Int)) := xe_is (xe_sum hc ml (xe_is h (by rw [map_int])) hg he hpl) (by rw [← natsum, List.map_map]; rfl)
end
theorem kit_int_int : kitB "int" "int" = some true := by decide +kernel
theorem kit_int_bool : kitB "int" "bool" = some false := by decide +kernel
theorem kit_tuple_tuple : kitB "tuple" "tuple" = some true := by decide +kernel
theorem kit_str_str : kitB "str" "str" = some true := by decide +kernel
theorem kit_list_list : kitB "list" "list" = some true := by decide +kernel
theorem boot_bool' : bootBuiltins "bool" = some (.type "bool") := by decide +kernel
theorem boot_str' : bootBuiltins "str" = some (.type "str") := by decide +kernel
end DL
set_option Elab.async false
set_option linter.all false
set_option maxRecDepth 100000
set_option maxHeartbeats 4000000
/-! whole .. need_kinds -/
namespace DL
open PySem PySem.Spec PyProof.Rows L2
section
variable {X : Cx} {F : List Addr} {H0 : Hp} {ρ ρ' : Rho} {o : Own} {Dn : Ends} {e a b tg : Expr} {sts : List Stmt} {pos : Pos} {d : D} {ns ms : List Int} {g : TG} {js : List Nat}
/-- a, b = e -/
theorem sx_asgG (he : XE X ρ e d) (hg : PG X tg g) (hG : EvG X.K g js ρ d ρ') (h : SX X F H0 ρ' o sts Dn) (hsl : ∀ j, j ∈ js → o.slot ≠ some j) (hs : swapsWithSole [tg] e pos.line X.env = pure false := by rfl) (hw : swappedStores [tg] e X.env = pure none := by rfl)
    (h1 : (assignEach [tg] X.env).map (·.2) = [assign tg X.env] := by rfl) : SX X F H0 ρ o (.Assign [tg] e pos :: sts) Dn := fun σ H s => cSs_cons (ps_asg pE hg hs hw h1) (he _ σ H s.env s.lives _ fun v H' s1 r =>
  hG _ σ H' v (s.grow s1).env r _ fun σ' en hl hk => h _ _ ⟨en, (s.grow s1).same, (s.grow s1).live, (s.grow s1).own.slots fun j hj => hk j fun m => hsl j m hj⟩)
/-- t <= u, pairs of ints, where u is less -/
theorem xt_leF {i j m n : Int} (hu : X.A.units < cLine) (ha : XE X ρ a (.tuple [.int i, .int j])) (hb : XE X ρ b (.tuple [.int m, .int n])) (h : m < i ∨ (m = i ∧ n < j)) : XT X ρ (.Compare a [.LtE] [b] pos) false := xt_cmp (op_leT hu) ha hb (nomark _) fun F H li u v r1 r2 Q q => by
  obtain ⟨l, xs, rfl, h1, h2⟩ := r1.t
  obtain ⟨m', ys, rfl, g1, g2⟩ := r2.t
  rw [dpAll_ints (ys := [i, j]) h2] at h1
  rw [dpAll_ints (ys := [m, n]) g2] at g1
  refine ⟨l, m', [i, j], [m, n], rfl, rfl, seqT hid_le h1, seqT hid_le g1, q _ H (Same.refl H) ?_⟩
  have e : Ob.lexAt (fun k => decide (([i, j] : List Int).getD k 0 = ([m, n] : List Int).getD k 0)) (fun k => decide (([i, j] : List Int).getD k 0 ≤ ([m, n] : List Int).getD k 0)) (decide (([i, j] : List Int).length ≤ ([m, n] : List Int).length)) 0 (min ([i, j] : List Int).length ([m, n] : List Int).length) =
    (if decide (i = m) = true then (if decide (j = n) = true then true else decide (j ≤ n)) else decide (i ≤ m)) := rfl
  rw [e]
  have : (if decide (i = m) = true then (if decide (j = n) = true then true else decide (j ≤ n)) else decide (i ≤ m)) = false := by
    rcases h with h | ⟨h, h2⟩
    · rw [if_neg (by simp; omega), decide_eq_false (by omega)]
    · rw [if_pos (by simp; omega), if_neg (by simp; omega), decide_eq_false (by omega)]
  rw [this]
  exact rp_b
end
theorem enumD_map {α : Type} (xs : List α) (enc : α → D) : enumD (xs.map enc) = xs.zipIdx.map fun x => .tuple [.int (x.2 : Nat), enc x.1] := by
  unfold enumD
  rw [List.zipIdx_map, List.map_map]
  rfl
theorem zipIdx_at {α : Type} {xs : List α} {i : Nat} {x : α × Nat} (h : xs.zipIdx[i]? = some x) : xs[i]? = some x.1 ∧ x.2 = i := by
  rw [List.getElem?_zipIdx] at h
  cases q : xs[i]? with
  | none => rw [q] at h; cases h
  | some y => rw [q] at h; simp at h; rw [← h]; exact ⟨rfl, rfl⟩
section
variable {P : Program} {w : World} {K : PySem.W.Frag} {mg : Str → Option Value} {base : Heap} {f : Addr} {fd : FuncData} {k : Nat}
abbrev sWhole : Stmt := topS 9
abbrev sWithin : Stmt := topS 10
abbrev sTupleOf : Stmt := topS 11
abbrev sIsPair : Stmt := topS 12
abbrev sNeedCompany : Stmt := topS 13
abbrev sIsSet : Stmt := topS 14
abbrev sIsKind : Stmt := topS 15
abbrev sNeedKinds : Stmt := topS 16
theorem scWhole : FnScope ["value"] ["value"] (defScope sWhole) := ⟨rfl, rfl, rfl, by decide +kernel, rfl, by decide +kernel, by decide +kernel⟩
theorem scWithin : FnScope ["value", "low", "high"] ["value", "low", "high"] (defScope sWithin) := ⟨rfl, rfl, rfl, by decide +kernel, rfl, by decide +kernel, by decide +kernel⟩
theorem scTupleOf : FnScope ["value", "low", "high"] ["value", "low", "high"] (defScope sTupleOf) := ⟨rfl, rfl, rfl, by decide +kernel, rfl, by decide +kernel, by decide +kernel⟩
theorem scIsPair : FnScope ["many", "value", "told"] ["many", "value"] (defScope sIsPair) := ⟨rfl, rfl, rfl, by decide +kernel, rfl, by decide +kernel, by decide +kernel⟩
theorem scNeedCompany : FnScope ["company", "many", "friends", "index", "pair", "letter"] ["company"] (defScope sNeedCompany) := ⟨rfl, rfl, rfl, by decide +kernel, rfl, by decide +kernel, by decide +kernel⟩
def Rwhole (ds : List D) (d : D) : Prop := ∃ i : Int, ds = [.int i] ∧ d = .bool true
theorem ok_whole (F : Fun K "whole" "whole" sWhole f fd) (M : Nm mg) : FnOk P w K mg base CX0 1 f fd ["value"] (spD K Rwhole) :=
  fn_d F scWhole (by rintro _ _ ⟨i, rfl, rfl⟩; rfl) (by decide) fun cdv A outer s H E hr ds d hR G H0 Dn rt => by
    obtain ⟨i, rfl, rfl⟩ := hR
    exact sx_rt rt (xe_and (k := true) (l := true) (xe_isi (d := .int i) (t := "int") (xe_var 0) M.isinstance M.int PyProof.Rows.boot_int kit_int_int)
      (fun _ => xe_one (xe_not (k := false) (xe_isi (d := .int i) (t := "bool") (xe_var 0) M.isinstance M.bool boot_bool' kit_int_bool))))
def Rwithin (ds : List D) (d : D) : Prop := ∃ i lo hi : Int, ds = [.int i, .int lo, .int hi] ∧ lo ≤ i ∧ i ≤ hi ∧ d = .bool true
theorem ok_within (F : Fun K "within" "within" sWithin f fd) (C1 : Callee P w K mg base 1 "whole" Rwhole) : FnOk P w K mg base CX0 2 f fd ["value", "low", "high"] (spD K Rwithin) :=
  fn_d F scWithin (by rintro _ _ ⟨i, lo, hi, rfl, _, _, rfl⟩; rfl) (by decide) fun cdv A outer s H E hr ds d hR G H0 Dn rt => by
    obtain ⟨i, lo, hi, rfl, h1, h2, rfl⟩ := hR
    refine sx_rt rt (xe_is (xe_and (k := true) (xe_call C1 hr (xa1 (xe_var 0)) ⟨i, rfl, rfl⟩) (fun _ => xe_one (xe_chain_le_le (xe_var 1) (xe_var 0) (xe_var 2)))) ?_)
    rw [decide_eq_true h1, decide_eq_true h2]; rfl
def RtupleOf (ds : List D) (d : D) : Prop := ∃ (es : List D) (lo hi : Int), ds = [.tuple es, .int lo, .int hi] ∧ lo ≤ (es.length : Nat) ∧ ((es.length : Nat) : Int) ≤ hi ∧ d = .bool true
theorem ok_tupleOf (F : Fun K "tuple_of" "tuple_of" sTupleOf f fd) (M : Nm mg) : FnOk P w K mg base CX0 1 f fd ["value", "low", "high"] (spD K RtupleOf) :=
  fn_d F scTupleOf (by rintro _ _ ⟨i, lo, hi, rfl, _, _, rfl⟩; rfl) (by decide) fun cdv A outer s H E hr ds d hR G H0 Dn rt => by
    obtain ⟨es, lo, hi, rfl, h1, h2, rfl⟩ := hR
    refine sx_rt rt (xe_is (xe_and (k := true) (xe_isi (d := .tuple es) (t := "tuple") (xe_var 0) M.isinstance M.tuple PyProof.Rows.boot_tuple kit_tuple_tuple) (fun _ => xe_one (xe_chain_le_le (xe_var 1) (xe_lenT M.len (xe_var 0)) (xe_var 2)))) ?_)
    rw [decide_eq_true h1, decide_eq_true h2]; rfl
def RisPair (ds : List D) (d : D) : Prop := ∃ (n : Nat) (p : Nat × Nat), ds = [.int (n : Int), encP p] ∧ p.1 < p.2 ∧ p.2 < n ∧ d = .bool true
theorem ok_isPair (F : Fun K "is_pair" "is_pair" sIsPair f fd) (M : Nm mg) (C1 : Callee P w K mg base 1 "whole" Rwhole) (C2 : Callee P w K mg base 1 "tuple_of" RtupleOf) : FnOk P w K mg base CX0 2 f fd ["many", "value"] (spD K RisPair) :=
  fn_d F scIsPair (by rintro _ _ ⟨n, p, rfl, _, _, rfl⟩; rfl) (by decide) fun cdv A outer s H E hr ds d hR G H0 Dn rt => by
    obtain ⟨n, p, rfl, h1, h2, rfl⟩ := hR
    refine sx_unless (xt_is (xw_t (xw_or (xt_not (xt_val (k := true) (xe_call C2 hr (xa3 (xe_var 1) xe_int xe_int) ⟨_, 2, 2, rfl, by simp, by simp, rfl⟩)))
      fun _ => xw_or1 (xt_not (xt_val (k := true) ?_)))) rfl) ?_
    · exact xe_is (xe_allF (xs := [(p.1 : Int), (p.2 : Int)]) (g := fun _ => true) M.all (xn_e (xn_lc (xs := [(p.1 : Int), (p.2 : Int)]) (enc := .int) 2 scIsPair.nd (xi_tup (xe_var 1)) (blkOk_by (N := ["many", "value", "told"]) (sc := defScope sIsPair) (by decide +kernel))
        (fun _ _ _ _ _ x hx => xe_call C1 hr (xa1 (xe_var 2)) ⟨x, rfl, rfl⟩) (by simp)))) rfl
    · exact sx_rt rt (xe_chain3 xe_int (xe_ixT (xe_var 1) xe_int (d := .int p.1) rfl) (xe_ixT (xe_var 1) xe_int (d := .int p.2) rfl) (xe_var 0) (by omega) (by omega) (by omega))
end
end DL
set_option Elab.async false
set_option linter.all false
set_option maxRecDepth 100000
set_option maxHeartbeats 4000000
namespace DL
open PySem PySem.Spec PyProof.Rows L2
section
variable {K : PySem.W.Frag} {F : List Addr} {H0 H : Hp} {ρ : Rho} {o : Own} {σ : L2.St} {x : Option D}
theorem Stt.forget {k : Nat} (h : Stt K F H0 (ρ.set k x) o σ H) (hk : ρ[k]? = some none := by rfl) : Stt K F H0 ρ o σ H := h.weak (by rw [List.length_set]) fun i d q => by
  by_cases e : k = i
  · subst e; rw [hk] at q; cases q
  · rw [List.getElem?_set_ne e]; exact q
end
section
variable {X : Cx} {ρ : Rho} {a b e tg : Expr} {pos p : Pos} {n m : Nat}
theorem rng_nat (lo n : Nat) : (rng (lo : Int) n).map PyData.int = (List.range n).map fun i => .int ((lo + i : Nat) : Int) := by
  unfold rng
  rw [List.map_map]
  refine List.map_congr_left fun i _ => ?_
  show PyData.int ((lo : Int) + (i : Int)) = _
  rw [Int.natCast_add]
theorem xi_rangeN (mr : X.mg "range" = none) (h : XE X ρ e (.int (n : Int))) (hn : n < 2 ^ 40) (hg : Gl X "range" := by rfl) (he : starEach (e :: []) X.env = (false, eval e X.env) :: starEach [] X.env := by rfl) (hs : starEach [e] X.env = [(false, eval e X.env)] := by rfl) :
    XI X ρ tg (.Call (.Name "range" p) [e] [] pos) ((List.range n).map fun (i : Nat) => .int (i : Int)) := xi_is (xi_range1 mr h ⟨by omega, by omega⟩ hg he hs) (by
  rw [Int.toNat_natCast, show (0 : Int) = ((0 : Nat) : Int) from rfl, rng_nat]
  refine List.map_congr_left fun i _ => ?_
  rw [Nat.zero_add])
theorem xi_range2N (mr : X.mg "range" = none) (h : XE X ρ a (.int (n : Int))) (g : XE X ρ b (.int (m : Int))) (hn : n < 2 ^ 40) (hm : m < 2 ^ 40) (hg : Gl X "range" := by rfl) (he : starEach (a :: [b]) X.env = (false, eval a X.env) :: starEach [b] X.env := by rfl)
    (he2 : starEach (b :: []) X.env = (false, eval b X.env) :: starEach [] X.env := by rfl) (hs : starEach [a, b] X.env = [(false, eval a X.env), (false, eval b X.env)] := by rfl) (hs2 : starEach [b] X.env = [(false, eval b X.env)] := by rfl) :
    XI X ρ tg (.Call (.Name "range" p) [a, b] [] pos) ((List.range (m - n)).map fun (i : Nat) => .int ((n + i : Nat) : Int)) := xi_is (xi_range2 mr h g ⟨by omega, by omega, by omega, by omega⟩ hg he he2 hs hs2) (by
  rw [rng_nat, show ((m : Int) - (n : Int)).toNat = m - n by omega])
end
section
variable {P : Program} {w : World} {K : PySem.W.Frag} {mg : Str → Option Value} {base : Heap} {f : Addr} {fd : FuncData} {k : Nat}
def RneedCompany (ds : List D) (d : D) : Prop := ∃ c : Co, c ∈ comps ∧ ds = [encC c] ∧ d = .none
theorem cov_in {c : Co} (g : Good c) : ((List.range c.n).all fun a => c.ps.any fun p => decide ((a : Int) ∈ ([(p.1 : Int), (p.2 : Int)] : List Int))) = true := by
  refine List.all_eq_true.mpr fun a ha => ?_
  have h := List.all_eq_true.mp g.cov a ha
  obtain ⟨p, hp, q⟩ := List.any_eq_true.mp h
  refine List.any_eq_true.mpr ⟨p, hp, decide_eq_true ?_⟩
  simp at q
  rcases q with q | q
  · simp [← q]
  · simp [← q]
theorem ok_needCompany (F : Fun K "need_company" "need_company" sNeedCompany f fd) (M : Nm mg) (C1 : Callee P w K mg base 2 "within" Rwithin) (C2 : Callee P w K mg base 1 "tuple_of" RtupleOf) (C3 : Callee P w K mg base 2 "is_pair" RisPair) : FnOk P w K mg base CX0 3 f fd ["company"] (spD K RneedCompany) :=
  fn_d F scNeedCompany (by rintro _ _ ⟨c, _, rfl, rfl⟩; rfl) (by decide) fun cdv A outer s H E hr ds d hR G H0 Dn rt => by
    obtain ⟨c, hc, rfl, rfl⟩ := hR
    have g := good_of hc
    have hr1 := hr.mono (show 1 ≤ 2 by decide)
    obtain ⟨tk, ml⟩ := M.letters
    refine sx_unless (xt_is (xw_t (xw_or (xt_not (xt_val (k := true) (xe_call C2 hr1 (xa3 (xe_var 0) xe_int xe_int) ⟨_, 2, 2, rfl, by simp, by simp, rfl⟩)))
      fun _ => xw_or (xt_not (xt_val (k := true) (xe_call C1 hr (xa3 (xe_ixT (d := .int (c.n : Int)) (xe_var 0) xe_int rfl) xe_int (xe_globI ml)) ⟨_, 2, 8, rfl, by have := g.n2; omega, by have := g.n4; omega, rfl⟩)))
      fun _ => xw_or1 (xt_not (xt_val (k := true) (xe_call C2 hr1 (xa3 (xe_ixT (d := .tuple (c.ps.map encP)) (xe_var 0) xe_int rfl) xe_int xe_int) ⟨_, 1, 28, rfl, by rw [List.length_map]; have := g.l1; omega, by rw [List.length_map]; have := g.l6; omega, rfl⟩))))) rfl) ?_
    refine sx_asgG (xe_var 0) (pg_tup rfl (pgs_cons (pg_name (i := 1) scNeedCompany.nd rfl (.inl rfl)) (pgs_cons (pg_name (i := 2) scNeedCompany.nd rfl (.inr rfl)) pgs_nil))) (eg_pair 1 2) ?_ (by decide)
    refine sx_forG (xs := c.ps.zipIdx) (enc := fun x => .tuple [.int (x.2 : Nat), encP x.1]) (js := [3, 4]) (fun _ => [some (encC c), some (.int (c.n : Int)), some (.tuple (c.ps.map encP)), none, none, none]) (fun _ => .no) (fun i x => [some (encC c), some (.int (c.n : Int)), some (.tuple (c.ps.map encP)), some (.int (x.2 : Nat)), some (encP x.1), none])
      PassesOwn.never rfl (xi_is (xi_enumT M.enumerate (xe_var 2)) (enumD_map _ _)) (pg_tup rfl (pgs_cons (pg_name (i := 3) scNeedCompany.nd rfl (.inl rfl)) (pgs_cons (pg_name (i := 4) scNeedCompany.nd rfl (.inl rfl)) pgs_nil)))
      (fun σ H H1 s => s) (fun _ => rfl) (fun _ _ _ h => by cases h) (fun i x hx => eg_pair 3 4) (fun i x H1 hx _ => ?_) ?_ (by intro _; rfl)
    · obtain ⟨hx1, hx2⟩ := zipIdx_at hx
      have hl := g.lt x.1 (List.mem_of_getElem? hx1)
      refine sx_unless (xt_is (xw_t (xw_or (xt_not (xt_val (k := true) (xe_call C3 hr (xa2 (xe_var 1) (xe_var 4)) ⟨c.n, x.1, rfl, hl.1, hl.2, rfl⟩)))
        fun _ => xw_or1 (xw_t (xw_and (l := false) (xt_gtN (j := 0) (xe_var 3) xe_int) fun h0 => xw_and1 ?_)))) (by simp)) ?_
      · have h0 : 0 < x.2 := of_decide_eq_true h0
        have hp : i - 1 < c.ps.length := by have := (List.getElem?_eq_some_iff.mp hx1).1; omega
        have hq : c.ps[i - 1]? = some c.ps[i - 1] := List.getElem?_eq_getElem hp
        have ha := g.asc (i - 1) _ x.1 hq (by rw [show i - 1 + 1 = i by omega]; exact hx1)
        refine xt_leF (i := x.1.1) (j := x.1.2) (m := (c.ps[i - 1]).1) (n := (c.ps[i - 1]).2) hr.units0 (xe_var 4) (xe_ixT (d := encP c.ps[i - 1]) (xe_var 2) (xe_subN (j := 1) (xe_var 3) xe_int h0) (atI_nat ?_)) (by omega)
        rw [hx2, List.getElem?_map, hq]
        rfl
      · exact sx_nil fun σ H s => (Stt.forget (k := 4) (Stt.forget (k := 3) (ρ := [some (encC c), some (.int (c.n : Int)), some (.tuple (c.ps.map encP)), none, some (encP x.1), none]) s) (hk := rfl) : Stt _ _ _ [some (encC c), some (.int (c.n : Int)), some (.tuple (c.ps.map encP)), none, none, none] _ _ _)
    · refine sx_unless (xt_not (xt_val (k := true) (xe_is (xe_allF (xs := List.range c.n) (g := fun a => c.ps.any fun p => decide ((a : Int) ∈ ([(p.1 : Int), (p.2 : Int)] : List Int))) M.all (xn_e (xn_lc (xs := List.range c.n) (enc := fun (i : Nat) => .int (i : Int)) 5 scNeedCompany.nd (xi_rangeN M.range (xe_var 1) (by have := g.n4; omega)) (blkOk_by (N := ["company", "many", "friends", "index", "pair", "letter"]) (sc := defScope sNeedCompany) (by decide +kernel))
        (fun _ _ _ _ _ a ha => ?_) (by rw [List.length_range]; have := g.n4; omega)))) (by rw [cov_in g])))) ?_
      · refine xe_anyF (xs := c.ps) (g := fun p => decide ((a : Int) ∈ ([(p.1 : Int), (p.2 : Int)] : List Int))) M.any (xn_e (xn_lc (xs := c.ps) (enc := encP) 4 scNeedCompany.nd (xi_tup (xe_var 2)) (blkOk_by (N := ["company", "many", "friends", "index", "pair", "letter"]) (by kernel_rfl)) (fun _ _ _ _ _ p hp => xe_inT (ns := [(p.1 : Int), (p.2 : Int)]) (xe_var 5) (xe_var 4)) (by have := g.l6; omega)))
      · exact sx_end rt (fun a m => by cases m)
end
end DL
set_option Elab.async false
set_option linter.all false
set_option maxRecDepth 100000
set_option maxHeartbeats 4000000
namespace DL
open PySem PySem.Spec PyProof.Rows L2
section
variable {X : Cx} {ρ : Rho} {a b e tg : Expr} {pos p : Pos} {n m : Nat}
theorem xi_rangeI {i : Int} (mr : X.mg "range" = none) (h : XE X ρ e (.int i)) (hi : i.toNat = n) (hn : -1000 ≤ i ∧ i ≤ 1000) (hg : Gl X "range" := by rfl) (he : starEach (e :: []) X.env = (false, eval e X.env) :: starEach [] X.env := by rfl) (hs : starEach [e] X.env = [(false, eval e X.env)] := by rfl) :
    XI X ρ tg (.Call (.Name "range" p) [e] [] pos) ((List.range n).map fun (i : Nat) => .int (i : Int)) := xi_is (xi_range1 mr h ⟨by omega, by omega⟩ hg he hs) (by
  rw [hi, show (0 : Int) = ((0 : Nat) : Int) from rfl, rng_nat]
  refine List.map_congr_left fun i _ => ?_
  rw [Nat.zero_add])
theorem xi_signs {w : Str} (h : XE X ρ e (.str w)) : XI X ρ tg e (w.cps.toList.map fun (c : Nat) => .str ⟨#[c]⟩) := xi_is (xi_str h) (by
  unfold signs
  rw [List.map_map]
  rfl)
/-- list items by place -/
theorem atI_map {α : Type} {xs : List α} {enc : α → D} {i : Nat} {x : α} (h : xs[i]? = some x) : atI (xs.map enc) (i : Int) = some (enc x) := atI_nat (by rw [List.getElem?_map, h]; rfl)
end
theorem get_getD {α : Type} (l : List α) (i : Nat) (d : α) (h : i < l.length) : l[i]? = some (l.getD i d) := by
  rw [List.getD_eq_getElem?_getD, List.getElem?_eq_getElem h]; rfl
/-! ### sets as texts: finite facts -/
theorem lt_len : ∀ (m : Nat), m < 16 → (lt m).length ≤ 8 := by decide +kernel
theorem lt_fits : ∀ (n : Nat), n < 5 → ∀ (m : Nat), m < 2 ^ n → (lt m).length ≤ n := by decide +kernel
theorem lt_in : ∀ (n : Nat), n < 5 → ∀ (m : Nat), m < 2 ^ n → ((lt m).cps.toList.all fun ch => decide (ch ∈ (cutS ("abcdefgh" : Str) none (some (n : Int))).cps.toList)) = true := by decide +kernel
theorem lt_asc : ∀ (m : Nat), m < 16 → ((List.range ((lt m).length - 1)).all fun a => decide ([(lt m).cps.toList.getD a 0] < [(lt m).cps.toList.getD (a + 1) 0])) = true := by decide +kernel
theorem lt_ch : ∀ (m : Nat), m < 16 → ((lt m).cps.toList.all fun ch => decide (97 ≤ ch ∧ ch < 101)) = true := by decide +kernel
theorem lt_sum : ∀ (m : Nat), m < 16 → ((lt m).cps.toList.map fun ch => 1 <<< (ch - 97)).sum = m := by decide +kernel
theorem occ_ch : ∀ (i : Nat), i < 8 → Builtin.Str.occurrences ("abcdefgh" : Str) ⟨#[97 + i]⟩ 0 ("abcdefgh" : Str).length 1 = [i] := by decide +kernel
theorem at_alpha : ∀ (i : Nat), i < 8 → ("abcdefgh" : Str).cps.toList[i]? = some (97 + i) := by decide +kernel
theorem lt_join : ∀ (m : Nat), m < 16 → Txt.join ("" : Str) (((List.range 8).filter fun a => ((m >>> a) &&& 1) == 1).map fun a => (⟨#[97 + a]⟩ : Str)) = lt m := by decide +kernel
theorem pow_le {n m : Nat} (hn : n ≤ 4) (h : m < 2 ^ n) : m < 16 := Nat.lt_of_lt_of_le h (Nat.pow_le_pow_right (by decide) hn)
section
variable {P : Program} {w : World} {K : PySem.W.Frag} {mg : Str → Option Value} {base : Heap} {f : Addr} {fd : FuncData} {k : Nat}
theorem scIsSet : FnScope ["company", "value", "sign", "at"] ["company", "value"] (defScope sIsSet) := ⟨rfl, rfl, rfl, by decide +kernel, rfl, by decide +kernel, by decide +kernel⟩
theorem scIsKind : FnScope ["company", "value"] ["company", "value"] (defScope sIsKind) := ⟨rfl, rfl, rfl, by decide +kernel, rfl, by decide +kernel, by decide +kernel⟩
theorem scNeedKinds : FnScope ["company", "kinds", "index", "kind"] ["company", "kinds"] (defScope sNeedKinds) := ⟨rfl, rfl, rfl, by decide +kernel, rfl, by decide +kernel, by decide +kernel⟩
def RisSet (ds : List D) (d : D) : Prop := ∃ (c : Co) (m : Nat), c ∈ comps ∧ m < 2 ^ c.n ∧ ds = [encC c, .str (lt m)] ∧ d = .bool true
theorem ok_isSet (F : Fun K "is_set" "is_set" sIsSet f fd) (M : Nm mg) : FnOk P w K mg base CX0 1 f fd ["company", "value"] (spD K RisSet) :=
  fn_d F scIsSet (by rintro _ _ ⟨c, m, _, _, rfl, rfl⟩; rfl) (by decide) fun cdv A outer s H E hr ds d hR G H0 Dn rt => by
    obtain ⟨c, m, hc, hm, rfl, rfl⟩ := hR
    have g := good_of hc
    have hm16 := pow_le g.n4 hm
    obtain ⟨tk, al⟩ := M.alpha
    have hl8 := lt_len m hm16
    refine sx_unless (xt_is (xw_t (xw_or (xt_not (xt_val (k := true) (xe_isi (d := .str (lt m)) (t := "str") (xe_var 1) M.isinstance M.str boot_str' kit_str_str)))
      fun _ => xw_or1 (xt_gtN (i := (lt m).length) (j := c.n) (xe_lenS M.len (xe_var 1) (by omega)) (xe_ixT (d := .int (c.n : Int)) (xe_var 0) xe_int rfl)))) ?_) ?_
    · rw [decide_eq_false (by have := lt_fits c.n (by have := g.n4; omega) m hm; omega)]; rfl
    refine sx_unless (xt_not (xt_val (k := true) (xe_is (xe_allF (xs := (lt m).cps.toList) (g := fun ch => decide (ch ∈ (cutS ("abcdefgh" : Str) none (some (c.n : Int))).cps.toList)) M.all (xn_e (xn_lc (xs := (lt m).cps.toList) (enc := fun (ch : Nat) => .str ⟨#[ch]⟩) 2 scIsSet.nd (xi_signs (xe_var 1)) (blkOk_by (N := ["company", "value", "sign", "at"]) (sc := defScope sIsSet) (by decide +kernel))
      (fun _ _ _ _ _ ch hch => xe_inS (xe_var 2) (xe_sliceS (xe_globS al) (xe_ixT (d := .int (c.n : Int)) (xe_var 0) xe_int rfl) (by decide))) (by
        rw [Array.length_toList]; exact Nat.le_trans hl8 (by decide))))) (by rw [lt_in c.n (by have := g.n4; omega) m hm])))) ?_
    refine sx_rt rt (xe_is (xe_allF (xs := List.range ((lt m).length - 1)) (g := fun a => decide ([(lt m).cps.toList.getD a 0] < [(lt m).cps.toList.getD (a + 1) 0])) M.all (xn_e (xn_lc (xs := List.range ((lt m).length - 1)) (enc := fun (i : Nat) => .int (i : Int)) 3 scIsSet.nd
      (xi_rangeI M.range (xe_sub (i := ((lt m).length : Int)) (j := 1) (xe_lenS M.len (xe_var 1) (by omega)) xe_int) (by omega) (by omega)) (blkOk_by (N := ["company", "value", "sign", "at"]) (sc := defScope sIsSet) (by decide +kernel))
      (fun _ _ _ _ _ a ha => ?_) (by rw [List.length_range]; omega)))) (by rw [lt_asc m hm16]))
    have ha' := List.mem_range.mp ha
    have h1 : a < (lt m).cps.toList.length := by rw [Array.length_toList]; show a < (lt m).length; omega
    have h2 : a + 1 < (lt m).cps.toList.length := by rw [Array.length_toList]; show a + 1 < (lt m).length; omega
    exact xe_ltS (v := ⟨#[(lt m).cps.toList.getD a 0]⟩) (w := ⟨#[(lt m).cps.toList.getD (a + 1) 0]⟩) (xe_ixS (xe_var 1) (xe_var 3) (by omega) (atI_nat (get_getD _ _ _ h1)))
      (xe_ixS (xe_var 1) (xe_addN (i := a) (j := 1) (xe_var 3) xe_int) (by omega) (atI_nat (get_getD _ _ _ h2)))
structure KindOk (c : Co) (k : Nat × Nat) : Prop where
  m : k.1 < 2 ^ c.n
  s : k.2 < 2
def RisKind (ds : List D) (d : D) : Prop := ∃ (c : Co) (k : Nat × Nat), c ∈ comps ∧ KindOk c k ∧ ds = [encC c, encK k] ∧ d = .bool true
theorem ok_isKind (F : Fun K "is_kind" "is_kind" sIsKind f fd) (C1 : Callee P w K mg base 2 "within" Rwithin) (C2 : Callee P w K mg base 1 "tuple_of" RtupleOf) (C3 : Callee P w K mg base 1 "is_set" RisSet) : FnOk P w K mg base CX0 3 f fd ["company", "value"] (spD K RisKind) :=
  fn_d F scIsKind (by rintro _ _ ⟨c, m, _, _, rfl, rfl⟩; rfl) (by decide) fun cdv A outer s H E hr ds d hR G H0 Dn rt => by
    obtain ⟨c, k, hc, hk, rfl, rfl⟩ := hR
    have hr1 := hr.mono (show 1 ≤ 2 by decide)
    exact sx_rt rt (xe_and (k := true) (l := true) (xe_call C2 hr1 (xa3 (xe_var 1) xe_int xe_int) ⟨_, 2, 2, rfl, by simp, by simp, rfl⟩) fun _ =>
      xe_and (k := true) (l := true) (xe_call C3 hr1 (xa2 (xe_var 0) (xe_ixT (d := .str (lt k.1)) (xe_var 1) xe_int rfl)) ⟨c, k.1, hc, hk.m, rfl, rfl⟩) fun _ =>
      xe_one (xe_call C1 hr (xa3 (xe_ixT (d := .int (k.2 : Int)) (xe_var 1) xe_int rfl) xe_int xe_int) ⟨_, 0, 1, rfl, by omega, by have := hk.s; omega, rfl⟩))
def RneedKinds (ds : List D) (d : D) : Prop := ∃ (c : Co) (ks : List (Nat × Nat)), c ∈ comps ∧ (∀ k, k ∈ ks → KindOk c k) ∧ ks.length ≤ 12 ∧ ds = [encC c, .tuple (ks.map encK)] ∧ d = .none
theorem ok_needKinds (F : Fun K "need_kinds" "need_kinds" sNeedKinds f fd) (M : Nm mg) (C2 : Callee P w K mg base 1 "tuple_of" RtupleOf) (C3 : Callee P w K mg base 3 "is_kind" RisKind) : FnOk P w K mg base CX0 4 f fd ["company", "kinds"] (spD K RneedKinds) :=
  fn_d F scNeedKinds (by rintro _ _ ⟨c, m, _, _, _, rfl, rfl⟩; rfl) (by decide) fun cdv A outer s H E hr ds d hR G H0 Dn rt => by
    obtain ⟨c, ks, hc, hk, hl, rfl, rfl⟩ := hR
    have hr1 := hr.mono (show 1 ≤ 3 by decide)
    refine sx_unless (xt_not (xt_val (k := true) (xe_call C2 hr1 (xa3 (xe_var 1) xe_int xe_int) ⟨_, 0, 12, rfl, by omega, by rw [List.length_map]; omega, rfl⟩))) ?_
    refine sx_forG (xs := ks.zipIdx) (enc := fun x => .tuple [.int (x.2 : Nat), encK x.1]) (js := [2, 3]) (fun _ => [some (encC c), some (.tuple (ks.map encK)), none, none]) (fun _ => .no) (fun i x => [some (encC c), some (.tuple (ks.map encK)), some (.int (x.2 : Nat)), some (encK x.1)])
      PassesOwn.never rfl (xi_is (xi_enumT M.enumerate (xe_var 1)) (enumD_map _ _)) (pg_tup rfl (pgs_cons (pg_name (i := 2) scNeedKinds.nd rfl (.inl rfl)) (pgs_cons (pg_name (i := 3) scNeedKinds.nd rfl (.inl rfl)) pgs_nil)))
      (fun σ H H1 s => s) (fun _ => rfl) (fun _ _ _ h => by cases h) (fun i x hx => eg_pair 2 3) (fun i x H1 hx _ => ?_) ?_ (by intro _; rfl)
    · obtain ⟨hx1, hx2⟩ := zipIdx_at hx
      refine sx_unless (xt_not (xt_val (k := true) (xe_call C3 hr (xa2 (xe_var 0) (xe_var 3)) ⟨c, x.1, hc, hk _ (List.mem_of_getElem? hx1), rfl, rfl⟩))) ?_
      exact sx_nil fun σ H s => (Stt.forget (k := 3) (Stt.forget (k := 2) (ρ := [some (encC c), some (.tuple (ks.map encK)), none, some (encK x.1)]) s) (hk := rfl) : Stt _ _ _ [some (encC c), some (.tuple (ks.map encK)), none, none] _ _ _)
    · exact sx_end rt (fun a m => by cases m)
end
end DL
set_option Elab.async false
set_option linter.all false
set_option maxRecDepth 100000
set_option maxHeartbeats 4000000
namespace DL
open PySem PySem.Spec PyProof.Rows L2
/-! ### found[i] += e, an own list -/
section
variable {X : Cx}
def rIxN (K : PySem.W.Frag) : V → V → Hp → VK → Prop := fun x y H Q => ∃ p xs, ∃ j : Nat, ∃ v, x = .ref p ∧ y = .int (j : Int) ∧ SqL K H p xs ∧ xs[j]? = some v ∧ Q v H
theorem pget_list : PGet X (rIxN X.K) := by
  intro pins s σ H o i ov iv Q I ro ri h
  obtain ⟨p, xs, j, v, rfl, rfl, hq, he, q⟩ := h
  cases ro
  obtain ⟨t, rfl⟩ := ri
  obtain ⟨its, r, pl, hz⟩ := I.list hq
  obtain ⟨w, ew, rw'⟩ := r.get he
  have hj := (List.getElem?_eq_some_iff.mp he).1
  have hn := line63
  exact wpAny_getItem_list (x := w) pl.isList (by omega) (by omega) (by simpa using ew) ⟨v, H, I, rw', q⟩
variable {F : List Addr} {H0 : Hp} {ρ ρ' : Rho} {o : Own} {Dn : Ends} {e a b ix : Expr} {sts : List Stmt} {pos p tpos : Pos} {d : D} {ds : List D}
theorem sx_augL {i : Nat} {l : Addr} {n : Str} {j : Nat} {x y : Int} (hx : XE X ρ ix (.int (j : Int))) (he : XE X ρ e (.int y)) (hj : ds[j]? = some (.int x)) (h : SX X F H0 ρ (.lst i l (ds.set j (.int (x + y)))) sts Dn) (hN : X.N[i]? = some n := by rfl) (hv : Vis X.env.scope n := by first | exact Or.inl rfl | exact Or.inr (Or.inl rfl) | exact Or.inr (Or.inr rfl))
    (hdb : (n == ("__debug__" : Str)) = false := by decide) (hcd : (n == ("__classdict__" : Str)) = false := by decide)
    (ha : ∀ ov iv new, augStore ix ov iv new = (do holding [new, ov, iv] (setItem ov iv new); release [new, ov, iv] []; pure .next) := by intros; rfl) :
    SX X F H0 ρ (.lst i l ds) (.AugAssign (.Subscript (.Name n p) ix tpos) .Add e pos :: sts) Dn := fun σ H s => by
  refine cSs_cons (ps_augS (pe_var hN hv hdb hcd) pE pget_list pE ip_add set_list ha) ?_
  obtain ⟨h1, h2, vs, h3, h4⟩ := s.own
  refine ⟨.ref l, h2, hx _ σ H s.env s.lives _ fun v H1 s1 r1 => ?_⟩
  rw [r1.i]
  obtain ⟨u, hu, du⟩ := DpAll.get h4 hj
  cases du
  refine ⟨l, vs, j, .int x, rfl, rfl, .inl (.inl (s1 l _ h3)), hu, he _ σ H1 (s.env.same s1) (s.lives.mono s1) _ fun w H2 s2 r2 => ⟨x, y, rfl, r2.i, l, vs, (j : Int), j, rfl, rfl, (s1.trans s2) l _ h3, ?_, h _ _ ?_⟩⟩
  · have := (List.getElem?_eq_some_iff.mp hu).1
    unfold ixN
    rw [if_pos (by omega), if_pos (by omega)]
    simp
  have s12 := s1.trans s2
  have hid' : hid (l :: F) (upd H2 l (.lst (vs.set j (.int (x + y))))) = hid (l :: F) H2 := by
    funext a
    by_cases m : a ∈ l :: F
    · rw [hid_in m, hid_in m]
    · rw [hid_out m, hid_out m, upd_ne fun z => m (by simp [z])]
  refine ⟨?_, fun x u n q => ?_, fun a m => ?_, h1, h2, _, upd_same, ?_⟩
  · have e1 : EnvOk X.K (l :: F) H2 σ ρ := (s.grow s12).env
    exact ⟨e1.len, fun i d q => by
      obtain ⟨u, g1, g2⟩ := e1.at_ i d q
      refine ⟨u, g1, ?_⟩
      show Rp X.K (hid (l :: F) (upd H2 l (.lst (vs.set j (.int (_ + y)))))) u d
      rw [hid']; exact g2⟩
  · rw [upd_ne (by simpa [Own.ads] using n)]
    exact s12 x u (s.same x u n q)
  · rw [upd_ne (show a ≠ l from fun z => h1 (by rw [← z]; exact m))]
    exact s.live.mono s12 a m
  · rw [hid']
    exact DpAll.set (.int _) j (dpAll_mono (hid_mono s12) h4)
end
theorem Stt.lstIs {K : PySem.W.Frag} {F : List Addr} {H0 H : Hp} {ρ : Rho} {i : Nat} {l : Addr} {ds es : List D} {σ : L2.St} (h : Stt K F H0 ρ (.lst i l ds) σ H) (e : ds = es) : Stt K F H0 ρ (.lst i l es) σ H := e ▸ h
/-! ### the mirrors -/
/-- for each letter the mask of its friends -/
def foaStep (l : List Nat) (p : Nat × Nat) : List Nat := (l.set p.1 (l.getD p.1 0 + 1 <<< p.2)).set p.2 ((l.set p.1 (l.getD p.1 0 + 1 <<< p.2)).getD p.2 0 + 1 <<< p.1)
def foa (c : Co) : List Nat := c.ps.foldl foaStep (List.replicate c.n 0)
def crossedN (c : Co) (a b : Nat) : Nat := (c.ps.map fun p => ((a >>> p.2) &&& (b >>> p.1)) &&& 1).sum
def btw (c : Co) (a b : Nat) : Nat := (crossedN c a b + crossedN c b a) % 2
def seenN (c : Co) (m : Nat) (k : Nat) : Nat := (List.range k).foldl (fun s a => if ((m >>> a) &&& 1) == 1 then s ^^^ (foa c).getD a 0 else s) 0
def silentN (c : Co) : List Nat := (List.range (1 <<< c.n)).filter fun m => seenN c m c.n == 0
def intsD (l : List Nat) : List D := l.map fun (n : Nat) => .int (n : Int)
theorem foa_fits : (comps.all fun c => decide ((foa c).length = c.n) && (foa c).all fun m => decide (m < 16)) = true := by decide +kernel
theorem seen_fits : (comps.all fun c => (List.range 16).all fun m => (List.range 5).all fun k => decide (seenN c m k < 16)) = true := by decide +kernel
theorem foa_ok {c : Co} (h : c ∈ comps) : (foa c).length = c.n ∧ ∀ m, m ∈ foa c → m < 16 := by
  have := List.all_eq_true.mp foa_fits c h
  simpa using this
theorem seen_ok {c : Co} (h : c ∈ comps) {m k : Nat} (hm : m < 16) (hk : k < 5) : seenN c m k < 16 := by
  have := List.all_eq_true.mp (List.all_eq_true.mp (List.all_eq_true.mp seen_fits c h) m (List.mem_range.mpr hm)) k (List.mem_range.mpr hk)
  simpa using this
theorem intsD_at {l : List Nat} {i : Nat} (h : i < l.length) : (intsD l)[i]? = some (.int (l.getD i 0 : Int)) := by
  unfold intsD
  rw [List.getElem?_map, get_getD l i 0 h]
  rfl
theorem intsD_set (l : List Nat) (i v : Nat) : (intsD l).set i (.int (v : Int)) = intsD (l.set i v) := by
  unfold intsD
  rw [List.map_set]
theorem intsD_len (l : List Nat) : (intsD l).length = l.length := List.length_map _
theorem intsD_app (l : List Nat) (v : Nat) : intsD l ++ [.int (v : Int)] = intsD (l ++ [v]) := by
  unfold intsD
  rw [List.map_append]
  rfl
theorem foaStep_len (l : List Nat) (p : Nat × Nat) : (foaStep l p).length = l.length := by unfold foaStep; rw [List.length_set, List.length_set]
theorem foaFold_len : ∀ (ps : List (Nat × Nat)) (l : List Nat), (ps.foldl foaStep l).length = l.length
  | [], l => rfl
  | p :: ps, l => by rw [List.foldl_cons, foaFold_len ps, foaStep_len]
abbrev sMaskOf : Stmt := topS 17
abbrev sLettersOf : Stmt := topS 18
abbrev sFriendsOfAll : Stmt := topS 19
abbrev sCrossed : Stmt := topS 20
abbrev sInner : Stmt := topS 21
abbrev sAllKinds : Stmt := topS 22
abbrev sBetween : Stmt := topS 24
abbrev sSilent : Stmt := topS 26
abbrev sRank : Stmt := topS 27
theorem scMaskOf : FnScope ["letters", "sign"] ["letters"] (defScope sMaskOf) := ⟨rfl, rfl, rfl, by decide +kernel, rfl, by decide +kernel, by decide +kernel⟩
theorem scLettersOf : FnScope ["mask", "at"] ["mask"] (defScope sLettersOf) := ⟨rfl, rfl, rfl, by decide +kernel, rfl, by decide +kernel, by decide +kernel⟩
theorem scFriendsOfAll : FnScope ["company", "found", "one", "other"] ["company"] (defScope sFriendsOfAll) := ⟨rfl, rfl, rfl, by decide +kernel, rfl, by decide +kernel, by decide +kernel⟩
theorem scCrossed : FnScope ["company", "one", "other", "first", "second"] ["company", "one", "other"] (defScope sCrossed) := ⟨rfl, rfl, rfl, by decide +kernel, rfl, by decide +kernel, by decide +kernel⟩
theorem scInner : FnScope ["kind"] ["kind"] (defScope sInner) := ⟨rfl, rfl, rfl, by decide +kernel, rfl, by decide +kernel, by decide +kernel⟩
theorem scBetween : FnScope ["company", "one", "other"] ["company", "one", "other"] (defScope sBetween) := ⟨rfl, rfl, rfl, by decide +kernel, rfl, by decide +kernel, by decide +kernel⟩
theorem scSilent : FnScope ["company", "told", "found", "mask", "seen", "at"] ["company"] (defScope sSilent) := ⟨rfl, rfl, rfl, by decide +kernel, rfl, by decide +kernel, by decide +kernel⟩
section
variable {P : Program} {w : World} {K : PySem.W.Frag} {mg : Str → Option Value} {base : Heap} {f : Addr} {fd : FuncData} {k : Nat}
def RmaskOf (ds : List D) (d : D) : Prop := ∃ m : Nat, m < 16 ∧ ds = [.str (lt m)] ∧ d = .int (m : Int)
theorem ok_maskOf (F : Fun K "mask_of" "mask_of" sMaskOf f fd) (M : Nm mg) : FnOk P w K mg base CX0 1 f fd ["letters"] (spD K RmaskOf) :=
  fn_d F scMaskOf (by rintro _ _ ⟨m, _, rfl, rfl⟩; rfl) (by decide) fun cdv A outer s H E hr ds d hR G H0 Dn rt => by
    obtain ⟨m, hm, rfl, rfl⟩ := hR
    obtain ⟨tk, al⟩ := M.alpha
    refine sx_rt rt (xe_is (xe_sumF (xs := (lt m).cps.toList) (g := fun ch => 1 <<< (ch - 97)) M.sum (xn_e (xn_lc (xs := (lt m).cps.toList) (enc := fun (ch : Nat) => .str ⟨#[ch]⟩) 1 scMaskOf.nd (xi_signs (xe_var 0)) (blkOk_by (N := ["letters", "sign"]) (sc := defScope sMaskOf) (by decide +kernel))
      (fun _ _ _ _ _ ch hch => ?_) (by rw [Array.length_toList]; exact Nat.le_trans (lt_len m hm) (by decide))))) (by rw [lt_sum m hm]))
    have h1 := List.all_eq_true.mp (lt_ch m hm) ch hch
    have h1 := of_decide_eq_true h1
    have e : 97 + (ch - 97) = ch := by omega
    have o := occ_ch (ch - 97) (by omega)
    rw [e] at o
    exact xe_shlN (i := 1) (j := ch - 97) xe_int (xe_sindex (xe_globS al) (xe_var 1) o) (by decide) (by omega)
def RlettersOf (ds : List D) (d : D) : Prop := ∃ m : Nat, m < 16 ∧ ds = [.int (m : Int)] ∧ d = .str (lt m)
theorem ok_lettersOf (F : Fun K "letters_of" "letters_of" sLettersOf f fd) (M : Nm mg) : FnOk P w K mg base CX0 1 f fd ["mask"] (spD K RlettersOf) :=
  fn_d F scLettersOf (by rintro _ _ ⟨m, _, rfl, rfl⟩; rfl) (by decide) fun cdv A outer s H E hr ds d hR G H0 Dn rt => by
    obtain ⟨m, hm, rfl, rfl⟩ := hR
    obtain ⟨tk, al⟩ := M.alpha
    obtain ⟨tk2, ml⟩ := M.letters
    refine sx_rt rt (xe_is (xe_join (ys := ((List.range 8).filter fun a => ((m >>> a) &&& 1) == 1).map fun a => (⟨#[97 + a]⟩ : Str)) xe_str (xe_is (xn_e (xn_lcif (xs := List.range 8) (enc := fun (i : Nat) => .int (i : Int)) (f := fun a => ((m >>> a) &&& 1) == 1) (h := fun a => .str ⟨#[97 + a]⟩) 1 scLettersOf.nd (xi_rangeN (n := 8) M.range (xe_globI ml) (by decide)) (blkOk_by (N := ["mask", "at"]) (sc := defScope sLettersOf) (by decide +kernel))
      (fun _ _ _ _ _ a ha => ?_) (fun _ _ _ _ _ a ha _ => ?_) (by decide))) (by rw [map_str])) ?_) (by rw [lt_join m hm]))
    · exact xt_eqN (j := 1) (xe_bandN (j := 1) (xe_shrN (xe_var 0) (xe_var 1)) xe_int) xe_int
    · exact xe_ixS (xe_globS al) (xe_var 1) (by decide) (atI_nat (at_alpha a (List.mem_range.mp ha)))
    · have e : ∀ l : List Nat, ((l.map fun a => (⟨#[97 + a]⟩ : Str)).map (·.length)).sum = l.length := fun l => by
        induction l with
        | nil => rfl
        | cons a l ih => rw [List.map_cons, List.map_cons, List.sum_cons, ih]; show 1 + l.length = _; rw [List.length_cons]; omega
      rw [e]
      have : ((List.range 8).filter fun a => ((m >>> a) &&& 1) == 1).length ≤ 8 := Nat.le_trans (List.length_filter_le _ _) (by simp)
      show _ + _ * 0 ≤ _
      omega
def Rcrossed (ds : List D) (d : D) : Prop := ∃ (c : Co) (a b : Nat), c ∈ comps ∧ ds = [encC c, .int (a : Int), .int (b : Int)] ∧ d = .int (crossedN c a b : Int)
theorem ok_crossed (F : Fun K "crossed" "crossed" sCrossed f fd) (M : Nm mg) : FnOk P w K mg base CX0 1 f fd ["company", "one", "other"] (spD K Rcrossed) :=
  fn_d F scCrossed (by rintro _ _ ⟨c, a, b, _, rfl, rfl⟩; rfl) (by decide) fun cdv A outer s H E hr ds d hR G H0 Dn rt => by
    obtain ⟨c, a, b, hc, rfl, rfl⟩ := hR
    have g := good_of hc
    refine sx_rt rt (xe_sumF (xs := c.ps) (g := fun p => ((a >>> p.2) &&& (b >>> p.1)) &&& 1) M.sum (xn_e (xn_lc2n (xs := c.ps) 3 4 (encA := fun p => .int (p.1 : Int)) (encB := fun p => .int (p.2 : Int)) scCrossed.nd (xi_tup (xe_ixT (d := .tuple (c.ps.map encP)) (xe_var 0) xe_int rfl)) (blkOk_by (N := ["company", "one", "other", "first", "second"]) (sc := defScope sCrossed) (by decide +kernel))
      (fun _ _ _ _ _ p hp => ?_) (by have := g.l6; omega))))
    exact xe_bandN (j := 1) (xe_bandN (xe_shrN (xe_var 1) (xe_var 4)) (xe_shrN (xe_var 2) (xe_var 3))) xe_int
def Rinner (ds : List D) (d : D) : Prop := ∃ k : Nat × Nat, k.1 < 16 ∧ ds = [encK k] ∧ d = .tuple [.int (k.1 : Int), .int (k.2 : Int)]
theorem ok_inner (F : Fun K "inner" "inner" sInner f fd) (C : Callee P w K mg base 1 "mask_of" RmaskOf) : FnOk P w K mg base CX0 2 f fd ["kind"] (spD K Rinner) :=
  fn_d F scInner (by rintro _ _ ⟨c, _, rfl, rfl⟩; rfl) (by decide) fun cdv A outer s H E hr ds d hR G H0 Dn rt => by
    obtain ⟨k, hk, rfl, rfl⟩ := hR
    exact sx_rt rt (xe_tup (xa2 (xe_call C hr (xa1 (xe_ixT (d := .str (lt k.1)) (xe_var 0) xe_int rfl)) ⟨k.1, hk, rfl, rfl⟩) (xe_ixT (d := .int (k.2 : Int)) (xe_var 0) xe_int rfl)))
def Rbetween (ds : List D) (d : D) : Prop := ∃ (c : Co) (a b : Nat), c ∈ comps ∧ ds = [encC c, .int (a : Int), .int (b : Int)] ∧ d = .int (btw c a b : Int)
theorem ok_between (F : Fun K "between" "between" sBetween f fd) (C : Callee P w K mg base 1 "crossed" Rcrossed) : FnOk P w K mg base CX0 2 f fd ["company", "one", "other"] (spD K Rbetween) :=
  fn_d F scBetween (by rintro _ _ ⟨c, a, b, _, rfl, rfl⟩; rfl) (by decide) fun cdv A outer s H E hr ds d hR G H0 Dn rt => by
    obtain ⟨c, a, b, hc, rfl, rfl⟩ := hR
    exact sx_rt rt (xe_modN (j := 2) (xe_addN (xe_call C hr (xa3 (xe_var 0) (xe_var 1) (xe_var 2)) ⟨c, a, b, hc, rfl, rfl⟩) (xe_call C hr (xa3 (xe_var 0) (xe_var 2) (xe_var 1)) ⟨c, b, a, hc, rfl, rfl⟩)) xe_int (by decide))
def RfriendsOfAll (ds : List D) (d : D) : Prop := ∃ c : Co, c ∈ comps ∧ ds = [encC c] ∧ d = .list (intsD (foa c))
theorem ok_friendsOfAll (F : Fun K "friends_of_all" "friends_of_all" sFriendsOfAll f fd) : FnOk P w K mg base CX0 1 f fd ["company"] (spD K RfriendsOfAll) :=
  fn_d F scFriendsOfAll (by rintro _ _ ⟨c, _, rfl, rfl⟩; rfl) (by decide) fun cdv A outer s H E hr ds d hR G H0 Dn rt => by
    obtain ⟨c, hc, rfl, rfl⟩ := hR
    have g := good_of hc
    have n4 := g.n4
    refine sx_own 1 scFriendsOfAll.nd (xn_is (ds' := intsD (List.replicate c.n 0)) (xn_rep (xn_lst (xa1 xe_int)) (xe_ixT (d := .int (c.n : Int)) (xe_var 0) xe_int rfl) (by omega)) (by
      rw [Int.toNat_natCast]; unfold intsD; rw [List.map_replicate]; rfl)) fun l hl => ?_
    refine sx_forG (xs := c.ps) (enc := encP) (js := [2, 3]) (fun _ => [some (encC c), none, none, none]) (fun i => .lst 1 l (intsD ((c.ps.take i).foldl foaStep (List.replicate c.n 0)))) (fun i p => [some (encC c), none, some (.int (p.1 : Int)), some (.int (p.2 : Int))])
      PassesOwn.never rfl (xi_tup (xe_ixT (d := .tuple (c.ps.map encP)) (xe_var 0) xe_int rfl)) (pg_tup rfl (pgs_cons (pg_name (i := 2) scFriendsOfAll.nd rfl (.inl rfl)) (pgs_cons (pg_name (i := 3) scFriendsOfAll.nd rfl (.inl rfl)) pgs_nil)))
      (fun σ H H1 s => s) (fun _ => rfl) (fun _ j hj => by simp at hj; rcases hj with rfl | rfl <;> (intro h; cases h)) (fun i x hx => eg_pair 2 3) (fun i x H1 hx _ => ?_) ?_ (by intro _; rfl)
    · have hp := g.lt x (List.mem_of_getElem? hx)
      have len : ((c.ps.take i).foldl foaStep (List.replicate c.n 0)).length = c.n := by rw [foaFold_len, List.length_replicate]
      have step : (c.ps.take (i + 1)).foldl foaStep (List.replicate c.n 0) = foaStep ((c.ps.take i).foldl foaStep (List.replicate c.n 0)) x := by
        rw [List.take_add_one, hx, List.foldl_append]; rfl
      generalize ((c.ps.take i).foldl foaStep (List.replicate c.n 0)) = acc at len step
      refine sx_augL (j := x.1) (x := (acc.getD x.1 0 : Int)) (y := ((1 <<< x.2 : Nat) : Int)) (xe_var 2) (xe_shlN (i := 1) xe_int (xe_var 3) (by decide) (by omega)) (intsD_at (by omega)) ?_
      rw [← Int.natCast_add, intsD_set]
      refine sx_augL (j := x.2) (x := ((acc.set x.1 (acc.getD x.1 0 + 1 <<< x.2)).getD x.2 0 : Int)) (y := ((1 <<< x.1 : Nat) : Int)) (xe_var 3) (xe_shlN (i := 1) xe_int (xe_var 2) (by decide) (by omega)) (intsD_at (by rw [List.length_set]; omega)) ?_
      rw [← Int.natCast_add, intsD_set]
      refine sx_nil fun σ H s => ?_
      show Stt _ _ _ _ (.lst 1 l (intsD ((c.ps.take (i + 1)).foldl foaStep (List.replicate c.n 0)))) σ H
      rw [step]
      exact Stt.forget (k := 3) (Stt.forget (k := 2) (ρ := [some (encC c), none, none, some (.int (x.2 : Int))]) s)
    · rw [List.take_length]
      exact sx_rtO rt (by intro a m; simp [Own.ads] at m; rw [m]; exact hl) (xe_var 1)
def RsilentMasks (ds : List D) (d : D) : Prop := ∃ c : Co, c ∈ comps ∧ ds = [encC c] ∧ d = .list (intsD (silentN c))
theorem shl_pow (n : Nat) : 1 <<< n = 2 ^ n := by rw [Nat.shiftLeft_eq, Nat.one_mul]
theorem ok_silentMasks (F : Fun K "silent_masks" "silent_masks" sSilent f fd) (M : Nm mg) (C : Callee P w K mg base 1 "friends_of_all" RfriendsOfAll) : FnOk P w K mg base CX0 2 f fd ["company"] (spD K RsilentMasks) :=
  fn_d F scSilent (by rintro _ _ ⟨c, _, rfl, rfl⟩; rfl) (by decide) fun cdv A outer s H E hr ds d hR G H0 Dn rt => by
    obtain ⟨c, hc, rfl, rfl⟩ := hR
    have g := good_of hc
    have n4 := g.n4
    have fo := foa_ok hc
    have hpow : 1 <<< c.n ≤ 16 := by rw [shl_pow]; exact Nat.pow_le_pow_right (n := 2) (by decide) n4
    refine sx_parN (ds := []) 1 2 scSilent.nd (xe_call C hr (xa1 (xe_var 0)) ⟨c, hc, rfl, rfl⟩) (xn_lst xa_nil) fun l hl => ?_
    refine sx_for (xs := List.range (1 <<< c.n)) (enc := fun (i : Nat) => .int (i : Int)) 3 (fun _ => [some (encC c), some (.list (intsD (foa c))), none, none, none, none]) (fun i => .lst 2 l (intsD ((List.range i).filter fun m => seenN c m c.n == 0))) scSilent.nd
      (xi_rangeN M.range (xe_shlN (i := 1) xe_int (xe_ixT (d := .int (c.n : Int)) (xe_var 0) xe_int rfl) (by decide) (by omega)) (by omega)) (fun σ H H1 s => s) (fun _ => rfl) (fun _ => by intro h; cases h) (fun i m H1 hx _ => ?_) ?_
    · have hm : m < 16 := by
        have := List.mem_range.mp (List.mem_of_getElem? hx)
        omega
      have hmi : m = i := by
        have hi : i < 1 <<< c.n := by have := (List.getElem?_eq_some_iff.mp hx).1; rw [List.length_range] at this; exact this
        rw [List.getElem?_range hi] at hx; cases hx; rfl
      refine sx_setF (d := .int 0) 4 scSilent.nd xe_int rfl ?_ (ho := by intro h; cases h)
      refine sx_for (xs := List.range c.n) (enc := fun (i : Nat) => .int (i : Int)) 5 (fun j => [some (encC c), some (.list (intsD (foa c))), none, some (.int (m : Int)), some (.int (seenN c m j : Int)), none]) (fun _ => .lst 2 l (intsD ((List.range i).filter fun m => seenN c m c.n == 0))) scSilent.nd
        (xi_rangeN M.range (xe_ixT (d := .int (c.n : Int)) (xe_var 0) xe_int rfl) (by omega)) (fun σ H H1 s => s) (fun _ => rfl) (fun _ => by intro h; cases h) (fun j a H1 hx2 _ => ?_) ?_
      · have hja : a = j ∧ j < c.n := by
          have hi : j < c.n := by have := (List.getElem?_eq_some_iff.mp hx2).1; rw [List.length_range] at this; exact this
          rw [List.getElem?_range hi] at hx2; cases hx2; exact ⟨rfl, hi⟩
        obtain ⟨rfl, hj⟩ := hja
        have step : seenN c m (a + 1) = if ((m >>> a) &&& 1) == 1 then seenN c m a ^^^ (foa c).getD a 0 else seenN c m a := by
          unfold seenN
          rw [List.range_succ, List.foldl_append]; rfl
        refine sx_if (k := ((m >>> a) &&& 1) == 1) (xt_eqN (j := 1) (xe_bandN (j := 1) (xe_shrN (xe_var 3) (xe_var 5)) xe_int) xe_int) (fun ht => ?_) fun ht => ?_
        · rw [ht] at step
          simp only [if_true] at step
          refine sx_setF (d := .int ((seenN c m a ^^^ (foa c).getD a 0 : Nat) : Int)) 4 scSilent.nd (xe_bxorN (xe_var 4) (xe_ixL (xe_var 1) (xe_var 5) (atI_nat (intsD_at (by rw [fo.1]; exact hj)))) (seen_ok hc hm (by omega)) (fo.2 _ ?_)) rfl ?_ (ho := by intro h; cases h)
          · rw [List.getD_eq_getElem?_getD, List.getElem?_eq_getElem (by rw [fo.1]; exact hj)]
            exact List.getElem_mem _
          · refine sx_k (sx_nil fun σ H s => ?_)
            show Stt _ _ _ [some (encC c), some (.list (intsD (foa c))), none, some (.int (m : Int)), some (.int (seenN c m (a + 1) : Int)), none] _ σ H
            rw [step]
            exact Stt.forget (k := 5) s
        · rw [ht] at step
          simp only [Bool.false_eq_true, if_false] at step
          refine sx_k (sx_nil fun σ H s => ?_)
          show Stt _ _ _ [some (encC c), some (.list (intsD (foa c))), none, some (.int (m : Int)), some (.int (seenN c m (a + 1) : Int)), none] _ σ H
          rw [step]
          exact Stt.forget (k := 5) s
      · rw [List.length_range]
        have step : (List.range (i + 1)).filter (fun m => seenN c m c.n == 0) = if seenN c m c.n == 0 then (List.range i).filter (fun m => seenN c m c.n == 0) ++ [m] else (List.range i).filter (fun m => seenN c m c.n == 0) := by
          rw [List.range_succ, List.filter_append, List.filter_cons, hmi]
          cases seenN c i c.n == 0 <;> simp
        refine sx_if (k := seenN c m c.n == 0) (xt_eqN (j := 0) (xe_var 4) xe_int) (fun ht => ?_) fun ht => ?_
        · rw [ht] at step
          simp only [if_true] at step
          refine sx_app (d := .int (m : Int)) (xe_var 3) ?_ (by
            rw [intsD_len]
            have := List.length_filter_le (fun m => seenN c m c.n == 0) (List.range i)
            rw [List.length_range] at this
            omega)
          refine sx_k (sx_nil fun σ H s => ?_)
          show Stt _ _ _ [some (encC c), some (.list (intsD (foa c))), none, none, none, none] (.lst 2 l (intsD ((List.range (i + 1)).filter fun m => seenN c m c.n == 0))) σ H
          rw [step, ← intsD_app]
          exact Stt.forget (k := 4) (Stt.forget (k := 3) (ρ := [some (encC c), some (.list (intsD (foa c))), none, none, some (.int (seenN c m c.n : Int)), none]) s)
        · rw [ht] at step
          simp only [Bool.false_eq_true, if_false] at step
          refine sx_k (sx_nil fun σ H s => ?_)
          show Stt _ _ _ [some (encC c), some (.list (intsD (foa c))), none, none, none, none] (.lst 2 l (intsD ((List.range (i + 1)).filter fun m => seenN c m c.n == 0))) σ H
          rw [step]
          exact Stt.forget (k := 4) (Stt.forget (k := 3) (ρ := [some (encC c), some (.list (intsD (foa c))), none, none, some (.int (seenN c m c.n : Int)), none]) s)
    · rw [List.length_range]
      exact sx_rtO rt (by intro a m; simp [Own.ads] at m; rw [m]; exact hl) (xe_var 2)
end
end DL
set_option Elab.async false
set_option linter.all false
set_option maxRecDepth 100000
set_option maxHeartbeats 4000000
namespace DL
open PySem PySem.Spec PyProof.Rows L2
/-! ### insertion sort by a number -/
def ins {α : Type} (key : α → Nat) (x : α) : List α → List α
  | [] => [x]
  | y :: r => if key x ≤ key y then x :: y :: r else y :: ins key x r
def isort {α : Type} (key : α → Nat) : List α → List α
  | [] => []
  | x :: r => ins key x (isort key r)
theorem ins_perm {α : Type} (key : α → Nat) (x : α) : ∀ l : List α, (ins key x l).Perm (x :: l)
  | [] => .refl _
  | y :: r => by
    unfold ins
    split
    · exact .refl _
    · exact ((ins_perm key x r).cons y).trans (.swap x y r)
theorem isort_perm {α : Type} (key : α → Nat) : ∀ l : List α, (isort key l).Perm l
  | [] => .refl _
  | x :: r => (ins_perm key x _).trans ((isort_perm key r).cons x)
theorem ins_sorted {α : Type} (key : α → Nat) (x : α) : ∀ l : List α, l.Pairwise (fun a b => key a ≤ key b) → (ins key x l).Pairwise (fun a b => key a ≤ key b)
  | [], _ => by simp [ins]
  | y :: r, h => by
    unfold ins
    split
    · rename_i hxy
      refine List.pairwise_cons.mpr ⟨fun z hz => ?_, h⟩
      rcases List.mem_cons.mp hz with e | hz
      · rw [e]; exact hxy
      · exact Nat.le_trans hxy ((List.pairwise_cons.mp h).1 z hz)
    · rename_i hxy
      refine List.pairwise_cons.mpr ⟨fun z hz => ?_, ins_sorted key x r (List.pairwise_cons.mp h).2⟩
      rcases List.mem_cons.mp ((ins_perm key x r).mem_iff.mp hz) with e | hz
      · rw [e]; omega
      · exact (List.pairwise_cons.mp h).1 z hz
theorem isort_sorted {α : Type} (key : α → Nat) : ∀ l : List α, (isort key l).Pairwise (fun a b => key a ≤ key b)
  | [] => .nil
  | x :: r => ins_sorted key x _ (isort_sorted key r)
theorem isort_strict {α : Type} (key : α → Nat) {l : List α} (hn : l.Nodup) (hi : ∀ a, a ∈ l → ∀ b, b ∈ l → key a = key b → a = b) : (isort key l).Pairwise (fun a b => key a < key b) := by
  have h1 := isort_sorted key l
  have h2 : (isort key l).Nodup := (isort_perm key l).nodup_iff.mpr hn
  have m : ∀ a, a ∈ isort key l → a ∈ l := fun a h => (isort_perm key l).mem_iff.mp h
  refine List.Pairwise.imp_of_mem (R := fun a b => key a ≤ key b ∧ a ≠ b) (fun {a b} ha hb h => ?_) (List.Pairwise.and h1 h2)
  have : key a ≠ key b := fun e => h.2 (hi a (m a ha) b (m b hb) e)
  have := h.1
  omega
theorem isort_len {α : Type} (key : α → Nat) (l : List α) : (isort key l).length = l.length := (isort_perm key l).length_eq
theorem isort_mem {α : Type} (key : α → Nat) {l : List α} {x : α} : x ∈ isort key l ↔ x ∈ l := (isort_perm key l).mem_iff
theorem nodup_len : ∀ (n : Nat) (l : List Nat), l.Nodup → (∀ x, x ∈ l → x < n) → l.length ≤ n
  | 0, l, _, h => by
    cases l with
    | nil => exact Nat.le_refl _
    | cons x r => exact absurd (h x List.mem_cons_self) (by omega)
  | n + 1, l, hn, h => by
    by_cases m : n ∈ l
    · have h1 := nodup_len n (l.erase n) (hn.erase n) fun x hx => by
        have := (List.Nodup.mem_erase_iff hn).mp hx
        have := h x this.2
        omega
      have := List.length_erase_of_mem m
      omega
    · have h1 := nodup_len n l hn fun x hx => by
        have := h x hx
        have : x ≠ n := fun e => m (e ▸ hx)
        omega
      omega

/-! ### spans of masks -/
def toI (l : List Nat) : List Int := l.map fun (n : Nat) => (n : Int)
def addN (l : List Nat) (k : Nat) : List Nat := if k ∈ l then l else l ++ [k]
theorem toI_mem {l : List Nat} {k : Nat} : (k : Int) ∈ toI l ↔ k ∈ l := by
  unfold toI
  constructor
  · intro h
    obtain ⟨a, ha, e⟩ := List.mem_map.mp h
    have : a = k := by omega
    rw [← this]; exact ha
  · intro h; exact List.mem_map.mpr ⟨k, h, rfl⟩
theorem toI_add (l : List Nat) (k : Nat) : addKey (toI l) (k : Int) = toI (addN l k) := by
  unfold addKey addN
  by_cases h : k ∈ l
  · rw [if_pos (toI_mem.mpr h), if_pos h]
  · rw [if_neg (fun z => h (toI_mem.mp z)), if_neg h]
    unfold toI
    rw [List.map_append]
    rfl
theorem toI_adds (more : List Nat) : ∀ l : List Nat, (toI more).foldl addKey (toI l) = toI (more.foldl addN l) := by
  induction more with
  | nil => intro l; rfl
  | cons k more ih =>
    intro l
    show (toI more).foldl addKey (addKey (toI l) (k : Int)) = _
    rw [toI_add, ih]
    rfl
theorem intsD_toI (l : List Nat) : (toI l).map PyData.int = intsD l := by unfold toI intsD; rw [List.map_map]; rfl
theorem toI_len (l : List Nat) : (toI l).length = l.length := List.length_map _
/-- the dict of sums behind one more mask -/
def spanStep (f : List Nat) (m : Nat) : List Nat := if m ∈ f then f else ((f.map (· ^^^ m)).foldl addN []).foldl addN f
def spanN (ms : List Nat) : List Nat := ms.foldl spanStep [0]
structure SpanOk (f : List Nat) : Prop where
  nd : f.Nodup
  lt : ∀ m, m ∈ f → m < 16
  z : 0 ∈ f
theorem SpanOk.len {f : List Nat} (h : SpanOk f) : f.length ≤ 16 := nodup_len 16 f h.nd h.lt
theorem SpanOk.ne {f : List Nat} (h : SpanOk f) : f ≠ [] := fun e => by have := h.z; rw [e] at this; cases this
theorem addN_nd {l : List Nat} (h : l.Nodup) (k : Nat) : (addN l k).Nodup := by
  unfold addN
  split
  · exact h
  · rename_i hk
    refine List.nodup_append.mpr ⟨h, by simp, fun a ha b hb => ?_⟩
    rw [List.mem_singleton.mp hb]
    exact fun e => hk (e ▸ ha)
theorem addN_mem {l : List Nat} {k x : Nat} : x ∈ addN l k ↔ x ∈ l ∨ x = k := by
  unfold addN
  split
  · rename_i hk
    exact ⟨.inl, fun h => h.elim id fun e => e ▸ hk⟩
  · rw [List.mem_append, List.mem_singleton]
theorem adds_nd (more : List Nat) : ∀ {l : List Nat}, l.Nodup → (more.foldl addN l).Nodup := by
  induction more with
  | nil => intro l h; exact h
  | cons k more ih => intro l h; exact ih (addN_nd h k)
theorem adds_mem (more : List Nat) : ∀ {l : List Nat} {x : Nat}, x ∈ more.foldl addN l ↔ x ∈ l ∨ x ∈ more := by
  induction more with
  | nil => intro l x; simp
  | cons k more ih =>
    intro l x
    rw [List.foldl_cons, ih, addN_mem, List.mem_cons, or_assoc]
theorem xor_16 {a b : Nat} (ha : a < 16) (hb : b < 16) : a ^^^ b < 16 := Nat.xor_lt_two_pow (n := 4) ha hb
theorem spanStep_ok {f : List Nat} {m : Nat} (h : SpanOk f) (hm : m < 16) : SpanOk (spanStep f m) := by
  unfold spanStep
  split
  · exact h
  · refine ⟨adds_nd _ h.nd, fun x hx => ?_, (adds_mem _).mpr (.inl h.z)⟩
    rcases (adds_mem _).mp hx with hx | hx
    · exact h.lt x hx
    · rcases (adds_mem _).mp hx with hx | hx
      · cases hx
      · obtain ⟨a, ha, rfl⟩ := List.mem_map.mp hx
        exact xor_16 (h.lt a ha) hm
theorem spanFold_ok : ∀ {ms : List Nat} {f : List Nat}, SpanOk f → (∀ m, m ∈ ms → m < 16) → SpanOk (ms.foldl spanStep f)
  | [], _, h, _ => h
  | m :: ms, f, h, hm => spanFold_ok (ms := ms) (f := spanStep f m) (spanStep_ok h (hm m List.mem_cons_self)) fun x hx => hm x (List.mem_cons_of_mem _ hx)
theorem spanN_ok {ms : List Nat} (hm : ∀ m, m ∈ ms → m < 16) : SpanOk (spanN ms) := spanFold_ok ⟨by simp, by simp, by simp⟩ hm
def sortN (l : List Nat) : List Nat := isort id l
theorem sortN_strict {l : List Nat} (h : l.Nodup) : (toI (sortN l)).Pairwise (· < ·) := by
  unfold toI
  rw [List.pairwise_map]
  exact (isort_strict id h fun a _ b _ e => e).imp fun {a b} h => by
    have h' : a < b := h
    omega
theorem sortN_perm (l : List Nat) : (toI (sortN l)).Perm (toI l) := (isort_perm id l).map _

/-! ### the order of the texts -/
def rkL : List Nat := [0, 1, 9, 2, 13, 6, 10, 3, 15, 8, 12, 5, 14, 7, 11, 4]
def rk (m : Nat) : Nat := rkL.getD m 0
theorem rk_lt : ∀ (a : Nat), a < 16 → ∀ (b : Nat), b < 16 → decide ((lt a).cps.toList < (lt b).cps.toList) = decide (rk a < rk b) := by decide +kernel
theorem rk_inj : ∀ (a : Nat), a < 16 → ∀ (b : Nat), b < 16 → rk a = rk b → a = b := by decide +kernel
theorem lt_inj : ∀ (a : Nat), a < 16 → ∀ (b : Nat), b < 16 → lt a = lt b → a = b := by decide +kernel
theorem lt_eqv {a b : Nat} (ha : a < 16) (hb : b < 16) : PyData.eqv (.str (lt a)) (.str (lt b)) = (a == b) := by
  have e : PyData.eqv (.str (lt a)) (.str (lt b)) = (lt a == lt b) := by unfold PyData.eqv; rfl
  rw [e]
  by_cases h : a = b
  · subst h; simp
  · rw [beq_eq_false_iff_ne.mpr h]
    exact beq_eq_false_iff_ne.mpr fun z => h (lt_inj a ha b hb z)
theorem lt_data {a b : Nat} (ha : a < 16) (hb : b < 16) : PySem.W.dataLt (.str (lt a)) (.str (lt b)) = decide (rk a < rk b) := by rw [PySem.W.dataLt_str, rk_lt a ha b hb]
def kkey (k : Nat × Nat) : Nat := 2 * rk k.1 + k.2
theorem kind_data {k l : Nat × Nat} (hk : k.1 < 16) (hl : l.1 < 16) (sk : k.2 < 2) (sl : l.2 < 2) (h : kkey k < kkey l) : PySem.W.dataLt (encK k) (encK l) = true := by
  unfold encK
  rw [PySem.W.dataLt_pair (by simp [PySem.W.alike]) (by simp [PySem.W.alike]), lt_eqv hk hl, lt_data hk hl, PySem.W.dataLt_int]
  unfold kkey at h
  by_cases e : k.1 = l.1
  · rw [e] at h
    rw [if_pos (beq_iff_eq.mpr e), if_neg, decide_eq_true (by omega)]
    have e2 : PyData.eqv (.int (k.2 : Int)) (.int (l.2 : Int)) = ((k.2 : Int) == (l.2 : Int)) := by unfold PyData.eqv; rfl
    rw [e2]
    simp
    omega
  · rw [if_neg (by simp [e])]
    have : rk k.1 ≠ rk l.1 := fun z => e (rk_inj _ hk _ hl z)
    exact decide_eq_true (by omega)
def withSigns (ms : List Nat) : List (Nat × Nat) := ms.flatMap fun m => [(m, 0), (m, 1)]
def kindsOf (ms : List Nat) : List (Nat × Nat) := withSigns (isort rk ms)
theorem withSigns_mem {ms : List Nat} {k : Nat × Nat} : k ∈ withSigns ms ↔ k.1 ∈ ms ∧ k.2 < 2 := by
  unfold withSigns
  rw [List.mem_flatMap]
  constructor
  · rintro ⟨m, hm, h⟩
    rcases List.mem_cons.mp h with e | h
    · rw [e]; exact ⟨hm, by show 0 < 2; decide⟩
    · rw [List.mem_singleton.mp h]; exact ⟨hm, by show 1 < 2; decide⟩
  · rintro ⟨h1, h2⟩
    refine ⟨k.1, h1, ?_⟩
    obtain ⟨a, b⟩ := k
    have : b = 0 ∨ b = 1 := by simp at h2; omega
    rcases this with rfl | rfl <;> simp
theorem withSigns_inc : ∀ {ms : List Nat}, ms.Pairwise (fun a b => rk a < rk b) → (withSigns ms).Pairwise (fun k l => kkey k < kkey l)
  | [], _ => .nil
  | m :: ms, h => by
    have h1 := withSigns_inc (List.pairwise_cons.mp h).2
    have h0 := (List.pairwise_cons.mp h).1
    have all : ∀ k, k ∈ withSigns ms → rk m < rk k.1 := fun k hk => h0 _ (withSigns_mem.mp hk).1
    show List.Pairwise _ ((m, 0) :: (m, 1) :: withSigns ms)
    refine List.pairwise_cons.mpr ⟨fun k hk => ?_, List.pairwise_cons.mpr ⟨fun k hk => ?_, h1⟩⟩
    · rcases List.mem_cons.mp hk with e | hk
      · rw [e]; unfold kkey; simp
      · have := all k hk; unfold kkey; simp; omega
    · have := all k hk; unfold kkey; simp; omega
theorem encK_alike (k l : Nat × Nat) : PySem.W.alike (encK k) (encK l) = true := by simp [encK, PySem.W.alike, PySem.W.alikeAll]
theorem encK_depth (k : Nat × Nat) : (encK k).depth ≤ 60 := by simp [encK, PyData.depth, PyData.depthAll]
/-- the kinds of masks, sorted -/
theorem kinds_srt {ms : List Nat} (hn : ms.Nodup) (hm : ∀ m, m ∈ ms → m < 16) : Srt ((withSigns ms).map encK) ((kindsOf ms).map encK) where
  al := fun d hd e he => by
    obtain ⟨k, _, rfl⟩ := List.mem_map.mp hd
    obtain ⟨l, _, rfl⟩ := List.mem_map.mp he
    exact encK_alike k l
  so := .inl fun d hd => by
    obtain ⟨k, _, rfl⟩ := List.mem_map.mp hd
    exact ⟨_, _, rfl⟩
  len := by
    have h1 := nodup_len 16 ms hn hm
    have h2 : ∀ l : List Nat, (withSigns l).length = 2 * l.length := fun l => by
      induction l with
      | nil => rfl
      | cons a l ih => show (withSigns l).length + 1 + 1 = _; rw [ih, List.length_cons]; omega
    rw [List.length_map, h2]
    omega
  dep := fun d hd => by
    obtain ⟨k, _, rfl⟩ := List.mem_map.mp hd
    exact encK_depth k
  perm := (((isort_perm rk ms).flatMap_right _).map _ : _)
  inc := by
    rw [List.pairwise_map]
    have hs := withSigns_inc (isort_strict rk hn fun a ha b hb => rk_inj a (hm a ha) b (hm b hb))
    refine List.Pairwise.imp_of_mem (fun {k l} hk hl h => ?_) hs
    have hk' := withSigns_mem.mp hk
    have hl' := withSigns_mem.mp hl
    exact kind_data (hm _ (isort_mem rk |>.mp hk'.1)) (hm _ (isort_mem rk |>.mp hl'.1)) hk'.2 hl'.2 h
/-- texts of masks, sorted -/
def ltD (l : List Nat) : List D := l.map fun m => .str (lt m)
theorem texts_srt {ms : List Nat} (hn : ms.Nodup) (hm : ∀ m, m ∈ ms → m < 16) : Srt (ltD ms) (ltD (isort rk ms)) where
  al := fun d hd e he => by
    obtain ⟨k, _, rfl⟩ := List.mem_map.mp hd
    obtain ⟨l, _, rfl⟩ := List.mem_map.mp he
    simp [PySem.W.alike]
  so := .inr fun d hd => by
    obtain ⟨k, _, rfl⟩ := List.mem_map.mp hd
    exact And.intro (fun z => by cases z) (fun xs z => by cases z)
  len := by
    have h1 := nodup_len 16 ms hn hm
    show (List.map _ _).length ≤ _
    rw [List.length_map]; omega
  dep := fun d hd => by
    obtain ⟨k, _, rfl⟩ := List.mem_map.mp hd
    simp [PyData.depth]
  perm := (isort_perm rk ms).map _
  inc := by
    show List.Pairwise _ (List.map _ _)
    rw [List.pairwise_map]
    refine List.Pairwise.imp_of_mem (fun {k l} hk hl h => ?_) (isort_strict rk hn fun a ha b hb => rk_inj a (hm a ha) b (hm b hb))
    rw [lt_data (hm _ (isort_mem rk |>.mp hk)) (hm _ (isort_mem rk |>.mp hl))]
    exact decide_eq_true h
end DL
set_option Elab.async false
set_option linter.all false
set_option maxRecDepth 100000
set_option maxHeartbeats 4000000
namespace DL
open PySem PySem.Spec PyProof.Rows L2
section
variable {X : Cx} {F : List Addr} {H0 : Hp} {ρ ρ' : Rho} {o : Own} {Dn : Ends} {e a b c tg iter : Expr} {sts body : List Stmt} {pos p : Pos} {d : D}
/-- e as a statement -/
theorem sx_expr (he : XE X (o.sh ρ) e d) (h : SX X F H0 ρ o sts Dn) (hs : swapsWith e none pos.line X.env = pure false := by rfl) : SX X F H0 ρ o (.Expr e pos :: sts) Dn := fun σ H s => cSs_cons (ps_expr pE hs) (he F σ H s.shared s.live _ fun v H' s1 r => h _ _ (s.grow s1))
/-- x *= e -/
theorem sx_mul {x y : Int} (i : Nat) {n : Str} (hN : X.N.Nodup) (hx : ρ[i]? = some (some (.int x))) (he : XE X ρ e (.int y)) (hm : CMul x y) (h : SX X F H0 (ρ.set i (some (.int (x * y)))) .no sts Dn) (hi : X.N[i]? = some n := by rfl) (hl : Loc X.env.scope n := by first | exact Or.inl rfl | exact Or.inr rfl)
    (hf : X.fn n = true ∨ X.env.scope.names.lookup n = some .local := by first | exact .inl rfl | exact .inr rfl) : SX X F H0 ρ .no (.AugAssign (.Name n p) .Mult e pos :: sts) Dn := fun σ H s => cSs_cons (ps_aug hN hi hl pE (iop_mul (X := X)) hf) (by
  obtain ⟨v, h1, h2⟩ := s.env.at_ i _ hx
  refine ⟨v, h1, he _ σ H s.env s.live _ fun w H' s1 r => ⟨x, y, h2.i, r.i, hm, h _ _ ((s.grow s1).set rp_i (by intro z; cases z))⟩⟩)
/-- a for whose turns keep a word besides -/
theorem sx_forP {α : Type} {xs : List α} {enc : α → D} {g : TG} {js : List Nat} (Pρ : Nat → Rho) (Po : Nat → Own) (Pp : Nat → Prop) (ρt : Nat → α → Rho)
    (hp : PassesOwn (model X.prog X.w) X.A X.env X.xe) (hc : X.calm = true) (hi : XI X ρ tg iter (xs.map enc)) (hg : PG X tg g) (p0 : Pp 0)
    (h0 : ∀ σ H H1, Stt X.K F H1 ρ o σ H → Stt X.K F H1 (Pρ 0) (Po 0) σ H) (hads : ∀ i, (Po i).ads = o.ads) (hslot : ∀ i j, j ∈ js → (Po i).slot ≠ some j)
    (hG : ∀ i x, xs[i]? = some x → EvG X.K g js (Pρ i) (enc x) (ρt i x))
    (hb : ∀ (i : Nat) (x : α) (H1 : Hp), xs[i]? = some x → Pp i → (∀ x u, x ∉ o.ads → H0 x = some u → H1 x = some u) → SX X F H1 (ρt i x) (Po i) body ⟨fun σ H => Stt X.K F H1 (Pρ (i + 1)) (Po (i + 1)) σ H ∧ Pp (i + 1), Dn.rt, cSs X sts Dn, fun σ H => Stt X.K F H1 (Pρ (i + 1)) (Po (i + 1)) σ H ∧ Pp (i + 1)⟩)
    (hd : Pp xs.length → SX X F H0 (Pρ xs.length) (Po xs.length) sts Dn) (hs : ∀ x, foldedSetIterable iter X.env x = pure x) : SX X F H0 ρ o (.For tg iter body [] pos :: sts) Dn := fun σ H s => by
  refine cSs_cons (ps_for hp hc pI hg pSs hs) ?_
  refine hi _ σ H s.env s.lives _ fun J H1 s1 wk => ?_
  have base : ∀ x u, x ∉ o.ads → H0 x = some u → H1 x = some u := fun x u n e => s1 x u (s.same x u n e)
  refine ⟨fun i m σi Hi => m = xs.length - i ∧ i ≤ xs.length ∧ Stt X.K F H1 (Pρ i) (Po i) σi Hi ∧ Pp i, ⟨xs.length, rfl, Nat.zero_le _, h0 _ _ _ ((s.grow s1).rebase), p0⟩, ?_⟩
  rintro i m σi Hi ⟨rfl, hle, si, pi⟩
  have see : Same (hid (o.ads ++ F) H1) (hid (o.ads ++ F) Hi) := fun a u e => by
    obtain ⟨n, e⟩ := hid_some e
    rw [hid_out n]
    exact si.same a u (by rw [hads]; exact fun m => n (List.mem_append_left _ m)) e
  obtain ⟨wgo, wst⟩ := wk Hi (Same.trans see hid_le)
  by_cases hlt : i < xs.length
  · have hx : xs[i]? = some xs[i] := List.getElem?_eq_getElem hlt
    have hd' : (xs.map enc)[i]? = some (enc xs[i]) := by rw [List.getElem?_map, hx]; rfl
    refine .inr ⟨(wgo i _ hd').1, fun σ H => Stt X.K F H1 (Pρ (i + 1)) (Po (i + 1)) σ H ∧ Pp (i + 1), fun σ' H' h' => ⟨xs.length - (i + 1), by omega, rfl, hlt, h'⟩, fun x H' y => ?_⟩
    have lv : Live (o.ads ++ F) Hi := by
      have := si.lives
      rw [hads] at this
      exact this
    obtain ⟨sy, rx⟩ := wk.item see lv hd' y
    have sg := si.grow sy
    have en := sg.env
    rw [hads] at en
    refine hG i xs[i] hx (o.ads ++ F) σi H' x en rx _ fun σ2 en2 hl2 hk2 => ?_
    refine hb i xs[i] H1 hx pi base σ2 H' ⟨by rw [hads]; exact en2, sg.same, sg.live, sg.own.slots fun j hj => hk2 j fun m => hslot i j m hj⟩
  · have e : i = xs.length := by omega
    subst e
    rw [List.length_map] at wst
    exact .inl ⟨wst, hd pi σi Hi (si.back (by rw [hads]; exact base))⟩
theorem range_at {n i x : Nat} (h : (List.range n)[i]? = some x) : x = i ∧ i < n := by
  have hi : i < n := by have := (List.getElem?_eq_some_iff.mp h).1; rw [List.length_range] at this; exact this
  rw [List.getElem?_range hi] at h; cases h; exact ⟨rfl, hi⟩
end
def szN (c : Co) : Nat := (silentN c).length
def tN (c : Co) : Nat := Nat.log2 (szN c)
def rankN (c : Co) : Nat := c.n - tN c
theorem tN_fits : (comps.all fun c => ((List.range (tN c)).all fun i => decide (1 < szN c >>> i)) && decide (szN c >>> tN c ≤ 1) && decide (tN c ≤ c.n) && decide (szN c ≤ 16)) = true := by decide +kernel
structure TOk (c : Co) : Prop where
  t : ∀ i, i < tN c → 1 < szN c >>> i
  e : szN c >>> tN c ≤ 1
  n : tN c ≤ c.n
  s : szN c ≤ 16
theorem tok_of {c : Co} (h : c ∈ comps) : TOk c := by
  have := List.all_eq_true.mp tN_fits c h
  simp only [Bool.and_eq_true, decide_eq_true_eq] at this
  obtain ⟨⟨⟨h1, h2⟩, h3⟩, h4⟩ := this
  exact ⟨fun i hi => by simpa using List.all_eq_true.mp h1 i (List.mem_range.mpr hi), h2, h3, h4⟩
def prodN (k : Nat) : Nat := (List.range k).foldl (fun f i => f * (1 <<< (1 + i) + 1)) 1
/-- two kinds of a row do not commute -/
def cl (c : Co) (ks : List (Nat × Nat)) (i j : Nat) : Bool := btw c (ks.getD i (0, 0)).1 (ks.getD j (0, 0)).1 == 1
/-- no clash ahead of (i, j) -/
def Clear (c : Co) (ks : List (Nat × Nat)) (i j : Nat) : Prop := ∀ i' j', i' < j' → j' < ks.length → (i' < i ∨ (i' = i ∧ j' < j)) → cl c ks i' j' = false
/-- what clash hands back -/
inductive Clash (c : Co) (ks : List (Nat × Nat)) : D → Prop
  | no : (∀ i j, i < j → j < ks.length → cl c ks i j = false) → Clash c ks .none
  | yes (i j : Nat) : i < j → j < ks.length → cl c ks i j = true → Clear c ks i j → Clash c ks (.tuple [.int (i : Int), .int (j : Int)])
theorem Clash.one {c : Co} {ks : List (Nat × Nat)} {d e : D} (h : Clash c ks d) (g : Clash c ks e) : d = e := by
  cases h with
  | no h => cases g with
    | no _ => rfl
    | yes i j h1 h2 h3 _ => rw [h i j h1 h2] at h3; cases h3
  | yes i j h1 h2 h3 h4 => cases g with
    | no g => rw [g i j h1 h2] at h3; cases h3
    | yes i' j' g1 g2 g3 g4 =>
      have a : ¬ (i' < i ∨ (i' = i ∧ j' < j)) := fun z => by have := h4 i' j' g1 g2 z; rw [g3] at this; cases this
      have b : ¬ (i < i' ∨ (i = i' ∧ j < j')) := fun z => by have := g4 i j h1 h2 z; rw [h3] at this; cases this
      have e1 : i = i' := by omega
      have e2 : j = j' := by omega
      rw [e1, e2]
abbrev sClashOf : Stmt := topS 30
abbrev sClash : Stmt := topS 31
abbrev sGSize : Stmt := topS 32
abbrev sGCount : Stmt := topS 33
abbrev sGrown : Stmt := topS 34
abbrev sSpan : Stmt := topS 35
abbrev sAsKinds : Stmt := topS 37
theorem scRank : FnScope ["company", "found", "size"] ["company"] (defScope sRank) := ⟨rfl, rfl, rfl, by decide +kernel, rfl, by decide +kernel, by decide +kernel⟩
theorem scAllKinds : FnScope ["company", "found", "mask", "sign"] ["company"] (defScope sAllKinds) := ⟨rfl, rfl, rfl, by decide +kernel, rfl, by decide +kernel, by decide +kernel⟩
theorem scClashOf : FnScope ["company", "kinds", "at", "one", "place"] ["company", "kinds"] (defScope sClashOf) := ⟨rfl, rfl, rfl, by decide +kernel, rfl, by decide +kernel, by decide +kernel⟩
theorem scClash : FnScope ["company", "kinds"] ["company", "kinds"] (defScope sClash) := ⟨rfl, rfl, rfl, by decide +kernel, rfl, by decide +kernel, by decide +kernel⟩
theorem scGSize : FnScope ["company"] ["company"] (defScope sGSize) := ⟨rfl, rfl, rfl, by decide +kernel, rfl, by decide +kernel, by decide +kernel⟩
theorem scGCount : FnScope ["company", "found", "step"] ["company"] (defScope sGCount) := ⟨rfl, rfl, rfl, by decide +kernel, rfl, by decide +kernel, by decide +kernel⟩
theorem scSpan : FnScope ["masks", "found", "mask", "told"] ["masks"] (defScope sSpan) := ⟨rfl, rfl, rfl, by decide +kernel, rfl, by decide +kernel, by decide +kernel⟩
theorem scGrown : FnScope ["company", "masks", "some", "mask", "other"] ["company", "masks"] (defScope sGrown) := ⟨rfl, rfl, rfl, by decide +kernel, rfl, by decide +kernel, by decide +kernel⟩
theorem scAsKinds : FnScope ["masks", "found", "mask", "sign"] ["masks"] (defScope sAsKinds) := ⟨rfl, rfl, rfl, by decide +kernel, rfl, by decide +kernel, by decide +kernel⟩
section
variable {P : Program} {w : World} {K : PySem.W.Frag} {mg : Str → Option Value} {base : Heap} {f : Addr} {fd : FuncData} {k : Nat}
def RrankOf (ds : List D) (d : D) : Prop := ∃ c : Co, c ∈ comps ∧ ds = [encC c] ∧ d = .int (rankN c : Int)
theorem ok_rankOf (F : Fun K "rank_of" "rank_of" sRank f fd) (M : Nm mg) (C : Callee P w K mg base 2 "silent_masks" RsilentMasks) : FnOk P w K mg base CX0 3 f fd ["company"] (spD K RrankOf) :=
  fn_d F scRank (by rintro _ _ ⟨c, _, rfl, rfl⟩; rfl) (by decide) fun cdv A outer s H E hr ds d hR G H0 Dn rt => by
    obtain ⟨c, hc, rfl, rfl⟩ := hR
    have g := good_of hc
    have t := tok_of hc
    refine sx_par 1 2 (x := .int (c.n : Int)) (y := .int (szN c : Int)) scRank.nd (xa2 (xe_ixT (d := .int (c.n : Int)) (xe_var 0) xe_int rfl) (xe_is (xe_lenL M.len (xe_call C hr (xa1 (xe_var 0)) ⟨c, hc, rfl, rfl⟩)) (by rw [intsD_len]; rfl))) rfl rfl ?_ (o1 := by intro z; cases z) (o2 := by intro z; cases z)
    refine sx_while (tN c) (fun i => [some (encC c), some (.int ((c.n - i : Nat) : Int)), some (.int (szN c >>> i : Nat))]) (fun _ => .no) (fun σ H s => s) (fun i hi => xt_is (xt_gtN (j := 1) (xe_var 2) xe_int) (decide_eq_true (t.t i hi))) (xt_is (xt_gtN (j := 1) (xe_var 2) xe_int) (decide_eq_false (by have := t.e; omega))) (fun i hi => ?_) ?_
    · have hn := t.n
      refine sx_par 1 2 (x := .int ((c.n - (i + 1) : Nat) : Int)) (y := .int (szN c >>> (i + 1) : Nat)) scRank.nd (xa2 (xe_subN (i := c.n - i) (j := 1) (xe_var 1) xe_int (by omega)) (xe_is (xe_divN (i := szN c >>> i) (j := 2) (xe_var 2) xe_int (by decide) (by decide)) (by rw [Nat.shiftRight_succ]))) rfl rfl ?_ (o1 := by intro z; cases z) (o2 := by intro z; cases z)
      exact sx_nil fun σ H s => s
    · exact sx_rt rt (xe_var 1)
theorem withSigns_len : ∀ l : List Nat, (withSigns l).length = 2 * l.length
  | [] => rfl
  | a :: l => by show (withSigns l).length + 1 + 1 = _; rw [withSigns_len l, List.length_cons]; omega
theorem withSigns_snoc (l : List Nat) (m : Nat) : withSigns (l ++ [m]) = withSigns l ++ [(m, 0), (m, 1)] := by unfold withSigns; rw [List.flatMap_append]; rfl
def RallKinds (ds : List D) (d : D) : Prop := ∃ c : Co, c ∈ comps ∧ ds = [encC c] ∧ d = .list ((kindsOf (List.range (1 <<< c.n))).map encK)
theorem ok_allKinds (F : Fun K "all_kinds" "all_kinds" sAllKinds f fd) (M : Nm mg) (C : Callee P w K mg base 1 "letters_of" RlettersOf) : FnOk P w K mg base CX0 2 f fd ["company"] (spD K RallKinds) :=
  fn_d F scAllKinds (by rintro _ _ ⟨c, _, rfl, rfl⟩; rfl) (by decide) fun cdv A outer s H E hr ds d hR G H0 Dn rt => by
    obtain ⟨c, hc, rfl, rfl⟩ := hR
    have g := good_of hc
    have n4 := g.n4
    have hpow : 1 <<< c.n ≤ 16 := by rw [shl_pow]; exact Nat.pow_le_pow_right (n := 2) (by decide) n4
    refine sx_set (d := .list []) 1 scAllKinds.nd (xe_lst xa_nil) ?_ (ho := by intro z; cases z)
    refine sx_for (xs := List.range (1 <<< c.n)) (enc := fun (i : Nat) => .int (i : Int)) 2 (fun i => [some (encC c), some (.list ((withSigns (List.range i)).map encK)), none, none]) (fun _ => .no) scAllKinds.nd
      (xi_rangeN M.range (xe_shlN (i := 1) xe_int (xe_ixT (d := .int (c.n : Int)) (xe_var 0) xe_int rfl) (by decide) (by omega)) (by omega)) (fun σ H H1 s => s) (fun _ => rfl) (fun _ => by intro h; cases h) (fun i m H1 hx _ => ?_) ?_
    · obtain ⟨rfl, hm⟩ := range_at hx
      refine sx_set (d := .list ((withSigns (List.range (m + 1))).map encK)) 1 scAllKinds.nd (xe_is (xe_cat (xe_var 1) (xn_e (xn_lc (xs := [0, 1]) (enc := fun (i : Nat) => .int (i : Int)) (h := fun i => encK (m, i)) 3 scAllKinds.nd (xi_tup (xe_tup (xa2 xe_int xe_int))) (blkOk_by (N := ["company", "found", "mask", "sign"]) (sc := defScope sAllKinds) (by decide +kernel))
        (fun _ _ _ _ _ i hi => xe_tup (xa2 (xe_call C hr (xa1 (xe_var 2)) ⟨m, by omega, rfl, rfl⟩) (xe_var 3))) (by decide))) (by
          rw [List.length_map, withSigns_len, List.length_range]; show 2 * m + 2 ≤ _; omega)) (by
          rw [List.range_succ, withSigns_snoc, List.map_append]; rfl)) ?_ (ho := by intro z; cases z)
      exact sx_nil fun σ H s => Stt.forget (k := 2) (ρ := [some (encC c), some (.list ((withSigns (List.range (m + 1))).map encK)), none, none]) s
    · rw [List.length_range]
      exact sx_rt rt (xe_sorted hr.units M.sorted (xe_var 1) (kinds_srt List.nodup_range fun m hm => by have := List.mem_range.mp hm; omega))
def RasKinds (ds : List D) (d : D) : Prop := ∃ ms : List Nat, ms.Nodup ∧ (∀ m, m ∈ ms → m < 16) ∧ ds = [.list (intsD ms)] ∧ d = .list ((kindsOf ms).map encK)
theorem ok_asKinds (F : Fun K "as_kinds" "as_kinds" sAsKinds f fd) (M : Nm mg) (C : Callee P w K mg base 1 "letters_of" RlettersOf) : FnOk P w K mg base CX0 2 f fd ["masks"] (spD K RasKinds) :=
  fn_d F scAsKinds (by rintro _ _ ⟨c, _, _, rfl, rfl⟩; rfl) (by decide) fun cdv A outer s H E hr ds d hR G H0 Dn rt => by
    obtain ⟨ms, hn, hm, rfl, rfl⟩ := hR
    have hl := nodup_len 16 ms hn hm
    refine sx_set (d := .list []) 1 scAsKinds.nd (xe_lst xa_nil) ?_ (ho := by intro z; cases z)
    refine sx_for (xs := ms) (enc := fun (i : Nat) => .int (i : Int)) 2 (fun i => [some (.list (intsD ms)), some (.list ((withSigns (ms.take i)).map encK)), none, none]) (fun _ => .no) scAsKinds.nd
      (xi_list (xe_var 0)) (fun σ H H1 s => s) (fun _ => rfl) (fun _ => by intro h; cases h) (fun i m H1 hx _ => ?_) ?_
    · have hm' := hm m (List.mem_of_getElem? hx)
      have hi := (List.getElem?_eq_some_iff.mp hx).1
      have ht : ms.take (i + 1) = ms.take i ++ [m] := by rw [List.take_add_one, hx]; rfl
      refine sx_set (d := .list ((withSigns (ms.take (i + 1))).map encK)) 1 scAsKinds.nd (xe_is (xe_cat (xe_var 1) (xn_e (xn_lc (xs := [0, 1]) (enc := fun (i : Nat) => .int (i : Int)) (h := fun i => encK (m, i)) 3 scAsKinds.nd (xi_tup (xe_tup (xa2 xe_int xe_int))) (blkOk_by (N := ["masks", "found", "mask", "sign"]) (sc := defScope sAsKinds) (by decide +kernel))
        (fun _ _ _ _ _ i hi => xe_tup (xa2 (xe_call C hr (xa1 (xe_var 2)) ⟨m, by omega, rfl, rfl⟩) (xe_var 3))) (by decide))) (by
          rw [List.length_map, withSigns_len, List.length_take]; show 2 * _ + 2 ≤ _; omega)) (by
          rw [ht, withSigns_snoc, List.map_append]; rfl)) ?_ (ho := by intro z; cases z)
      exact sx_nil fun σ H s => Stt.forget (k := 2) (ρ := [some (.list (intsD ms)), some (.list ((withSigns (ms.take (i + 1))).map encK)), none, none]) s
    · rw [List.take_length]
      exact sx_rt rt (xe_sorted hr.units M.sorted (xe_var 1) (kinds_srt hn hm))
def RclashOf (ds : List D) (d : D) : Prop := ∃ (c : Co) (ks : List (Nat × Nat)), c ∈ comps ∧ (∀ k, k ∈ ks → KindOk c k) ∧ ks.length ≤ 12 ∧ ds = [encC c, .tuple (ks.map encK)] ∧ Clash c ks d
theorem KindOk.l16 {c : Co} (g : Good c) {k : Nat × Nat} (h : KindOk c k) : k.1 < 16 := pow_le g.n4 h.m
theorem ok_clashOf (F : Fun K "clash_of" "clash_of" sClashOf f fd) (M : Nm mg) (C1 : Callee P w K mg base 2 "between" Rbetween) (C2 : Callee P w K mg base 2 "inner" Rinner) : FnOk P w K mg base CX0 3 f fd ["company", "kinds"] (spD K RclashOf) :=
  fn_d F scClashOf (by rintro _ _ ⟨c, m, _, _, _, rfl, _⟩; rfl) (by decide) fun cdv A outer s H E hr ds d hR G H0 Dn rt => by
    obtain ⟨c, ks, hc, hk, hl, rfl, hcl⟩ := hR
    have g := good_of hc
    refine sx_forP (xs := ks.zipIdx) (enc := fun x => .tuple [.int (x.2 : Nat), encK x.1]) (js := [2, 3]) (fun _ => [some (encC c), some (.tuple (ks.map encK)), none, none, none]) (fun _ => .no) (fun i => Clear c ks i 0) (fun i x => [some (encC c), some (.tuple (ks.map encK)), some (.int (x.2 : Nat)), some (encK x.1), none])
      PassesOwn.never rfl (xi_is (xi_enumT M.enumerate (xe_var 1)) (enumD_map _ _)) (pg_tup rfl (pgs_cons (pg_name (i := 2) scClashOf.nd rfl (.inl rfl)) (pgs_cons (pg_name (i := 3) scClashOf.nd rfl (.inl rfl)) pgs_nil)))
      (fun i' j' _ _ h => by omega) (fun σ H H1 s => s) (fun _ => rfl) (fun _ _ _ h => by cases h) (fun i x hx => eg_pair 2 3) (fun i x H1 hx hp base => ?_) (fun hp => ?_) (by intro _; rfl)
    · obtain ⟨hx1, hx2⟩ := zipIdx_at hx
      have hi := (List.getElem?_eq_some_iff.mp hx1).1
      have gi : ks.getD i (0, 0) = x.1 := by rw [List.getD_eq_getElem?_getD, hx1]; rfl
      refine sx_forP (xs := List.range (ks.length - (i + 1))) (enc := fun (j : Nat) => .int ((i + 1 + j : Nat) : Int)) (js := [4]) (fun _ => [some (encC c), some (.tuple (ks.map encK)), some (.int (x.2 : Nat)), some (encK x.1), none]) (fun _ => .no) (fun j => Clear c ks i (i + 1 + j)) (fun _ j => [some (encC c), some (.tuple (ks.map encK)), some (.int (x.2 : Nat)), some (encK x.1), some (.int ((i + 1 + j : Nat) : Int))])
        PassesOwn.never rfl (xi_range2N (n := i + 1) (m := ks.length) M.range (xe_is (xe_addN (j := 1) (xe_var 2) xe_int) (by rw [hx2])) (xe_is (xe_lenT M.len (xe_var 1)) (by rw [List.length_map])) (by omega) (by omega)) (pg_name (i := 4) scClashOf.nd rfl (.inl rfl))
        (fun i' j' h1 h2 h3 => ?_) (fun σ H H1 s => s) (fun _ => rfl) (fun _ _ _ h => by cases h) (fun i x hx => eg_name 4) (fun j y H2 hy hq base2 => ?_) (fun hq => ?_) (by intro _; rfl)
      · rcases h3 with h3 | ⟨h3, h4⟩
        · exact hp i' j' h1 h2 (.inl h3)
        · omega
      · obtain ⟨rfl, hj⟩ := range_at hy
        have hj2 : i + 1 + y < ks.length := by omega
        have e2 : ks[i + 1 + y]? = some ks[i + 1 + y] := List.getElem?_eq_getElem hj2
        have g2 : ks.getD (i + 1 + y) (0, 0) = ks[i + 1 + y] := by rw [List.getD_eq_getElem?_getD, e2]; rfl
        refine sx_if (k := cl c ks i (i + 1 + y)) (xt_is (xt_eqN (i := btw c x.1.1 ks[i + 1 + y].1) (j := 1) (xe_call C1 hr (xa3 (xe_var 0) (xe_ixT (d := .int (x.1.1 : Int)) (xe_call C2 hr (xa1 (xe_var 3)) ⟨x.1, (hk _ (List.mem_of_getElem? hx1)).l16 g, rfl, rfl⟩) xe_int rfl)
          (xe_ixT (d := .int (ks[i + 1 + y].1 : Int)) (xe_call C2 hr (xa1 (xe_ixT (d := encK ks[i + 1 + y]) (xe_var 1) (xe_var 4) (atI_map e2))) ⟨ks[i + 1 + y], (hk _ (List.getElem_mem hj2)).l16 g, rfl, rfl⟩) xe_int rfl)) ⟨c, _, _, hc, rfl, rfl⟩) xe_int) (by
            unfold cl; rw [gi, g2])) (fun ht => ?_) fun ht => ?_
        · have ed := hcl.one (.yes i (i + 1 + y) (by omega) hj2 ht hq)
          refine sx_ret (d := d) (xe_is (xe_tup (xa2 (xe_var 2) (xe_var 4))) (by rw [ed, hx2])) (fun a m => by cases m) fun v H' sm r => ?_
          exact rt.rt v H' (Same.trans (fun x u e => base2 x u (by simp [Own.ads]) (base x u (by simp [Own.ads]) e)) sm) r
        · refine sx_k (sx_nil fun σ H s => ⟨Stt.forget (k := 4) (ρ := [some (encC c), some (.tuple (ks.map encK)), some (.int (x.2 : Nat)), some (encK x.1), none]) s, fun i' j' h1 h2 h3 => ?_⟩)
          by_cases q : i' = i ∧ j' = i + 1 + y
          · rw [q.1, q.2]; exact ht
          · exact hq i' j' h1 h2 (by omega)
      · rw [List.length_range] at hq
        refine sx_nil fun σ H s => ⟨Stt.forget (k := 3) (ρ := [some (encC c), some (.tuple (ks.map encK)), none, none, none]) (Stt.forget (k := 2) (ρ := [some (encC c), some (.tuple (ks.map encK)), none, some (encK x.1), none]) s), fun i' j' h1 h2 h3 => hq i' j' h1 h2 (by omega)⟩
    · rw [List.length_zipIdx] at hp
      have ed := hcl.one (.no fun i j h1 h2 => hp i j h1 h2 (by omega))
      subst ed
      exact sx_rt rt xe_non
theorem ok_clash (F : Fun K "clash" "clash" sClash f fd) (C1 : Callee P w K mg base 3 "need_company" RneedCompany) (C2 : Callee P w K mg base 4 "need_kinds" RneedKinds) (C3 : Callee P w K mg base 3 "clash_of" RclashOf) : FnOk P w K mg base CX0 5 f fd ["company", "kinds"] (spD K RclashOf) :=
  fn_d F scClash (by rintro _ _ ⟨c, m, _, _, _, rfl, _⟩; rfl) (by decide) fun cdv A outer s H E hr ds d hR G H0 Dn rt => by
    obtain ⟨c, ks, hc, hk, hl, rfl, hcl⟩ := hR
    have hr3 := hr.mono (show 3 ≤ 4 by decide)
    refine sx_expr (xe_call C1 hr3 (xa1 (xe_var 0)) ⟨c, hc, rfl, rfl⟩) ?_
    refine sx_expr (xe_call C2 hr (xa2 (xe_var 0) (xe_var 1)) ⟨c, ks, hc, hk, hl, rfl, rfl⟩) ?_
    exact sx_rt rt (xe_call C3 hr3 (xa2 (xe_var 0) (xe_var 1)) ⟨c, ks, hc, hk, hl, rfl, hcl⟩)
def RgSize (ds : List D) (d : D) : Prop := ∃ c : Co, c ∈ comps ∧ ds = [encC c] ∧ d = .int ((2 <<< (c.n - rankN c / 2) : Nat) : Int)
theorem ok_gSize (F : Fun K "greatest_size" "greatest_size" sGSize f fd) (C1 : Callee P w K mg base 3 "need_company" RneedCompany) (C2 : Callee P w K mg base 3 "rank_of" RrankOf) : FnOk P w K mg base CX0 4 f fd ["company"] (spD K RgSize) :=
  fn_d F scGSize (by rintro _ _ ⟨c, _, rfl, rfl⟩; rfl) (by decide) fun cdv A outer s H E hr ds d hR G H0 Dn rt => by
    obtain ⟨c, hc, rfl, rfl⟩ := hR
    have g := good_of hc
    have n4 := g.n4
    have hrk : rankN c ≤ c.n := Nat.sub_le _ _
    refine sx_expr (xe_call C1 hr (xa1 (xe_var 0)) ⟨c, hc, rfl, rfl⟩) ?_
    exact sx_rt rt (xe_shlN (i := 2) xe_int (xe_subN (xe_ixT (d := .int (c.n : Int)) (xe_var 0) xe_int rfl) (xe_divN (j := 2) (xe_call C2 hr (xa1 (xe_var 0)) ⟨c, hc, rfl, rfl⟩) xe_int (by decide) (by decide)) (by omega)) (by decide) (by omega))
def RgCount (ds : List D) (d : D) : Prop := ∃ c : Co, c ∈ comps ∧ ds = [encC c] ∧ d = .int ((prodN (rankN c / 2) : Nat) : Int)
theorem prodN_succ (k : Nat) : prodN (k + 1) = prodN k * (1 <<< (1 + k) + 1) := by unfold prodN; rw [List.range_succ, List.foldl_append]; rfl
theorem prodN_le : ∀ (k : Nat), k < 5 → prodN k < 1000000 := by decide +kernel
theorem ok_gCount (F : Fun K "count_greatest" "count_greatest" sGCount f fd) (M : Nm mg) (C1 : Callee P w K mg base 3 "need_company" RneedCompany) (C2 : Callee P w K mg base 3 "rank_of" RrankOf) : FnOk P w K mg base CX0 4 f fd ["company"] (spD K RgCount) :=
  fn_d F scGCount (by rintro _ _ ⟨c, _, rfl, rfl⟩; rfl) (by decide) fun cdv A outer s H E hr ds d hR G H0 Dn rt => by
    obtain ⟨c, hc, rfl, rfl⟩ := hR
    have g := good_of hc
    have n4 := g.n4
    have hrk : rankN c ≤ c.n := Nat.sub_le _ _
    refine sx_expr (xe_call C1 hr (xa1 (xe_var 0)) ⟨c, hc, rfl, rfl⟩) ?_
    refine sx_set (d := .int 1) 1 scGCount.nd xe_int ?_ (ho := by intro z; cases z)
    refine sx_for (xs := List.range (rankN c / 2 + 1 - 1)) (enc := fun (i : Nat) => .int ((1 + i : Nat) : Int)) 2 (fun i => [some (encC c), some (.int (prodN i : Int)), none]) (fun _ => .no) scGCount.nd
      (xi_range2N (n := 1) M.range xe_int (xe_addN (j := 1) (xe_divN (j := 2) (xe_call C2 hr (xa1 (xe_var 0)) ⟨c, hc, rfl, rfl⟩) xe_int (by decide) (by decide)) xe_int) (by decide) (by omega)) (fun σ H H1 s => s) (fun _ => rfl) (fun _ => by intro h; cases h) (fun i m H1 hx _ => ?_) ?_
    · obtain ⟨rfl, hm⟩ := range_at hx
      have hp := prodN_le m (by omega)
      refine sx_mul (x := (prodN m : Int)) (y := ((1 <<< (1 + m) + 1 : Nat) : Int)) 1 scGCount.nd rfl (xe_addN (j := 1) (xe_shlN (i := 1) xe_int (xe_var 2) (by decide) (by omega)) xe_int) (.inl ⟨by omega, by omega⟩) ?_
      refine sx_nil fun σ H s => ?_
      show Stt _ _ _ [some (encC c), some (.int (prodN (m + 1) : Int)), none] _ σ H
      rw [prodN_succ, Int.natCast_mul]
      exact Stt.forget (k := 2) s
    · rw [List.length_range, Nat.add_sub_cancel]
      exact sx_rt rt (xe_var 1)
def Rspan (ds : List D) (d : D) : Prop := ∃ ms : List Nat, (∀ m, m ∈ ms → m < 16) ∧ ds = [.list (intsD ms)] ∧ d = dictI (toI (spanN ms))
theorem ok_span (F : Fun K "span" "span" sSpan f fd) (M : Nm mg) : FnOk P w K mg base CX0 1 f fd ["masks"] (spD K Rspan) :=
  fn_d F scSpan (by rintro _ _ ⟨c, _, rfl, rfl⟩; rfl) (by decide) fun cdv A outer s H E hr ds d hR G H0 Dn rt => by
    obtain ⟨ms, hm, rfl, rfl⟩ := hR
    refine sx_ownD 1 scSpan.nd xnd_disp1 fun l hl => ?_
    refine sx_for (xs := ms) (enc := fun (i : Nat) => .int (i : Int)) 2 (fun i => [some (.list (intsD ms)), none, none, none]) (fun i => .dI 1 l (toI (spanN (ms.take i)))) scSpan.nd
      (xi_list (xe_var 0)) (fun σ H H1 s => s) (fun _ => rfl) (fun _ => by intro h; cases h) (fun i m H1 hx _ => ?_) ?_
    · have hm' := hm m (List.mem_of_getElem? hx)
      have so : SpanOk (spanN (ms.take i)) := spanN_ok fun x hx => hm x (List.mem_of_mem_take hx)
      have st : spanN (ms.take (i + 1)) = spanStep (spanN (ms.take i)) m := by
        unfold spanN
        rw [List.take_add_one, hx, List.foldl_append]; rfl
      generalize spanN (ms.take i) = fs at so st
      have ne : toI fs ≠ [] := fun z => so.ne (List.map_eq_nil_iff.mp z)
      refine sx_if (xt_notInDI (hu_of hr) (xe_var 2) (xe_var 1) ne) (fun ht => ?_) fun ht => ?_
      · have hni : m ∉ fs := by
          simp only [Bool.not_eq_true', decide_eq_false_iff_not] at ht
          exact fun z => ht (toI_mem.mpr z)
        refine sx_upd (more := (toI (fs.map (· ^^^ m))).foldl addKey []) (xnd_is (xnd_dc (xs := fs) (enc := fun (n : Nat) => .int (n : Int)) (key := fun n => ((n ^^^ m : Nat) : Int)) 3 scSpan.nd (xi_is (xi_list (xn_e (xn_listDI rfl M.list (xe_var 1) ne))) (intsD_toI fs)) (blkOk_by (N := ["masks", "found", "mask", "told"]) (sc := defScope sSpan) (by decide +kernel))
          (fun _ _ _ _ _ n hn => xe_bxorN (xe_var 3) (xe_var 2) (so.lt n hn) hm') (by have := so.len; omega)) (by unfold toI; rw [List.map_map]; rfl)) ?_ ?_
        · refine sx_k (sx_nil fun σ H s => ?_)
          show Stt _ _ _ [some (.list (intsD ms)), none, none, none] (.dI 1 l (toI (spanN (ms.take (i + 1))))) σ H
          rw [st]
          unfold spanStep
          rw [if_neg hni, ← toI_adds, ← toI_adds]
          exact Stt.forget (k := 2) s
        · have h1 := addKeys_len (toI (fs.map (· ^^^ m))) []
          rw [toI_len, List.length_map, List.length_nil] at h1
          have := so.len
          rw [toI_len]
          omega
      · have hi : m ∈ fs := by
          simp only [Bool.not_eq_false', decide_eq_true_eq] at ht
          exact toI_mem.mp ht
        refine sx_k (sx_nil fun σ H s => ?_)
        show Stt _ _ _ [some (.list (intsD ms)), none, none, none] (.dI 1 l (toI (spanN (ms.take (i + 1))))) σ H
        rw [st]
        unfold spanStep
        rw [if_pos hi]
        exact Stt.forget (k := 2) s
    · rw [List.take_length]
      exact sx_rtO rt (by intro a m; simp [Own.ads] at m; rw [m]; exact hl) (xe_var 1)
end
end DL
set_option Elab.async false
set_option linter.all false
set_option maxRecDepth 100000
set_option maxHeartbeats 4000000
/-! min and max of texts, in over a tuple of data, >= of kinds, dicts with tuple keys, comprehensions of two clauses. -/
namespace PySem
open Sem (wp)
theorem CmpOf.strs_lt {prog : Program} {w : World} {A : Around} {P : Nat → Value → Prop} (val : Nat → Str) (hval : ∀ i v, P i v → ∃ t, v = .str (val i) t) :
    CmpOf prog w A .Lt P (fun i j => decide ((val i).cps.toList < (val j).cps.toList)) := fun i j vi vj s Q E hi hj h => by
  obtain ⟨t, rfl⟩ := hval i vi hi
  obtain ⟨u, rfl⟩ := hval j vj hj
  exact (show wpAny _ _ (compareOp .Lt _ _) _ _ _ from PySem.P.lt_str h)
theorem CmpOf.strs_gt {prog : Program} {w : World} {A : Around} {P : Nat → Value → Prop} (val : Nat → Str) (hval : ∀ i v, P i v → ∃ t, v = .str (val i) t) :
    CmpOf prog w A .Gt P (fun i j => decide ((val j).cps.toList < (val i).cps.toList)) := fun i j vi vj s Q E hi hj h => by
  obtain ⟨t, rfl⟩ := hval i vi hi
  obtain ⟨u, rfl⟩ := hval j vj hj
  exact (show wpAny _ _ (compareOp .Gt _ _) _ _ _ from PySem.P.gt_str h)
def val2 (a b : Str) (i : Nat) : Str := if i = 0 then a else b
theorem val2_at {a b : Str} {t u : Tok} {i : Nat} {v : Value} (h : (#[Value.str a t, Value.str b u] : Array Value)[i]? = some v) : ∃ t, v = .str (val2 a b i) t := by
  match i, h with
  | 0, h => exact ⟨t, by simp at h; exact h.symm⟩
  | 1, h => exact ⟨u, by simp at h; exact h.symm⟩
  | i + 2, h => simp at h
section
variable {prog : Program} {w : World} {A : Around} {E : Value → Shared → Prop} {s : Shared}
theorem min_two_strs {a b : Str} {t u : Tok} {Q : Value → Shared → Prop} (hh : A.handled = none)
    (h : ∀ h' tk, (∀ c o, s.heap.get? c = some o → h'.get? c = some o) → Q (if decide (b.cps.toList < a.cps.toList) = true then .str b u else .str a t) { s with heap := h', toks := tk }) :
    wpAny (model prog w) A (call (.builtin "min") [.str a t, .str b u]) Q E s := by
  have hT : (s.heap.push { cls := .type "tuple", data := .seq #[.str a t, .str b u] }).IsTuple s.heap.objs.size #[.str a t, .str b u] := ⟨_, Heap.get?_push_size _ rfl, rfl, 0, rfl⟩
  refine call_min_two (wpAny_pyIter_tuple hT ?_)
  have hsz : (s.heap.push { cls := .type "tuple", data := .seq #[.str a t, .str b u] }).objs.size = s.heap.objs.size + 1 := Heap.size_push ..
  refine ⟨_, [_, s.heap.objs.size], [_], _, _, _, _, rfl, Walks.tuple (A := A.in1) hh _ s.heap.objs.size (by rw [hsz]; exact Nat.ne_of_lt (Nat.lt_succ_self _)) #[.str a t, .str b u],
    ⟨⟨_, Heap.get?_push_size _ rfl, rfl, rfl⟩, hT.push _⟩, fun c hc => ?_, by simp, CmpOf.strs_lt (val2 a b) (fun _ _ => val2_at), fun v h' tk hP hk => ?_⟩
  · show c < ((s.heap.push _).push _).objs.size
    rw [Heap.size_push, hsz]
    rcases List.mem_cons.mp hc with rfl | hc
    · rw [hsz]; exact Nat.lt_succ_self _
    · rcases List.mem_cons.mp hc with rfl | hc
      · exact Nat.lt_succ_of_lt (Nat.lt_succ_self _)
      · cases hc
  · have hold : ∀ c o, s.heap.get? c = some o → h'.get? c = some o := fun c o e => by
      refine hk c o (fun hm => ?_) (Heap.get?_push_of_some _ (Heap.get?_push_of_some _ e))
      rcases List.mem_cons.mp hm with e1 | hm
      · have := Heap.lt_size e; rw [e1, hsz] at this; exact Nat.lt_irrefl _ (Nat.lt_of_succ_lt this)
      · cases hm
    have := h h' tk hold
    have hv : v = if decide (b.cps.toList < a.cps.toList) = true then .str b u else .str a t := by
      cases hba : decide (b.cps.toList < a.cps.toList) with
      | true =>
        have e : argBest (fun i j => decide ((val2 a b i).cps.toList < (val2 a b j).cps.toList)) 1 = 1 := by
          show (if decide ((val2 a b 1).cps.toList < (val2 a b 0).cps.toList) = true then 1 else 0) = 1
          rw [if_pos (show decide ((val2 a b 1).cps.toList < (val2 a b 0).cps.toList) = true from hba)]
        have hP' : (#[Value.str a t, Value.str b u] : Array Value)[argBest (fun i j => decide ((val2 a b i).cps.toList < (val2 a b j).cps.toList)) 1]? = some v := hP
        rw [e] at hP'
        simpa using hP'.symm
      | false =>
        have e : argBest (fun i j => decide ((val2 a b i).cps.toList < (val2 a b j).cps.toList)) 1 = 0 := by
          show (if decide ((val2 a b 1).cps.toList < (val2 a b 0).cps.toList) = true then 1 else 0) = 0
          rw [if_neg (by rw [show decide ((val2 a b 1).cps.toList < (val2 a b 0).cps.toList) = false from hba]; exact Bool.false_ne_true)]
        have hP' : (#[Value.str a t, Value.str b u] : Array Value)[argBest (fun i j => decide ((val2 a b i).cps.toList < (val2 a b j).cps.toList)) 1]? = some v := hP
        rw [e] at hP'
        simpa using hP'.symm
    rw [hv]; exact this
theorem max_two_strs {a b : Str} {t u : Tok} {Q : Value → Shared → Prop} (hh : A.handled = none)
    (h : ∀ h' tk, (∀ c o, s.heap.get? c = some o → h'.get? c = some o) → Q (if decide (a.cps.toList < b.cps.toList) = true then .str b u else .str a t) { s with heap := h', toks := tk }) :
    wpAny (model prog w) A (call (.builtin "max") [.str a t, .str b u]) Q E s := by
  have hT : (s.heap.push { cls := .type "tuple", data := .seq #[.str a t, .str b u] }).IsTuple s.heap.objs.size #[.str a t, .str b u] := ⟨_, Heap.get?_push_size _ rfl, rfl, 0, rfl⟩
  refine call_max_two (wpAny_pyIter_tuple hT ?_)
  have hsz : (s.heap.push { cls := .type "tuple", data := .seq #[.str a t, .str b u] }).objs.size = s.heap.objs.size + 1 := Heap.size_push ..
  refine ⟨_, [_, s.heap.objs.size], [_], _, _, _, _, rfl, Walks.tuple (A := A.in1) hh _ s.heap.objs.size (by rw [hsz]; exact Nat.ne_of_lt (Nat.lt_succ_self _)) #[.str a t, .str b u],
    ⟨⟨_, Heap.get?_push_size _ rfl, rfl, rfl⟩, hT.push _⟩, fun c hc => ?_, by simp, CmpOf.strs_gt (val2 a b) (fun _ _ => val2_at), fun v h' tk hP hk => ?_⟩
  · show c < ((s.heap.push _).push _).objs.size
    rw [Heap.size_push, hsz]
    rcases List.mem_cons.mp hc with rfl | hc
    · rw [hsz]; exact Nat.lt_succ_self _
    · rcases List.mem_cons.mp hc with rfl | hc
      · exact Nat.lt_succ_of_lt (Nat.lt_succ_self _)
      · cases hc
  · have hold : ∀ c o, s.heap.get? c = some o → h'.get? c = some o := fun c o e => by
      refine hk c o (fun hm => ?_) (Heap.get?_push_of_some _ (Heap.get?_push_of_some _ e))
      rcases List.mem_cons.mp hm with e1 | hm
      · have := Heap.lt_size e; rw [e1, hsz] at this; exact Nat.lt_irrefl _ (Nat.lt_of_succ_lt this)
      · cases hm
    have := h h' tk hold
    have hv : v = if decide (a.cps.toList < b.cps.toList) = true then .str b u else .str a t := by
      cases hba : decide (a.cps.toList < b.cps.toList) with
      | true =>
        have e : argBest (fun i j => decide ((val2 a b j).cps.toList < (val2 a b i).cps.toList)) 1 = 1 := by
          show (if decide ((val2 a b 0).cps.toList < (val2 a b 1).cps.toList) = true then 1 else 0) = 1
          rw [if_pos (show decide ((val2 a b 0).cps.toList < (val2 a b 1).cps.toList) = true from hba)]
        have hP' : (#[Value.str a t, Value.str b u] : Array Value)[argBest (fun i j => decide ((val2 a b j).cps.toList < (val2 a b i).cps.toList)) 1]? = some v := hP
        rw [e] at hP'
        simpa using hP'.symm
      | false =>
        have e : argBest (fun i j => decide ((val2 a b j).cps.toList < (val2 a b i).cps.toList)) 1 = 0 := by
          show (if decide ((val2 a b 0).cps.toList < (val2 a b 1).cps.toList) = true then 1 else 0) = 0
          rw [if_neg (by rw [show decide ((val2 a b 0).cps.toList < (val2 a b 1).cps.toList) = false from hba]; exact Bool.false_ne_true)]
        have hP' : (#[Value.str a t, Value.str b u] : Array Value)[argBest (fun i j => decide ((val2 a b j).cps.toList < (val2 a b i).cps.toList)) 1]? = some v := hP
        rw [e] at hP'
        simpa using hP'.symm
    rw [hv]; exact this
end
end PySem
namespace DL
open PySem PySem.Spec PyProof.Rows L2
section
variable {X : Cx} {ρ : Rho} {a b e : Expr} {es : List Expr} {pos p : Pos} {d x : D} {ds : List D}
theorem call_min2S (hc : X.calm = true) : CallR X (.builtin "min") (fun xs H Q => ∃ i j, xs = [.str i, .str j] ∧ Q (.str (if decide (j.cps.toList < i.cps.toList) = true then j else i)) H) := by
  intro pins s σ H xs us Q I r h
  obtain ⟨i, j, rfl, q⟩ := h
  obtain ⟨u, w', rfl, ⟨t, rfl⟩, ⟨t', rfl⟩⟩ := vals2 r
  refine min_two_strs (I.ok.hd hc) fun h' tk k => ⟨_, H, I.kept k, ?_, q⟩
  split <;> exact ⟨_, rfl⟩
theorem call_max2S (hc : X.calm = true) : CallR X (.builtin "max") (fun xs H Q => ∃ i j, xs = [.str i, .str j] ∧ Q (.str (if decide (i.cps.toList < j.cps.toList) = true then j else i)) H) := by
  intro pins s σ H xs us Q I r h
  obtain ⟨i, j, rfl, q⟩ := h
  obtain ⟨u, w', rfl, ⟨t, rfl⟩, ⟨t', rfl⟩⟩ := vals2 r
  refine max_two_strs (I.ok.hd hc) fun h' tk k => ⟨_, H, I.kept k, ?_, q⟩
  split <;> exact ⟨_, rfl⟩
theorem xe_minS {v w : Str} (hc : X.calm = true) (ml : X.mg "min" = none) (ha : XE X ρ a (.str v)) (hb : XE X ρ b (.str w)) (hg : Gl X "min" := by rfl) (he : starEach (a :: [b]) X.env = (false, eval a X.env) :: starEach [b] X.env := by rfl) (he2 : starEach (b :: []) X.env = (false, eval b X.env) :: starEach [] X.env := by rfl)
    (hpl : (backTo pos (starEach [b] X.env)).any (·.1) = false := by rfl) : XE X ρ (.Call (.Name "min" p) [a, b] [] pos) (.str (if decide (w.cps.toList < v.cps.toList) = true then w else v)) := xe_callB (call_min2S hc) ml PyProof.Rows.boot_min (xa2 ha hb he he2) (fun F H li vs r0 Q q => by
  obtain ⟨x, y, rfl, r1, r2⟩ := r0.two
  rw [r1.s, r2.s]
  exact ⟨v, w, rfl, q _ H (Same.refl H) rp_s⟩) hg (by decide) (by decide) he hpl
theorem xe_maxS {v w : Str} (hc : X.calm = true) (ml : X.mg "max" = none) (ha : XE X ρ a (.str v)) (hb : XE X ρ b (.str w)) (hg : Gl X "max" := by rfl) (he : starEach (a :: [b]) X.env = (false, eval a X.env) :: starEach [b] X.env := by rfl) (he2 : starEach (b :: []) X.env = (false, eval b X.env) :: starEach [] X.env := by rfl)
    (hpl : (backTo pos (starEach [b] X.env)).any (·.1) = false := by rfl) : XE X ρ (.Call (.Name "max" p) [a, b] [] pos) (.str (if decide (v.cps.toList < w.cps.toList) = true then w else v)) := xe_callB (call_max2S hc) ml PyProof.Rows.boot_max (xa2 ha hb he he2) (fun F H li vs r0 Q q => by
  obtain ⟨x, y, rfl, r1, r2⟩ := r0.two
  rw [r1.s, r2.s]
  exact ⟨v, w, rfl, q _ H (Same.refl H) rp_s⟩) hg (by decide) (by decide) he hpl
theorem xe_minI {v w : Int} (hc : X.calm = true) (ml : X.mg "min" = none) (ha : XE X ρ a (.int v)) (hb : XE X ρ b (.int w)) (hg : Gl X "min" := by rfl) (he : starEach (a :: [b]) X.env = (false, eval a X.env) :: starEach [b] X.env := by rfl) (he2 : starEach (b :: []) X.env = (false, eval b X.env) :: starEach [] X.env := by rfl)
    (hpl : (backTo pos (starEach [b] X.env)).any (·.1) = false := by rfl) : XE X ρ (.Call (.Name "min" p) [a, b] [] pos) (.int (if w < v then w else v)) := xe_callB (call_min2 hc) ml PyProof.Rows.boot_min (xa2 ha hb he he2) (fun F H li vs r0 Q q => by
  obtain ⟨x, y, rfl, r1, r2⟩ := r0.two
  rw [r1.i, r2.i]
  exact ⟨v, w, rfl, q _ H (Same.refl H) rp_i⟩) hg (by decide) (by decide) he hpl
theorem xe_maxI {v w : Int} (hc : X.calm = true) (ml : X.mg "max" = none) (ha : XE X ρ a (.int v)) (hb : XE X ρ b (.int w)) (hg : Gl X "max" := by rfl) (he : starEach (a :: [b]) X.env = (false, eval a X.env) :: starEach [b] X.env := by rfl) (he2 : starEach (b :: []) X.env = (false, eval b X.env) :: starEach [] X.env := by rfl)
    (hpl : (backTo pos (starEach [b] X.env)).any (·.1) = false := by rfl) : XE X ρ (.Call (.Name "max" p) [a, b] [] pos) (.int (if w > v then w else v)) := xe_callB (call_max2 hc) ml PyProof.Rows.boot_max (xa2 ha hb he he2) (fun F H li vs r0 Q q => by
  obtain ⟨x, y, rfl, r1, r2⟩ := r0.two
  rw [r1.i, r2.i]
  exact ⟨v, w, rfl, q _ H (Same.refl H) rp_i⟩) hg (by decide) (by decide) he hpl
/-- x in a tuple of data -/
def rInDT (K : PySem.W.Frag) : R2 := fun x y H Q => ∃ d ds, Dp K H x d ∧ Dp K H y (.tuple ds) ∧ SeqAt.shaped d = true ∧ SeqAt.shaped (.tuple ds) = true ∧ Q (.bl (ds.any fun z => PyData.eqv z d)) H
theorem op_inDT (hu : X.A.units + 65 < cLine) : OpR X (compareOp .In) (rInDT X.K) := by
  intro pins s σ H x y v u Q I rx ry h
  obtain ⟨d, ds, hd, he, sd, se, q⟩ := h
  obtain ⟨as, r1⟩ := Dp.reads I d x v hd rx
  obtain ⟨bs, r2⟩ := Dp.reads I (.tuple ds) y u he ry
  exact SeqAt.in_tuple_reads r2 r1 (SeqAt.canLay_of_shaped se) (SeqAt.canLay_of_shaped sd) (room_in_shaped sd hu) ⟨.bl _, H, I, rfl, q⟩
theorem xe_inDT (hu : X.A.units + 65 < cLine) (ha : XE X ρ a x) (hb : XE X ρ b (.tuple ds)) (n1 : SeqAt.shaped x = true) (n2 : SeqAt.shaped (.tuple ds) = true) (m1 : isDict x = false := by rfl) (hm : behindInMarks .In b = false := by with_unfolding_all rfl) : XE X ρ (.Compare a [.In] [b] pos) (.bool (ds.any fun z => PyData.eqv z x)) :=
  xe_cmp (op_inDT hu) ha hb hm fun F H li u v r1 r2 Q q => ⟨x, ds, dp_mono hid_le (r1.dp m1), dp_mono hid_le (r2.dp rfl), n1, n2, q _ H (Same.refl H) rp_b⟩
/-- k >= l, where the kind k is less -/
def rGeK (K : PySem.W.Frag) : R2 := fun x y H Q => ∃ (a b : Addr) (v w : Str) (i j : Int), x = .ref a ∧ y = .ref b ∧ SqT K H a [.str v, .int i] ∧ SqT K H b [.str w, .int j] ∧ Q (.bl (if (v == w) = true then (if (i == j) = true then true else decide (j ≤ i)) else !decide (v.cps.toList < w.cps.toList))) H
theorem op_geK (hu : X.A.units < cLine) : OpR X (compareOp .GtE) (rGeK X.K) := by
  intro pins s σ H x y v u Q I rx ry h
  obtain ⟨a, b, v, w, i, j, rfl, rfl, ha, hb, q⟩ := h
  cases rx
  cases ry
  obtain ⟨its, r1, p1, _⟩ := I.tuple ha
  obtain ⟨its2, r2, p2, _⟩ := I.tuple hb
  obtain ⟨u1, u2, rfl, ⟨t1, rfl⟩, ⟨t2, rfl⟩⟩ := vals2 r1
  obtain ⟨w1, w2, rfl, ⟨t3, rfl⟩, ⟨t4, rfl⟩⟩ := vals2 r2
  have R := Ob.RcOp.tuples_ge (A := X.A) (s := s) (e := fun k => if k = 0 then v == w else i == j) (r := fun k => if k = 0 then !decide (v.cps.toList < w.cps.toList) else decide (j ≤ i)) p1 p2 hu (fun k h1 h2 => by
    match k, h1, h2 with
    | 0, _, _ => exact SeqAt.EqAt.str_str _ _ _ _
    | 1, _, _ => exact SeqAt.EqAt.int_int _ _ _ _
    | k + 2, h1, _ => simp at h1; omega) (fun k h1 h2 _ => by
    match k, h1, h2 with
    | 0, _, _ => exact fun prog w E Q h => (show wpAny _ _ (compareOp .GtE _ _) _ _ _ from PySem.P.ge_str h)
    | 1, _, _ => exact Ob.RcOp.ge_int _ _ _ _
    | k + 2, h1, _ => simp at h1; omega)
  exact (show wpAny (model X.prog X.w) X.A (compareOp .GtE (.ref a) (.ref b)) (EP X pins σ Q) X.xe s from R X.prog X.w X.xe (EP X pins σ Q) ⟨.bl _, H, I, rfl, q⟩)
theorem xe_geK {k l : Nat × Nat} (hu : X.A.units < cLine) (ha : XE X ρ a (encK k)) (hb : XE X ρ b (encK l)) (k16 : k.1 < 16) (l16 : l.1 < 16) (k2 : k.2 < 2) (l2 : l.2 < 2) (h : kkey k < kkey l) : XE X ρ (.Compare a [.GtE] [b] pos) (.bool false) :=
  xe_cmp (op_geK hu) ha hb (nomark _) fun F H li u v r1 r2 Q q => by
    obtain ⟨x, xs, rfl, h1, h2⟩ := r1.t
    obtain ⟨y, ys, rfl, g1, g2⟩ := r2.t
    cases h2 with
    | cons a1 a2 => cases a1; cases a2 with
      | cons a3 a4 => cases a3; cases a4; cases g2 with
        | cons b1 b2 => cases b1; cases b2 with
          | cons b3 b4 =>
            cases b3; cases b4
            refine ⟨x, y, lt k.1, lt l.1, k.2, l.2, rfl, rfl, seqT hid_le h1, seqT hid_le g1, q _ H (Same.refl H) ?_⟩
            have e : (if (lt k.1 == lt l.1) = true then (if ((k.2 : Int) == (l.2 : Int)) = true then true else decide ((l.2 : Int) ≤ (k.2 : Int))) else !decide ((lt k.1).cps.toList < (lt l.1).cps.toList)) = false := by
              unfold kkey at h
              by_cases z : k.1 = l.1
              · rw [z] at h ⊢
                rw [if_pos (beq_self_eq_true _), if_neg (by simp; omega), decide_eq_false (by omega)]
              · have z2 : lt k.1 ≠ lt l.1 := fun q => z (lt_inj _ k16 _ l16 q)
                have z3 : rk k.1 ≠ rk l.1 := fun q => z (rk_inj _ k16 _ l16 q)
                rw [if_neg (by simp [z2]), rk_lt _ k16 _ l16, decide_eq_true (by omega)]
                rfl
            rw [e]
            exact rp_b
end
end DL
set_option Elab.async false
set_option linter.all false
set_option maxRecDepth 100000
set_option maxHeartbeats 4000000
/-! Two clauses. -/
namespace DL
open PySem PySem.Spec PyProof.Rows L2
section
variable {X : Cx} {ρ : Rho} {tg iter tg1 iter1 elt : Expr} {pos p1 p2 : Pos} {scope : Scope}
abbrev tLc2Of (X : Cx) (tg iter tg1 iter1 : Expr) (i j : Nat) (scope : Scope) (elt : Expr) : TE := tLc2 (cI X tg iter) (gName i) tYes (fun σ H R => ∀ (s : Shared) (H0 : Hp) (C : Addr) (cl : List (Str × Addr)) (fp : List Addr), cI (X.blk s H0 scope (compEnvC scope cl C X.env) fp) tg1 iter1 σ H R) (gName j) tYes
    (fun σ H Q => ∀ (s : Shared) (H0 : Hp) (C : Addr) (cl : List (Str × Addr)) (fp : List Addr), cE (X.blk s H0 scope (compEnvC scope cl C X.env) fp) elt σ H Q) [i, j] [j]
theorem evn_tLc2 {α β : Type} {xs : List α} {ys : List β} {encA : α → D} {encB : β → D} {h : α → β → D} (i j : Nat)
    (hi : XI X ρ tg iter (xs.map encA))
    (hi1 : ∀ (s : Shared) (H : Hp) (C : Addr) (cl : List (Str × Addr)) (fp : List Addr) (x : α), x ∈ xs → XI (X.blk s H scope (compEnvC scope cl C X.env) fp) ((wipeD ρ [i, j]).set i (some (encA x))) tg1 iter1 (ys.map encB))
    (he : ∀ (s : Shared) (H : Hp) (C : Addr) (cl : List (Str × Addr)) (fp : List Addr) (x : α) (y : β), x ∈ xs → y ∈ ys → XE (X.blk s H scope (compEnvC scope cl C X.env) fp) ((wipeD ((wipeD ρ [i, j]).set i (some (encA x))) [j]).set j (some (encB y))) elt (h x y))
    (hnd : ∀ x y, isDict (h x y) = false) (hlen : xs.length * ys.length ≤ 100000) :
    EvN X.K (tLc2Of X tg iter tg1 iter1 i j scope elt) ρ (xs.flatMap fun x => ys.map (h x)) := by
  intro F σ H en li Q q
  refine hi F σ H en li _ fun J H1 s1 wk Dl hD => ?_
  have hD0 : H Dl = none := by
    cases h : H Dl with
    | none => rfl
    | some o => rw [s1 Dl o h] at hD; cases hD
  have hDF : Dl ∉ F := (li.mono s1).out hD
  have li1 : Live (Dl :: F) (upd H1 Dl (.lst [])) := fun a m => by
    rcases List.mem_cons.mp m with rfl | m
    · rw [upd_same]; exact fun z => nomatch z
    · exact (li.mono (s1.trans (same_upd hD))) a m
  have sH1 : Same (hid F H1) (hid (Dl :: F) (upd H1 Dl (.lst []))) := hid_new hD (same_upd hD)
  -- what stands: the list holds ds
  let G : List D → Hp → Prop := fun ds Hi => Same (hid F H1) (hid (Dl :: F) Hi) ∧ Live (Dl :: F) Hi ∧ (∀ a o, a ≠ Dl → H1 a = some o → Hi a = some o) ∧ ∃ vs, Hi Dl = some (.lst vs) ∧ DpAll X.K (hid (Dl :: F) Hi) vs ds
  have Ggrow : ∀ {ds : List D} {Hi Hj : Hp}, G ds Hi → Same Hi Hj → G ds Hj := fun {ds Hi Hj} ⟨a1, a2, a3, vs, a4, a5⟩ s => ⟨Same.trans a1 (hid_mono s), a2.mono s, fun a o n e => s a o (a3 a o n e), vs, s Dl _ a4, dpAll_mono (hid_mono s) a5⟩
  refine ⟨fun k m Hi => m = xs.length - k ∧ k ≤ xs.length ∧ G ((xs.take k).flatMap fun x => ys.map (h x)) Hi,
    ⟨xs.length, rfl, Nat.zero_le _, sH1, li1, fun a o n e => by rw [upd_ne n]; exact e, [], upd_same, .nil⟩, ?_⟩
  rintro k m Hi ⟨rfl, hle, g0⟩
  obtain ⟨sm, lv, old, vs, hv, da⟩ := id g0
  obtain ⟨wgo, wst⟩ := wk Hi (Same.trans sm hid_le)
  by_cases hlt : k < xs.length
  · have hx : xs[k]? = some xs[k] := List.getElem?_eq_getElem hlt
    have hmem : xs[k] ∈ xs := List.getElem_mem hlt
    have hd : (xs.map encA)[k]? = some (encA xs[k]) := by rw [List.getElem?_map, hx]; rfl
    have htake : xs.take (k + 1) = xs.take k ++ [xs[k]] := by rw [List.take_add_one, hx]; rfl
    refine .inr ⟨(wgo k _ hd).1, G ((xs.take (k + 1)).flatMap fun x => ys.map (h x)), fun H' a => ⟨xs.length - (k + 1), by omega, rfl, hlt, a⟩, fun x H' y => ?_⟩
    obtain ⟨sy, rx⟩ := wk.item sm lv hd y
    have en1 : EnvOk X.K (Dl :: F) H' (L2.wipe σ [i, j]) (wipeD ρ [i, j]) := EnvOk.wipeD (en.mono (Same.trans (hid_mono s1) (Same.trans sm (hid_mono sy)))) _
    refine eg_name i (Dl :: F) _ H' x en1 rx _ fun σ2 en2 hl2 hk2 => ⟨wipe_eq hl2 (fun a m => by simp at m; simp [m]) hk2, ?_⟩
    simp only [tYes, if_true]
    intro s H0 C cl fp
    refine hi1 s H0 C cl fp xs[k] hmem (Dl :: F) σ2 H' en2 (lv.mono sy) _ fun J1 H4 s4 wk1 => ?_
    have g4 := Ggrow g0 (sy.trans s4)
    have en4 := en2.same s4
    refine ⟨fun b m1 Hj => m1 = ys.length - b ∧ b ≤ ys.length ∧ Same (hid (Dl :: F) H4) (hid (Dl :: F) Hj) ∧ G (((xs.take k).flatMap fun x => ys.map (h x)) ++ (ys.take b).map (h xs[k])) Hj,
      ⟨ys.length, rfl, Nat.zero_le _, Same.refl _, by rw [List.take_zero, List.map_nil, List.append_nil]; exact g4⟩, ?_⟩
    rintro b m1 Hj ⟨rfl, hleb, smj, gj⟩
    obtain ⟨smj1, lvj, oldj, vsj, hvj, daj⟩ := id gj
    obtain ⟨wgo1, wst1⟩ := wk1 Hj (Same.trans smj hid_le)
    by_cases hlb : b < ys.length
    · have hy : ys[b]? = some ys[b] := List.getElem?_eq_getElem hlb
      have hmemy : ys[b] ∈ ys := List.getElem_mem hlb
      have hdy : (ys.map encB)[b]? = some (encB ys[b]) := by rw [List.getElem?_map, hy]; rfl
      have htakey : ys.take (b + 1) = ys.take b ++ [ys[b]] := by rw [List.take_add_one, hy]; rfl
      refine .inr ⟨(wgo1 b _ hdy).1, fun Hn => Same (hid (Dl :: F) H4) (hid (Dl :: F) Hn) ∧ G (((xs.take k).flatMap fun x => ys.map (h x)) ++ (ys.take (b + 1)).map (h xs[k])) Hn, fun Hn a => ⟨ys.length - (b + 1), by omega, rfl, hlb, a⟩, fun z Hz yz => ?_⟩
      obtain ⟨sz, rz⟩ := wk1.item smj lvj hdy yz
      have en5 : EnvOk X.K (Dl :: F) Hz (L2.wipe σ2 [j]) (wipeD ((wipeD ρ [i, j]).set i (some (encA xs[k]))) [j]) := EnvOk.wipeD (en4.mono (Same.trans smj (hid_mono sz))) _
      refine eg_name j (Dl :: F) _ Hz z en5 rz _ fun σ3 en6 hl3 hk3 => ⟨wipe_eq hl3 (fun a m => m) hk3, ?_⟩
      simp only [tYes, if_true]
      intro s2 H02 C2 cl2 fp2
      refine he s2 H02 C2 cl2 fp2 xs[k] ys[b] hmem hmemy (Dl :: F) σ3 Hz en6 (lvj.mono sz) _ fun v H7 s7 r7 => ?_
      obtain ⟨u1, u2, u3, vs7, u4, u5⟩ := Ggrow gj (sz.trans s7)
      have hid7 : hid (Dl :: F) (upd H7 Dl (.lst (vs7 ++ [v]))) = hid (Dl :: F) H7 := by
        funext a
        by_cases m : a ∈ Dl :: F
        · rw [hid_in m, hid_in m]
        · rw [hid_out m, hid_out m, upd_ne fun z => m (by simp [z])]
      have hl7 : vs7.length ≤ 100000 := by
        have l1 := DpAll.length u5
        rw [List.length_append, List.length_map, List.length_take] at l1
        have l2 : ∀ l : List α, (l.flatMap fun x => ys.map (h x)).length = l.length * ys.length := fun l => by
          induction l with
          | nil => simp
          | cons a l ih => rw [List.flatMap_cons, List.length_append, ih, List.length_map, List.length_cons, Nat.add_mul]; omega
        rw [l2, List.length_take] at l1
        have l3 : (min k xs.length + 1) * ys.length ≤ xs.length * ys.length := Nat.mul_le_mul_right _ (by omega)
        rw [Nat.add_mul] at l3
        omega
      refine ⟨vs7, u4, Nat.lt_of_le_of_lt hl7 (by decide), by rw [hid7]; exact Same.trans smj (hid_mono (sz.trans s7)), by rw [hid7]; exact u1, fun a m => ?_, fun a o n e => by rw [upd_ne n]; exact u3 a o n e, _, upd_same, ?_⟩
      · by_cases z : a = Dl
        · rw [z, upd_same]; exact fun q => nomatch q
        · rw [upd_ne z]; exact u2 a m
      · rw [hid7, htakey, List.map_append, ← List.append_assoc]
        exact DpAll.append u5 (DpAll.one (r7.dp (hnd _ _)))
    · have e : b = ys.length := by omega
      subst e
      rw [List.length_map] at wst1
      refine .inl ⟨wst1, ?_⟩
      rw [List.take_length] at gj
      rw [htake, List.flatMap_append]
      simpa using gj
  · have e : k = xs.length := by omega
    subst e
    rw [List.length_map] at wst
    refine .inl ⟨wst, q Dl Hi vs hD0 (fun a o e => ?_) hv ?_⟩
    · exact old a o (ne_of_none e hD0) (s1 a o e)
    · rw [List.take_length] at da
      exact da
/-- [elt for n in iter for m in iter1] -/
theorem xn_lc2c {α β : Type} {xs : List α} {ys : List β} {encA : α → D} {encB : β → D} {h : α → β → D} {n m : Str} (i j : Nat) (hN : X.N.Nodup) (hi : XI X ρ (.Name n p1) iter (xs.map encA)) (ok : BlkOk X.N X.env.scope scope [(n, i), (m, j)])
    (hi1 : ∀ (s : Shared) (H : Hp) (C : Addr) (cl : List (Str × Addr)) (fp : List Addr) (x : α), x ∈ xs → XI (X.blk s H scope (compEnvC scope cl C X.env) fp) ((wipeD ρ [i, j]).set i (some (encA x))) (.Name m p2) iter1 (ys.map encB))
    (he : ∀ (s : Shared) (H : Hp) (C : Addr) (cl : List (Str × Addr)) (fp : List Addr) (x : α) (y : β), x ∈ xs → y ∈ ys → XE (X.blk s H scope (compEnvC scope cl C X.env) fp) ((wipeD ((wipeD ρ [i, j]).set i (some (encA x))) [j]).set j (some (encB y))) elt (h x y))
    (hlen : xs.length * ys.length ≤ 100000) (hnd : ∀ x y, isDict (h x y) = false := by exact fun _ _ => rfl) (hc : X.calm = true := by rfl) (hni : X.N[i]? = some n := by rfl) (hnj : X.N[j]? = some m := by rfl)
    (hxi : ∀ (s : Shared) (H : Hp) (C : Addr) (cl : List (Str × Addr)) (fp : List Addr), LocB (X.blk s H scope (compEnvC scope cl C X.env) fp) n := by first | exact fun _ _ _ _ _ => .inl rfl | exact fun _ _ _ _ _ => .inr ⟨rfl, rfl⟩)
    (hxj : ∀ (s : Shared) (H : Hp) (C : Addr) (cl : List (Str × Addr)) (fp : List Addr), LocB (X.blk s H scope (compEnvC scope cl C X.env) fp) m := by first | exact fun _ _ _ _ _ => .inl rfl | exact fun _ _ _ _ _ => .inr ⟨rfl, rfl⟩)
    (hs : ∀ x, foldedSetIterable iter X.env x = pure x := by intro _; rfl) (hs1 : ∀ env x, foldedSetIterable iter1 env x = pure x := by intro _ _; rfl) :
    XN X ρ (.ListComp elt [⟨.Name n p1, iter, [], 0⟩, ⟨.Name m p2, iter1, [], 0⟩] scope pos) (xs.flatMap fun x => ys.map (h x)) :=
  xn_of (pe_lc2 (own := [(n, i), (m, j)]) (vs1 := [j]) hc hN pI ok (fun a m => by simp at m; simp [m]) (fun s H C cl fp => pg_name hN hni (hxi s H C cl fp).loc (hxi s H C cl fp).fn) (fun s H C cl fp => pts_nil) (fun s H C cl fp => ⟨fun pins s1 σ1 H1 R I h => h s H C cl fp pins s1 I⟩) (fun s H C cl fp => pg_name hN hnj (hxj s H C cl fp).loc (hxj s H C cl fp).fn) (fun s H C cl fp => pts_nil)
    (fun s H C cl fp => ⟨fun pins s1 σ1 H1 Q I h => h s H C cl fp pins s1 I⟩) hs hs1) (evn_tLc2 i j hi hi1 he hnd hlen)
end
end DL
set_option Elab.async false
set_option linter.all false
set_option maxRecDepth 100000
set_option maxHeartbeats 4000000
/-! Dicts whose keys are tuples of ints. -/
namespace DL
open PySem PySem.Spec PyProof.Rows L2
def addL (kss : List (List Int)) (k : List Int) : List (List Int) := if k ∈ kss then kss else kss ++ [k]
theorem inl_inj : ∀ {a b : List Int}, a.map (Sum.inl : Int → Key) = b.map Sum.inl → a = b := fun h => map_inj' (fun _ _ e => Sum.inl.inj e) h
theorem kvT_any (ks : List (List Int)) (k : List Int) : ((kvT ks).any fun kv => decide (kv.1 = (k.map Sum.inl : List Key))) = decide (k ∈ ks) := by
  induction ks with
  | nil => rfl
  | cons a ks ih =>
    show (decide ((a.map Sum.inl : List Key) = k.map Sum.inl) || (kvT ks).any _) = _
    rw [ih]
    by_cases e : a = k
    · subst e; simp
    · have e' : ¬ k = a := fun z => e z.symm
      have e2 : ¬ (a.map Sum.inl : List Key) = k.map Sum.inl := fun z => e (inl_inj z)
      rw [decide_eq_false e2, Bool.false_or]
      simp [e']
theorem putK_T (ks : List (List Int)) (k : List Int) : putK (kvT ks) (k.map Sum.inl) (.bl true) = kvT (addL ks k) := by
  unfold putK addL
  rw [kvT_any]
  by_cases h : k ∈ ks
  · rw [if_pos (decide_eq_true h), if_pos h]
    unfold kvT
    rw [List.map_map]
    refine List.map_congr_left fun a _ => ?_
    show (if (a.map Sum.inl : List Key) = k.map Sum.inl then ((a.map Sum.inl : List Key), V.bl true) else _) = _
    split <;> rfl
  · rw [if_neg (by simp [h]), if_neg h]
    unfold kvT
    rw [List.map_append]
    rfl
theorem addL_len (ks : List (List Int)) (k : List Int) : (addL ks k).length ≤ ks.length + 1 := by
  unfold addL
  split
  · omega
  · rw [List.length_append]; simp
theorem kvT_len (ks : List (List Int)) : (kvT ks).length = ks.length := List.length_map _
theorem kV_inl (k : List Int) : (k.map (Sum.inl : Int → Key)).map kV = k.map V.int := by rw [List.map_map]; rfl
/-- a fresh tuple of ints -/
def EvNT (K : PySem.W.Frag) (te : TE) (ρ : Rho) (ns : List Int) : Prop := ∀ (F : List Addr) (σ : L2.St) (H : Hp), EnvOk K F H σ ρ → Live F H → ∀ Q : VK, (∀ p H', H p = none → Same H H' → H' p = some (.tup (ns.map V.int)) → Q (.ref p) H') → te σ H Q
abbrev XNT (X : Cx) (ρ : Rho) (e : Expr) (ns : List Int) : Prop := EvNT X.K (cE X e) ρ ns
section
variable {X : Cx} {F : List Addr} {H0 : Hp} {ρ ρ' : Rho} {o : Own} {Dn : Ends} {e ix : Expr} {sts : List Stmt} {pos p p2 p3 p4 : Pos} {ns : List Int} {kss : List (List Int)} {scope : Scope}
theorem xnt_tuple (ml : X.mg "tuple" = none) (h : XE X ρ e (.list (ns.map .int))) (hg : Gl X "tuple" := by rfl) (he : starEach (e :: []) X.env = (false, eval e X.env) :: starEach [] X.env := by rfl) (hpl : (backTo pos (starEach [] X.env)).any (·.1) = false := by rfl) :
    XNT X ρ (.Call (.Name "tuple" p) [e] [] pos) ns := fun F σ H en li Q q => cE_of (pe_callTy call_tuple_of hg ml PyProof.Rows.boot_tuple pA (by decide) (by decide) he hpl) (xa1 h he F σ H en li _ fun vs H1 s1 r0 => by
  obtain ⟨v, rfl, r⟩ := r0.one'
  obtain ⟨a, ws, rfl, h1, h2⟩ := r.l
  rw [dpAll_ints h2] at h1
  refine ⟨a, _, rfl, .inl ⟨Same.seq hid_le h1, fun l hl => q l _ ?_ (s1.trans (same_upd hl)) upd_same⟩⟩
  cases h : H l with
  | none => rfl
  | some o => rw [s1 l o h] at hl; cases hl)
/-- (x, y), a fresh tuple -/
theorem xnt_pair {a b : Expr} {i j : Int} {k : Nat} (ha : XE X ρ a (.int i)) (hb : XE X ρ b (.int j)) (hs1 : starEach (a :: [b]) X.env = (false, eval a X.env) :: starEach [b] X.env := by rfl) (hs2 : starEach (b :: []) X.env = (false, eval b X.env) :: starEach [] X.env := by rfl) : XNT X ρ (.Tuple [a, b] k pos) [i, j] := fun F σ H en li Q q =>
  cE_of (pe_tup pA) (xa_cons ha (xa_cons hb xa_nil hs2) hs1 F σ H en li _ fun vs H1 s1 r1 => by
    obtain ⟨u, v, rfl, ru, rv⟩ := r1.two
    rw [ru.i, rv.i]
    refine ⟨by simp; decide, fun p hp => q p _ ?_ (s1.trans (same_upd hp)) upd_same⟩
    cases h : H p with
    | none => rfl
    | some o => rw [s1 p o h] at hp; cases hp)
/-- x = {} -/
theorem sx_ownT (i : Nat) {n : Str} (hN : X.N.Nodup) (h : ∀ l, H0 l = none → SX X F H0 (ρ.set i none) (.dT i l []) sts Dn) (hi : X.N[i]? = some n := by rfl) (hx : Loc X.env.scope n := by first | exact Or.inl rfl | exact Or.inr rfl) (hil : i < ρ.length := by simp) (hs : swapsWith (.Dict [] [] p2) (some (.Name n p)) pos.line X.env = pure false := by rfl)
    (hf : X.fn n = true ∨ X.env.scope.names.lookup n = some .local := by first | exact .inl rfl | exact .inr rfl) : SX X F H0 ρ .no (.Assign [.Name n p] (.Dict [] [] p2) pos :: sts) Dn := fun σ H s => cSs_cons (ps_set hN hi hx pe_dnewT hs hf) fun l hl => by
  have hl0 : H0 l = none := by
    cases q : H0 l with
    | none => rfl
    | some u => rw [s.same l u (by simp [Own.ads]) q] at hl; cases hl
  have s1 := same_upd (o := HO.dT []) hl
  have e' : EnvOk X.K (l :: F) (upd H l (.dT [])) (σ.set i (some (.ref l))) (ρ.set i none) := EnvOk.setN (EnvOk.mono s.env (hid_new hl s1))
  exact h l hl0 _ _ ⟨e', fun x u n q => s1 x u (s.same x u (by simp [Own.ads]) q), s.live.mono s1, s.live.out hl, by rw [List.getElem?_set_self (by rw [s.env.len]; exact hil)], upd_same⟩
/-- d[(..)] = True -/
theorem sx_putT {i : Nat} {l : Addr} {n : Str} {p1 : Pos} {kk : Nat} (hu : X.A.units + 1 < cLine) (he : XNT X ρ ix ns) (h : SX X F H0 ρ (.dT i l (addL kss ns)) sts Dn) (hz : kss.length ≤ 100000) (hN : X.N[i]? = some n := by rfl) (hv : Vis X.env.scope n := by first | exact Or.inl rfl | exact Or.inr (Or.inl rfl) | exact Or.inr (Or.inr rfl))
    (hdb : (n == ("__debug__" : Str)) = false := by decide) (hcd : (n == ("__classdict__" : Str)) = false := by decide)
    (hs : swapsWith (.Constant (.bool true) kk p3) (some (.Subscript (.Name n p) ix p1)) pos.line X.env = pure false := by rfl) :
    SX X F H0 ρ (.dT i l kss) (.Assign [.Subscript (.Name n p) ix p1] (.Constant (.bool true) kk p3) pos :: sts) Dn := fun σ H s => by
  refine cSs_cons (ps_dput hu (pe_var hN hv hdb hcd) pE pe_bl hs) ?_
  obtain ⟨h1, h2, h3⟩ := s.own
  refine ⟨.ref l, h2, he _ σ H s.env s.lives _ fun b H1 hb s1 eb => ?_⟩
  have hbl : l ≠ b := fun z => by rw [← z, h3] at hb; cases hb
  refine ⟨l, _, rfl, DPut.t (k := ns.map Sum.inl) (s1 l _ h3) (by rw [kV_inl]; exact eb) (by rw [kvT_len]; exact Nat.lt_of_le_of_lt hz (by decide)), ?_⟩
  rw [putK_T]
  refine h _ _ ⟨?_, fun x u n q => ?_, fun a m => ?_, h1, h2, upd_same⟩
  · have e1 : EnvOk X.K (l :: F) H1 σ ρ := (s.grow s1).env
    have hid' : hid (l :: F) (upd H1 l (.dT (kvT (addL kss ns)))) = hid (l :: F) H1 := by
      funext a
      by_cases m : a ∈ l :: F
      · rw [hid_in m, hid_in m]
      · rw [hid_out m, hid_out m, upd_ne fun z => m (by simp [z])]
    exact ⟨e1.len, fun i d q => by
      obtain ⟨u, g1, g2⟩ := e1.at_ i d q
      refine ⟨u, g1, ?_⟩
      show Rp X.K (hid (l :: F) (upd H1 l (.dT (kvT (addL kss ns))))) u d
      rw [hid']; exact g2⟩
  · rw [upd_ne (by simpa [Own.ads] using n)]
    exact s1 x u (s.same x u n q)
  · rw [upd_ne (show a ≠ l from fun z => h1 (by rw [← z]; exact m))]
    exact s.live.mono s1 a m
/-- x = [list(t) for t in d], d the own dict -/
theorem sx_listsT {i ib jt : Nat} {l : Addr} {nd nb nt : Str} {px py pt pl pc : Pos} (hc : X.calm = true) (hNd : X.N.Nodup) (ml : X.mg "list" = none) (h : SX X F H0 (ρ.set ib (some (.list (kss.map fun k => .list (k.map .int))))) (.dT i l kss) sts Dn) (hz : kss.length ≤ 100000)
    (hib : i ≠ ib) (hjl : jt < ρ.length) (ok : BlkOk X.N X.env.scope scope [(nt, jt)]) (hN : X.N[i]? = some nd := by rfl) (hNb : X.N[ib]? = some nb := by rfl) (hNt : X.N[jt]? = some nt := by rfl) (hbl : X.env.scope.names.lookup nb = some .local := by rfl)
    (hv : Vis X.env.scope nd := by first | exact Or.inl rfl | exact Or.inr (Or.inl rfl) | exact Or.inr (Or.inr rfl))
    (hx : ∀ (s : Shared) (H : Hp) (C : Addr) (cl : List (Str × Addr)) (fp : List Addr), LocB (X.blk s H scope (compEnvC scope cl C X.env) fp) nt := by first | exact fun _ _ _ _ _ => .inl rfl | exact fun _ _ _ _ _ => .inr ⟨rfl, rfl⟩)
    (hvt : ∀ (s : Shared) (H : Hp) (C : Addr) (cl : List (Str × Addr)) (fp : List Addr), Vis (X.blk s H scope (compEnvC scope cl C X.env) fp).env.scope nt := by first | exact fun _ _ _ _ _ => .inl rfl | exact fun _ _ _ _ _ => .inr (.inl rfl))
    (hg : ∀ (s : Shared) (H : Hp) (C : Addr) (cl : List (Str × Addr)) (fp : List Addr), Gl (X.blk s H scope (compEnvC scope cl C X.env) fp) "list" := by exact fun _ _ _ _ _ => rfl)
    (hse : ∀ (s : Shared) (H : Hp) (C : Addr) (cl : List (Str × Addr)) (fp : List Addr), starEach (.Name nt pt :: []) (compEnvC scope cl C X.env) = (false, eval (.Name nt pt) (compEnvC scope cl C X.env)) :: starEach [] (compEnvC scope cl C X.env) := by exact fun _ _ _ _ _ => rfl)
    (hpl : ∀ (C : Addr) (cl : List (Str × Addr)), (backTo p3 (starEach [] (compEnvC scope cl C X.env))).any (·.1) = false := by exact fun _ _ => rfl)
    (hdb : (nd == ("__debug__" : Str)) = false := by decide) (hcd : (nd == ("__classdict__" : Str)) = false := by decide) (hdb2 : (nt == ("__debug__" : Str)) = false := by decide) (hcd2 : (nt == ("__classdict__" : Str)) = false := by decide)
    (hs : ∀ x, foldedSetIterable (.Name nd px) X.env x = pure x := by intro _; rfl)
    (hsw : swapsWith (.ListComp (.Call (.Name "list" pl) [.Name nt pt] [] p3) [⟨.Name nt p4, .Name nd px, [], 0⟩] scope pc) (some (.Name nb py)) pos.line X.env = pure true := by rfl) :
    SX X F H0 ρ (.dT i l kss) (.Assign [.Name nb py] (.ListComp (.Call (.Name "list" pl) [.Name nt pt] [] p3) [⟨.Name nt p4, .Name nd px, [], 0⟩] scope pc) pos :: sts) Dn := fun σ H s => by
  obtain ⟨h1, h2, h3⟩ := s.own
  refine cSs_cons (ps_lock (ps_setLc (te := fun σ H Q => ∀ (s : Shared) (H0 : Hp) (C : Addr) (cl : List (Str × Addr)) (fp : List Addr), cE (X.blk s H0 scope (compEnvC scope cl C X.env) fp) (.Call (.Name "list" pl) [.Name nt pt] [] p3) σ H Q) hc hNd hNb hbl hsw (pi_keys (pe_var hN hv hdb hcd)) ok (fun s H C cl fp => pg_name hNd hNt (hx s H C cl fp).loc (hx s H C cl fp).fn) (fun s H C cl fp => pts_nil)
    (fun s H C cl fp => ⟨fun pins s1 σ1 H1 Q I h => h s H C cl fp pins s1 I⟩) hs)) ?_
  refine ⟨l, .dT (kvT kss), h3, trivial, fun od => ⟨.ref l, h2, l, od, rfl, .inr ⟨kvT kss, upd_same, fun Dl hD => ?_⟩⟩⟩
  have nDl : Dl ≠ l := fun z => by rw [z, upd_same] at hD; cases hD
  have hD0 : H Dl = none := by rw [upd_ne nDl] at hD; exact hD
  have hDF : Dl ∉ F := s.live.out hD0
  refine ⟨fun k m Hk => m = kss.length - k ∧ k ≤ kss.length ∧ Hk l = some (.frz od (.dT (kvT kss))) ∧ (∀ a u, a ≠ l → H a = some u → Hk a = some u) ∧ ∃ vs, Hk Dl = some (.lst vs) ∧ DpAll X.K (hid (Dl :: l :: F) Hk) vs ((kss.take k).map fun k => .list (k.map .int)) ∧ vs.length = k,
    ⟨kss.length, rfl, Nat.zero_le _, by rw [upd_ne nDl.symm, upd_same], fun a u n e => by rw [upd_ne (ne_of_none e hD0), upd_ne n]; exact e, [], upd_same, .nil, rfl⟩, ?_⟩
  rintro k m Hk ⟨rfl, hle, hl, old, vs, hv, da, hvl⟩
  by_cases hlt : k < kss.length
  · refine .inr ⟨⟨hl, by rw [kvT_len]; exact hlt⟩, fun Hn => k + 1 ≤ kss.length ∧ Hn l = some (.frz od (.dT (kvT kss))) ∧ (∀ a u, a ≠ l → H a = some u → Hn a = some u) ∧ ∃ vs, Hn Dl = some (.lst vs) ∧ DpAll X.K (hid (Dl :: l :: F) Hn) vs ((kss.take (k + 1)).map fun k => .list (k.map .int)) ∧ vs.length = k + 1,
      fun H' a => ⟨kss.length - (k + 1), by omega, rfl, a⟩, fun x H' y => ?_⟩
    obtain ⟨eH, kk, v, q, hkv, rfl, hq⟩ := y
    have eH' := eH.symm
    subst eH'
    have hks : kss[k]? = some kss[k] := List.getElem?_eq_getElem hlt
    have htake : kss.take (k + 1) = kss.take k ++ [kss[k]] := by rw [List.take_add_one, hks]; rfl
    have ekk : kk = (kss[k]).map Sum.inl := by
      unfold kvT at hkv
      rw [List.getElem?_map, hks] at hkv
      cases hkv
      rfl
    rw [ekk, kV_inl] at hq
    refine ⟨wipe_eq (js := [jt]) (by rw [List.length_set]) (fun a m => m) (fun a m => by rw [List.getElem?_set_ne (fun z => m (by simp [z]))]), ?_⟩
    simp only [tYes, if_true]
    intro s2 H2 C cl fp
    refine cE_of (pe_callTy call_list_of (hg s2 H2 C cl fp) ml PyProof.Rows.boot_list (pa_cons (pe_var hNt (hvt s2 H2 C cl fp) hdb2 hcd2) pa_nil (hse s2 H2 C cl fp)) (by decide) (by decide) (hse s2 H2 C cl fp) (hpl C cl)) ?_
    have hslot : ((L2.wipe σ [jt]).set jt (some (V.ref q)))[jt]? = some (some (.ref q)) := by
      rw [List.getElem?_set_self]
      rw [wipe_length, s.env.len]
      exact hjl
    refine ⟨.ref q, hslot, q, _, rfl, .inr (.inl (.inl hq)), fun p hp => ?_⟩
    have npD : p ≠ Dl := fun z => by rw [z, hv] at hp; cases hp
    have npl : p ≠ l := fun z => by rw [z, hl] at hp; cases hp
    have npF : p ∉ F := fun m => by
      have := s.live p m
      cases e : H p with
      | none => exact this e
      | some u => rw [old p u npl e] at hp; cases hp
    have sp : Same Hk (upd Hk p (.lst ((kss[k]).map V.int))) := same_upd hp
    refine ⟨vs, by rw [upd_ne npD.symm]; exact hv, Nat.lt_of_le_of_lt (show vs.length ≤ 100000 by omega) (by decide), hlt, by rw [upd_ne nDl.symm, upd_ne npl.symm]; exact hl, fun a u n e => by rw [upd_ne (ne_of_none e hD0), upd_ne (ne_of_none (old a u n e) hp)]; exact old a u n e, _, upd_same, ?_, by rw [List.length_append, hvl]; rfl⟩
    have hid4 : hid (Dl :: l :: F) (upd (upd Hk p (.lst ((kss[k]).map V.int))) Dl (.lst (vs ++ [.ref p]))) = hid (Dl :: l :: F) (upd Hk p (.lst ((kss[k]).map V.int))) := by
      funext a
      by_cases m : a ∈ Dl :: l :: F
      · rw [hid_in m, hid_in m]
      · rw [hid_out m, hid_out m, upd_ne fun z => m (by simp [z])]
    rw [hid4, htake, List.map_append]
    refine DpAll.append (dpAll_mono (hid_mono sp) da) (DpAll.one (.lst (.inl (.inl ?_)) (dp_ints _)))
    rw [hid_out (by simp [npD, npl, npF]), upd_same]
  · have e : k = kss.length := by omega
    refine .inl ⟨⟨hl, by rw [kvT_len]; omega⟩, hl, ?_⟩
    have sH : Same H (upd Hk l (.dT (kvT kss))) := fun a u hu' => by
      by_cases z : a = l
      · rw [z] at hu' ⊢
        rw [upd_same, ← hu', h3]
      · rw [upd_ne z]; exact old a u z hu'
    have hidl : hid (l :: F) (upd Hk l (.dT (kvT kss))) = hid (l :: F) Hk := by
      funext a
      by_cases m : a ∈ l :: F
      · rw [hid_in m, hid_in m]
      · rw [hid_out m, hid_out m, upd_ne fun z => m (by simp [z])]
    refine h _ _ ((s.grow sH).set (.inl (.lst (xs := vs) (.inl (.inl ?_)) ?_)) (by intro z; exact hib (Option.some.inj z)))
    · show hid (l :: F) (upd Hk l (.dT (kvT kss))) Dl = _
      rw [hid_out (by simp [nDl, hDF]), upd_ne nDl]; exact hv
    · show DpAll X.K (hid (l :: F) (upd Hk l (.dT (kvT kss)))) vs _
      rw [hidl]
      rw [e, List.take_length] at da
      exact dpAll_mono (hid_sub fun _ m => List.mem_cons_of_mem _ m) da
end
end DL
set_option Elab.async false
set_option linter.all false
set_option maxRecDepth 100000
set_option maxHeartbeats 4000000
namespace DL
open PySem PySem.Spec PyProof.Rows L2
def grownStep (c : Co) (some : List Nat) (m : Nat) : List Nat := if (!decide (m ∈ spanN some) && some.all fun o => btw c m o == 0) = true then some ++ [m] else some
def someN (c : Co) (ms : List Nat) : List Nat := (List.range (1 <<< c.n)).foldl (grownStep c) ms
def growN (c : Co) (ms : List Nat) : List Nat := sortN (spanN (someN c ms))
theorem grownFold {c : Co} : ∀ (l : List Nat) {acc : List Nat} {k : Nat}, (∀ m, m ∈ acc → m < 16) → (∀ m, m ∈ l → m < 16) → acc.length ≤ k → (∀ m, m ∈ l.foldl (grownStep c) acc → m < 16) ∧ (l.foldl (grownStep c) acc).length ≤ k + l.length
  | [], acc, k, h, _, hk => ⟨h, hk⟩
  | m :: l, acc, k, h, hl, hk => by
    have h1 : (∀ x, x ∈ grownStep c acc m → x < 16) ∧ (grownStep c acc m).length ≤ k + 1 := by
      unfold grownStep
      split
      · refine ⟨fun x hx => ?_, by rw [List.length_append]; show _ + 1 ≤ _; omega⟩
        rcases List.mem_append.mp hx with hx | hx
        · exact h x hx
        · rw [List.mem_singleton.mp hx]; exact hl m List.mem_cons_self
      · exact ⟨h, by omega⟩
    have := grownFold (c := c) l h1.1 (fun x hx => hl x (List.mem_cons_of_mem _ hx)) h1.2
    refine ⟨this.1, ?_⟩
    have := this.2
    rw [List.foldl_cons, List.length_cons]
    omega
abbrev sFirst : Stmt := topS 42
theorem scFirst : FnScope ["company", "masks", "some", "mask", "letters", "other"] ["company"] (defScope sFirst) := ⟨rfl, rfl, rfl, by decide +kernel, rfl, by decide +kernel, by decide +kernel⟩
/-- the masks in the order of their texts -/
def ordM (n : Nat) : List Nat := isort rk (List.range (1 <<< n))
def firstStep (c : Co) (some : List Nat) (m : Nat) : List Nat := if (some.all fun o => btw c m o == 0) = true then some ++ [m] else some
def firstN (c : Co) : List Nat := (ordM c.n).foldl (firstStep c) []
section
variable {P : Program} {w : World} {K : PySem.W.Frag} {mg : Str → Option Value} {base : Heap} {f : Addr} {fd : FuncData} {k : Nat}
def Rgrown (ds : List D) (d : D) : Prop := ∃ (c : Co) (ms : List Nat), c ∈ comps ∧ (∀ m, m ∈ ms → m < 16) ∧ ms.length ≤ 12 ∧ ds = [encC c, .list (intsD ms)] ∧ d = .list (intsD (growN c ms))
theorem pow16 {c : Co} (g : Good c) : 1 <<< c.n ≤ 16 := by rw [shl_pow]; exact Nat.pow_le_pow_right (n := 2) (by decide) g.n4
theorem ok_grown (F : Fun K "grown" "grown" sGrown f fd) (M : Nm mg) (C1 : Callee P w K mg base 1 "span" Rspan) (C2 : Callee P w K mg base 2 "between" Rbetween) : FnOk P w K mg base CX0 3 f fd ["company", "masks"] (spD K Rgrown) :=
  fn_d F scGrown (by rintro _ _ ⟨c, _, _, _, _, rfl, rfl⟩; rfl) (by decide) fun cdv A outer s H E hr ds d hR G H0 Dn rt => by
    obtain ⟨c, ms, hc, hm, hl, rfl, rfl⟩ := hR
    have g := good_of hc
    have n4 := g.n4
    have hpow := pow16 g
    have hr1 := hr.mono (show 1 ≤ 2 by decide)
    have fold : ∀ i, i ≤ 1 <<< c.n → (∀ m, m ∈ (List.range i).foldl (grownStep c) ms → m < 16) ∧ ((List.range i).foldl (grownStep c) ms).length ≤ 28 := fun i hi => by
      have := grownFold (c := c) (List.range i) hm (fun m h => by have := List.mem_range.mp h; omega) hl
      rw [List.length_range] at this
      exact ⟨this.1, by omega⟩
    refine sx_own 2 scGrown.nd (xn_list M.list (xe_var 1)) fun l hl => ?_
    refine sx_for (xs := List.range (1 <<< c.n)) (enc := fun (i : Nat) => .int (i : Int)) 3 (fun _ => [some (encC c), some (.list (intsD ms)), none, none, none]) (fun i => .lst 2 l (intsD ((List.range i).foldl (grownStep c) ms))) scGrown.nd
      (xi_rangeN M.range (xe_shlN (i := 1) xe_int (xe_ixT (d := .int (c.n : Int)) (xe_var 0) xe_int rfl) (by decide) (by omega)) (by omega)) (fun σ H H1 s => s) (fun _ => rfl) (fun _ => by intro h; cases h) (fun i m H1 hx _ => ?_) ?_
    · obtain ⟨rfl, hm'⟩ := range_at hx
      obtain ⟨f1, f2⟩ := fold m (by omega)
      have st : (List.range (m + 1)).foldl (grownStep c) ms = grownStep c ((List.range m).foldl (grownStep c) ms) m := by rw [List.range_succ, List.foldl_append]; rfl
      generalize (List.range m).foldl (grownStep c) ms = acc at f1 f2 st
      have so := spanN_ok f1
      refine sx_if (k := (!decide (m ∈ spanN acc) && acc.all fun o => btw c m o == 0)) (xw_t (xw_and (xt_is (xt_notInDI (hu_of hr) (xe_var 3) (xe_call C1 hr1 (xa1 (xe_var 2)) ⟨acc, f1, rfl, rfl⟩) (fun z => so.ne (List.map_eq_nil_iff.mp z))) (by congr 1; exact decide_eq_decide.mpr toI_mem)) fun _ =>
        xw_and1 (xt_val (xe_allF (xs := acc) (g := fun o => btw c m o == 0) M.all (xn_e (xn_lc (xs := acc) (enc := fun (i : Nat) => .int (i : Int)) (h := fun o => .bool (btw c m o == 0)) 4 scGrown.nd (xi_list (xe_var 2)) (blkOk_by (N := ["company", "masks", "some", "mask", "other"]) (sc := defScope sGrown) (by decide +kernel))
          (fun _ _ _ _ _ o ho => xe_eqN (j := 0) (xe_call C2 hr (xa3 (xe_var 0) (xe_var 3) (xe_var 4)) ⟨c, m, o, hc, rfl, rfl⟩) xe_int) (by omega))))))) (fun ht => ?_) fun ht => ?_
      · refine sx_app (d := .int (m : Int)) (xe_var 3) (sx_k (sx_nil fun σ H s => ?_)) (by rw [intsD_len]; omega)
        rw [st]
        unfold grownStep
        rw [if_pos ht, ← intsD_app]
        exact Stt.forget (k := 3) s
      · refine sx_k (sx_nil fun σ H s => ?_)
        rw [st]
        unfold grownStep
        rw [if_neg (by rw [ht]; decide)]
        exact Stt.forget (k := 3) s
    · rw [List.length_range]
      obtain ⟨f1, f2⟩ := fold _ (Nat.le_refl _)
      have so := spanN_ok f1
      exact sx_rtO rt (by intro a m; simp [Own.ads] at m; rw [m]; exact hl) (xe_is (xe_sortedDI (es := toI (growN c ms)) rfl M.sorted (xe_call C1 hr1 (xa1 (xe_var 2)) ⟨_, f1, rfl, rfl⟩) (fun z => so.ne (List.map_eq_nil_iff.mp z)) (by rw [toI_len]; have := so.len; omega) (sortN_perm _) (sortN_strict so.nd)) (by rw [intsD_toI]))
theorem firstFold {c : Co} : ∀ (l : List Nat) {acc : List Nat}, (∀ m, m ∈ l.foldl (firstStep c) acc → m ∈ acc ∨ m ∈ l) ∧ ((acc ++ l).Nodup → (l.foldl (firstStep c) acc).Nodup)
  | [], acc => ⟨fun m h => .inl h, fun h => by simpa using h⟩
  | m :: l, acc => by
    obtain ⟨h1, h2⟩ := firstFold (c := c) l (acc := firstStep c acc m)
    have hs : firstStep c acc m = acc ++ [m] ∨ firstStep c acc m = acc := by unfold firstStep; split <;> simp
    rw [List.foldl_cons]
    rcases hs with e | e
    · rw [e] at h1 h2 ⊢
      refine ⟨fun x hx => ?_, fun h => h2 (by simpa using h)⟩
      rcases h1 x hx with h | h
      · rcases List.mem_append.mp h with h | h
        · exact .inl h
        · rw [List.mem_singleton.mp h]; exact .inr List.mem_cons_self
      · exact .inr (List.mem_cons_of_mem _ h)
    · rw [e] at h1 h2 ⊢
      refine ⟨fun x hx => (h1 x hx).imp id (List.mem_cons_of_mem _), fun h => h2 ?_⟩
      have := List.nodup_append.mp h
      exact List.nodup_append.mpr ⟨this.1, (List.nodup_cons.mp this.2.1).2, fun a ha b hb => this.2.2 a ha b (List.mem_cons_of_mem _ hb)⟩
theorem ordM_nd (n : Nat) : (ordM n).Nodup := (isort_perm rk _).nodup_iff.mpr List.nodup_range
theorem ordM_lt {n m : Nat} (h : 1 <<< n ≤ 16) (hm : m ∈ ordM n) : m < 16 := by have := List.mem_range.mp ((isort_mem rk).mp hm); omega
def RfirstLot (ds : List D) (d : D) : Prop := ∃ c : Co, c ∈ comps ∧ ds = [encC c] ∧ d = .tuple (ltD (isort rk (firstN c)))
theorem ok_firstLot (F : Fun K "first_lot" "first_lot" sFirst f fd) (M : Nm mg) (C1 : Callee P w K mg base 3 "need_company" RneedCompany) (C2 : Callee P w K mg base 2 "inner" Rinner) (C3 : Callee P w K mg base 1 "letters_of" RlettersOf) (C4 : Callee P w K mg base 2 "between" Rbetween) : FnOk P w K mg base CX0 4 f fd ["company"] (spD K RfirstLot) :=
  fn_d F scFirst (by rintro _ _ ⟨c, _, rfl, rfl⟩; rfl) (by decide) fun cdv A outer s H E hr ds d hR G H0 Dn rt => by
    obtain ⟨c, hc, rfl, rfl⟩ := hR
    have g := good_of hc
    have n4 := g.n4
    have hpow := pow16 g
    have hr1 := hr.mono (show 1 ≤ 3 by decide)
    have hr2 := hr.mono (show 2 ≤ 3 by decide)
    have hol : (ordM c.n).length ≤ 16 := by unfold ordM; rw [isort_len, List.length_range]; exact hpow
    have fold : ∀ i, (∀ m, m ∈ ((ordM c.n).take i).foldl (firstStep c) [] → m < 16) ∧ (((ordM c.n).take i).foldl (firstStep c) []).Nodup := fun i => by
      obtain ⟨h1, h2⟩ := firstFold (c := c) ((ordM c.n).take i) (acc := [])
      refine ⟨fun m hm => ?_, h2 (by simpa using (ordM_nd c.n).sublist (List.take_sublist _ _))⟩
      rcases h1 m hm with h | h
      · cases h
      · exact ordM_lt hpow (List.mem_of_mem_take h)
    refine sx_expr (xe_call C1 hr (xa1 (xe_var 0)) ⟨c, hc, rfl, rfl⟩) ?_
    refine sx_setLc (ds := intsD (ordM c.n)) 1 (xlc_is (xlc_lc (xs := ordM c.n) (enc := fun m => .str (lt m)) (h := fun (m : Nat) => .int (m : Int)) 4 scFirst.nd (xi_list (xe_is (xe_sorted (es := ltD (ordM c.n)) hr.units M.sorted (xn_e (xn_lc (xs := List.range (1 <<< c.n)) (enc := fun (i : Nat) => .int (i : Int)) (h := fun m => .str (lt m)) 3 scFirst.nd
        (xi_rangeN M.range (xe_shlN (i := 1) xe_int (xe_ixT (d := .int (c.n : Int)) (xe_var 0) xe_int rfl) (by decide) (by omega)) (by omega)) (blkOk_by (N := ["company", "masks", "some", "mask", "letters", "other"]) (sc := defScope sFirst) (by decide +kernel))
        (fun _ _ _ _ _ m hm => xe_call C3 hr1 (xa1 (xe_var 3)) ⟨m, by have := List.mem_range.mp hm; omega, rfl, rfl⟩) (by rw [List.length_range]; omega)))
        (texts_srt List.nodup_range fun m hm => by have := List.mem_range.mp hm; omega)) rfl)) (blkOk_by (N := ["company", "masks", "some", "mask", "letters", "other"]) (sc := defScope sFirst) (by decide +kernel))
      (fun _ _ _ _ _ m hm => xe_ixT (d := .int (m : Int)) (xe_call C2 hr2 (xa1 (xe_tup (xa2 (xe_var 4) (xe_int (i := 0))))) ⟨(m, 0), ordM_lt hpow hm, rfl, rfl⟩) xe_int rfl) (by omega)) rfl) ?_ (ho := by intro z; cases z)
    refine sx_own 2 scFirst.nd (xn_lst xa_nil) fun l hl => ?_
    refine sx_for (xs := ordM c.n) (enc := fun (i : Nat) => .int (i : Int)) 3 (fun _ => [some (encC c), some (.list (intsD (ordM c.n))), none, none, none, none]) (fun i => .lst 2 l (intsD (((ordM c.n).take i).foldl (firstStep c) []))) scFirst.nd
      (xi_list (xe_var 1)) (fun σ H H1 s => s) (fun _ => rfl) (fun _ => by intro h; cases h) (fun i m H1 hx _ => ?_) ?_
    · obtain ⟨f1, f2⟩ := fold i
      have f3 := nodup_len 16 _ f2 f1
      have st : ((ordM c.n).take (i + 1)).foldl (firstStep c) [] = firstStep c (((ordM c.n).take i).foldl (firstStep c) []) m := by rw [List.take_add_one, hx, List.foldl_append]; rfl
      generalize ((ordM c.n).take i).foldl (firstStep c) [] = acc at f1 f2 f3 st
      refine sx_if (k := acc.all fun o => btw c m o == 0) (xt_val (xe_allF (xs := acc) (g := fun o => btw c m o == 0) M.all (xn_e (xn_lc (xs := acc) (enc := fun (i : Nat) => .int (i : Int)) (h := fun o => .bool (btw c m o == 0)) 5 scFirst.nd (xi_list (xe_var 2)) (blkOk_by (N := ["company", "masks", "some", "mask", "letters", "other"]) (sc := defScope sFirst) (by decide +kernel))
          (fun _ _ _ _ _ o ho => xe_eqN (j := 0) (xe_call C4 hr2 (xa3 (xe_var 0) (xe_var 3) (xe_var 5)) ⟨c, m, o, hc, rfl, rfl⟩) xe_int) (by omega))))) (fun ht => ?_) fun ht => ?_
      · refine sx_app (d := .int (m : Int)) (xe_var 3) (sx_k (sx_nil fun σ H s => ?_)) (by rw [intsD_len]; omega)
        rw [st]
        unfold firstStep
        rw [if_pos ht, ← intsD_app]
        exact Stt.forget (k := 3) s
      · refine sx_k (sx_nil fun σ H s => ?_)
        rw [st]
        unfold firstStep
        rw [if_neg (by rw [ht]; decide)]
        exact Stt.forget (k := 3) s
    · obtain ⟨f1, f2⟩ := fold (ordM c.n).length
      rw [List.take_length] at f1 f2 ⊢
      have f3 := nodup_len 16 _ f2 f1
      exact sx_rtO rt (by intro a m; simp [Own.ads] at m; rw [m]; exact hl) (xe_tuple M.tuple (xe_sorted hr.units M.sorted (xn_e (xn_lc (xs := firstN c) (enc := fun (i : Nat) => .int (i : Int)) (h := fun m => .str (lt m)) 3 scFirst.nd (xi_list (xe_var 2)) (blkOk_by (N := ["company", "masks", "some", "mask", "letters", "other"]) (sc := defScope sFirst) (by decide +kernel))
        (fun _ _ _ _ _ m hm => xe_call C3 hr1 (xa1 (xe_var 3)) ⟨m, f1 m hm, rfl, rfl⟩) (by unfold firstN; omega))) (texts_srt f2 f1)))
end
end DL
set_option Elab.async false
set_option linter.all false
set_option maxRecDepth 100000
set_option maxHeartbeats 4000000
/-! Defs that raise NotCommuting. -/
namespace DL
open PySem PySem.Spec PyProof.Rows L2
def clsBody : Stmt → List Stmt
  | .ClassDef _ _ _ b .. => b
  | _ => []
abbrev sNcI : Stmt := (clsBody (topS 4)).getD 0 (.Pass ⟨0, 0, 0, 0⟩)
theorem scNcI : FnScope ["self", "one", "other"] ["self", "one", "other"] (defScope sNcI) := ⟨rfl, rfl, rfl, by decide +kernel, rfl, by decide +kernel, by decide +kernel⟩
structure NcC (K : PySem.W.Frag) (mg : Str → Option Value) (C fI : Addr) : Prop where
  gC : mg "NotCommuting" = some (.ref C)
  T : OexC K C
  X : XfC K C
  iC : PySem.W.findIn K (.ref C) "__init__" = some (some (.ref fI))
  tI : PySem.W.typeIn K (.ref fI) = some (.type "function")
  n1 : PySem.W.findIn K (.ref C) "one" = some none
  n2 : PySem.W.findIn K (.ref C) "other" = some none
  ex : PySem.W.exmOne K (.ref C) (.ref C) = some true
def ncFs (i j : Int) : List (Str × V) := [("other", .int j), ("one", .int i)]
def spNcI (K : PySem.W.Frag) : Sp := fun vs H Q _ => ∃ (a C : Addr) (i j : Int), vs = [.ref a, .int i, .int j] ∧ OexC K C ∧ PySem.W.findIn K (.ref C) "one" = some none ∧ PySem.W.findIn K (.ref C) "other" = some none ∧ H a = some (exo a C none) ∧
  ∀ dx, H dx = none → dx ≠ a → Q .non (upd (upd (upd H dx (exd dx [("one", .int i)])) a (exo a C (some dx))) dx (exd dx (ncFs i j)))
section
variable {P : Program} {w : World} {K : PySem.W.Frag} {mg : Str → Option Value} {base : Heap} {f : Addr} {fd : FuncData} {k : Nat}
theorem ok_ncI (F : Fun K "__init__" "NotCommuting.__init__" sNcI f fd) : FnOk P w K mg base CX0 1 f fd ["self", "one", "other"] (spNcI K) := by
  refine F.ok scNcI (fun vs H Q E h => ?_) fun cdv A outer s H vs Q E hr h => ?_
  · obtain ⟨a, C, i, j, rfl, _⟩ := h; rfl
  · obtain ⟨a, C, i, j, rfl, T, n1, n2, ha, q⟩ := h
    refine ⟨_, pss_cons (ps_ost (pv 0) (pv 1)) (pss_one (ps_ost (pv 0) (pv 2))), ?_⟩
    exact ⟨.int i, rfl, .ref a, rfl, a, C, rfl, T, n1, .inl ⟨ha, fun dx hd hne => ⟨.int j, rfl, .ref a, rfl, a, C, rfl, T, n2, .inr ⟨dx, [("one", .int i)], upd_same, by rw [upd_ne hne, upd_same], by show 1 ≤ 900; decide, q dx hd hne⟩⟩⟩⟩
/-- the error's wish -/
def ErrAt (C : Addr) (H : Hp) (i j : Int) (E : XK) : Prop := ∀ (dd : Addr) (H' : Hp), Same H H' → H dd = none → (∃ fs, H' dd = some (.xd fs) ∧ fs.lookup ("one" : Str) = some (.int i) ∧ fs.lookup ("other" : Str) = some (.int j)) → E (.ref C) (some dd) H'
theorem ErrAt.grow {C : Addr} {H H' : Hp} {i j : Int} {E : XK} (h : ErrAt C H i j E) (s : Same H H') : ErrAt C H' i j E := fun dd H2 s2 hd q => h dd H2 (s.trans s2) (by
  cases z : H dd with
  | none => rfl
  | some u => rw [s dd u z] at hd; cases hd) q
def spDX (K : PySem.W.Frag) (C : Addr) (R : List D → D → Prop) (RX : List D → Int → Int → Prop) : Sp := fun vs H Q E => ∃ (ds : List D) (F : List Addr), RpAll K (hid F H) vs ds ∧ Live F H ∧
  ((∃ d, R ds d ∧ ∀ v H', Same H H' → Rp K (hid F H') v d → Q v H') ∨ ∃ i j, RX ds i j ∧ ErrAt C H i j E)
/-- a def that may raise keeps its promise by data -/
theorem fn_dx {C : Addr} {x qual : Str} {st : Stmt} {f : Addr} {fd : FuncData} {N ps : List Str} {k : Nat} {R : List D → D → Prop} {RX : List D → Int → Int → Prop} (F : Fun K x qual st f fd) (S : FnScope N ps (defScope st)) (hl1 : ∀ ds d, R ds d → ds.length = ps.length) (hl2 : ∀ ds i j, RX ds i j → ds.length = ps.length) (hN : ps.length ≤ N.length)
    (body : ∀ (cdv : Value) (A : Around) (outer : List Env) (s : Shared) (H : Hp) (E : XK), Room k (A.deeper (envOfC qual (defScope st) s.heap.objs.size f cdv)) → ∀ (ds : List D) (G : List Addr) (H0 : Hp) (Dn : Ends), ((∃ d, R ds d ∧ Rt K G H0 Dn d) ∨ ∃ i j, RX ds i j ∧ ErrAt C H0 i j E) →
      SX (cxOf (L2.CX P w) P w K mg base N qual (defScope st) f cdv A outer s H E) G H0 (ds.map some ++ List.replicate (N.length - ds.length) none) .no (defBody st) Dn) :
    FnOk P w K mg base (L2.CX P w) (k + 1) f fd ps (spDX K C R RX) := by
  have hlen : ∀ ds, ((∃ d, R ds d) ∨ ∃ i j, RX ds i j) → ds.length = ps.length := fun ds h => by
    rcases h with ⟨d, h⟩ | ⟨i, j, h⟩
    · exact hl1 ds d h
    · exact hl2 ds i j h
  refine F.okX S (fun vs H Q E h => ?_) fun cdv A outer s H vs Q E hr h => ?_
  · obtain ⟨ds, G, r, _, h⟩ := h
    rw [r.length]; exact hlen ds (h.imp (fun ⟨d, h, _⟩ => ⟨d, h⟩) fun ⟨i, j, h, _⟩ => ⟨i, j, h⟩)
  · obtain ⟨ds, G, r, li, h⟩ := h
    have hl := hlen ds (h.imp (fun ⟨d, h, _⟩ => ⟨d, h⟩) fun ⟨i, j, h, _⟩ => ⟨i, j, h⟩)
    refine ⟨_, pSs, body cdv A outer s H E hr ds G H _ ?_ _ _ ⟨?_, fun _ _ _ z => z, li, trivial⟩⟩
    · rcases h with ⟨d, hR, q⟩ | h
      · exact .inl ⟨d, hR, q, fun e σ H' s1 => q _ _ s1 (by rw [e]; exact rp_n)⟩
      · exact .inr h
    · exact rpAll_env r (by rw [r.length, hl]; exact hN)
/-- a def that may raise, as called -/
structure CalleeX (P : Program) (w : World) (K : PySem.W.Frag) (mg : Str → Option Value) (base : Heap) (C : Addr) (k : Nat) (n : Str) (f : Addr) (R : List D → D → Prop) (RX : List D → Int → Int → Prop) : Prop where
  hm : mg n = some (.ref f)
  hk : PySem.W.keepIn K (.ref f) = true
  ex : ∃ (fd : FuncData) (ps : List Str), FnOk P w K mg base (L2.CX P w) k f fd ps (spDX K C R RX) ∧ Binds K fd ps []
end
section
variable {X : Cx} {F : List Addr} {H0 : Hp} {ρ ρ' : Rho} {o : Own} {Dn : Ends} {e a b c tg iter : Expr} {es : List Expr} {sts body : List Stmt} {pos p pos2 : Pos} {d : D} {ds : List D}
theorem sx_nox (h : SX X.nox F H0 ρ o sts Dn) : SX X F H0 ρ o sts Dn := fun σ H s => cSs_of (PSs.nox pSs) (h σ H s)
/-- f(..) as a statement, f may raise -/
theorem sx_exprX {C f : Addr} {k : Nat} {n : Str} {R : List D → D → Prop} {RX : List D → Int → Int → Prop} {E : XK} (Cc : CalleeX X.prog X.w X.K X.mg X.base C k n f R RX) (hr : Room k X.A) (tk : Takes X (fun cls d _ H => E cls d H)) (hn : ∀ a, a ∈ o.ads → H0 a = none) (ha : XA X (o.sh ρ) (e :: es) ds)
    (h : (∃ d, R ds d ∧ SX X F H0 ρ o sts Dn) ∨ ∃ i j, RX ds i j ∧ ErrAt C H0 i j E) (hg : Gl X n := by rfl) (hdb : (n == ("__debug__" : Str)) = false := by decide)
    (he : starEach (e :: es) X.env = (false, eval e X.env) :: starEach es X.env := by rfl) (hpl : (backTo pos (starEach es X.env)).any (·.1) = false := by rfl)
    (hs : swapsWith (.Call (.Name n p) (e :: es) [] pos) none pos2.line X.env = pure false := by rfl) : SX X F H0 ρ o (.Expr (.Call (.Name n p) (e :: es) [] pos) pos2 :: sts) Dn := fun σ H s => by
  obtain ⟨fd, ps, G, hb⟩ := Cc.ex
  refine cSs_cons (ps_expr (pe_callS (E := WE (fun cls d _ H => E cls d H)) G hr hg Cc.hm Cc.hk hb (fun σ => passAt tk σ) pA hdb he hpl) hs) ?_
  refine ha F σ H s.shared s.live _ fun vs H1 s1 r1 => ⟨ds, F, r1, s.live.mono s1, ?_⟩
  rcases h with ⟨d, hR, h⟩ | ⟨i, j, hR, q⟩
  · exact .inl ⟨d, hR, fun v H2 s2 r2 => h _ _ ((s.grow s1).grow s2)⟩
  · exact .inr ⟨i, j, hR, q.grow ((s.all hn).trans s1)⟩
/-- raise NotCommuting(i, j) -/
theorem sx_raise {C fI : Addr} {k : Nat} {fd : FuncData} {E : XK} {i j : Int} (N : NcC X.K X.mg C fI) (F1 : FnOk X.prog X.w X.K X.mg X.base CX0 k fI fd ["self", "one", "other"] (spNcI X.K)) (hb : Binds X.K fd ["self", "one", "other"] []) (hr : Room (k + 1) X.A) (hc : X.calm = true) (tk : Takes X (fun cls d _ H => E cls d H))
    (hn : ∀ a, a ∈ o.ads → H0 a = none) (ha : XA X (o.sh ρ) [a, b] [.int i, .int j]) (q : ErrAt C H0 i j E) (hg : Gl X "NotCommuting" := by rfl)
    (he : starEach (a :: [b]) X.env = (false, eval a X.env) :: starEach [b] X.env := by rfl) (hpl : (backTo pos (starEach [b] X.env)).any (·.1) = false := by rfl) :
    SX X F H0 ρ o (.Raise (some (.Call (.Name "NotCommuting" p) [a, b] [] pos)) none pos2 :: sts) Dn := fun σ H s => by
  refine cSs_cons (ps_raise hc tk (pmk_oex (dvs := []) N.T N.iC N.tI F1 hr hb .nil pass0 hg N.gC pA (by decide) he hpl)) ?_
  refine ha F σ H s.shared s.live _ fun vs H1 s1 r1 => ?_
  obtain ⟨u, v, rfl, ru, rv⟩ := r1.two
  rw [ru.i, rv.i]
  refine ⟨by simp, fun a h1 => ⟨a, C, i, j, rfl, N.T, N.n1, N.n2, upd_same, fun dx hd hne => ⟨rfl, dx, ncFs i j, by rw [upd_ne (Ne.symm hne), upd_same], upd_same, ?_, ?_⟩⟩⟩
  · rw [upd_ne hne] at hd; exact hd
  · rw [upd_ne hne] at hd
    refine q dx _ (fun x u hx => ?_) ?_ ⟨ncFs i j, upd_same, rfl, rfl⟩
    · have h := s1 x u (s.all hn x u hx)
      have n1 : x ≠ a := fun z => by rw [z, h1] at h; cases h
      have n2 : x ≠ dx := fun z => by rw [z, hd] at h; cases h
      rw [upd_ne n2, del_ne n1, upd_ne n2, upd_ne n1, upd_ne n2, upd_ne n1]; exact h
    · cases z : H0 dx with
      | none => rfl
      | some u => rw [s1 dx u (s.all hn dx u z)] at hd; cases hd
end
abbrev sNeedComm : Stmt := topS 36
abbrev sGreatestLot : Stmt := topS 38
abbrev sHowMany : Stmt := topS 41
theorem scNeedComm : FnScope ["company", "kinds", "told"] ["company", "kinds"] (defScope sNeedComm) := ⟨rfl, rfl, rfl, by decide +kernel, rfl, by decide +kernel, by decide +kernel⟩
theorem scGreatestLot : FnScope ["company", "kinds", "told"] ["company", "kinds"] (defScope sGreatestLot) := ⟨rfl, rfl, rfl, by decide +kernel, rfl, by decide +kernel, by decide +kernel⟩
theorem scHowMany : FnScope ["company", "kinds", "base", "left", "size", "found", "step", "told"] ["company", "kinds"] (defScope sHowMany) := ⟨rfl, rfl, rfl, by decide +kernel, rfl, by decide +kernel, by decide +kernel⟩
def ArgsK (c : Co) (ks : List (Nat × Nat)) (ds : List D) : Prop := c ∈ comps ∧ (∀ k, k ∈ ks → KindOk c k) ∧ ks.length ≤ 12 ∧ ds = [encC c, .tuple (ks.map encK)]
def RneedComm (ds : List D) (d : D) : Prop := ∃ (c : Co) (ks : List (Nat × Nat)), ArgsK c ks ds ∧ Clash c ks .none ∧ d = .none
def XneedComm (ds : List D) (i j : Int) : Prop := ∃ (c : Co) (ks : List (Nat × Nat)), ArgsK c ks ds ∧ Clash c ks (.tuple [.int i, .int j])
section
variable {P : Program} {w : World} {K : PySem.W.Frag} {mg : Str → Option Value} {base : Heap} {f C fI : Addr} {fd fdI : FuncData} {k : Nat}
theorem ok_needComm (F : Fun K "need_commuting" "need_commuting" sNeedComm f fd) (N : NcC K mg C fI) (FI : Fun K "__init__" "NotCommuting.__init__" sNcI fI fdI) (hbI : Binds K fdI ["self", "one", "other"] []) (C1 : Callee P w K mg base 3 "need_company" RneedCompany) (C2 : Callee P w K mg base 4 "need_kinds" RneedKinds) (C3 : Callee P w K mg base 3 "clash_of" RclashOf) :
    FnOk P w K mg base (L2.CX P w) 5 f fd ["company", "kinds"] (spDX K C RneedComm XneedComm) :=
  fn_dx F scNeedComm (by rintro _ _ ⟨c, ks, ⟨_, _, _, rfl⟩, _⟩; rfl) (by rintro _ _ _ ⟨c, ks, ⟨_, _, _, rfl⟩, _⟩; rfl) (by decide) fun cdv A outer s H E hr ds G H0 Dn h => by
    have hr3 := hr.mono (show 3 ≤ 4 by decide)
    have key : ∃ (c : Co) (ks : List (Nat × Nat)), ArgsK c ks ds ∧ ((Clash c ks .none ∧ Rt K G H0 Dn .none) ∨ ∃ i j : Int, Clash c ks (.tuple [.int i, .int j]) ∧ ErrAt C H0 i j E) := by
      rcases h with ⟨d, ⟨c, ks, ha, hc, rfl⟩, rt⟩ | ⟨i, j, ⟨c, ks, ha, hc⟩, q⟩
      · exact ⟨c, ks, ha, .inl ⟨hc, rt⟩⟩
      · exact ⟨c, ks, ha, .inr ⟨i, j, hc, q⟩⟩
    obtain ⟨c, ks, ⟨hc, hk, hl, rfl⟩, key⟩ := key
    refine sx_expr (xe_call C1 hr3 (xa1 (xe_var 0)) ⟨c, hc, rfl, rfl⟩) ?_
    refine sx_expr (xe_call C2 hr (xa2 (xe_var 0) (xe_var 1)) ⟨c, ks, hc, hk, hl, rfl, rfl⟩) ?_
    rcases key with ⟨hcl, rt⟩ | ⟨i, j, hcl, q⟩
    · refine sx_set (d := .none) 2 scNeedComm.nd (xe_call C3 hr3 (xa2 (xe_var 0) (xe_var 1)) ⟨c, ks, hc, hk, hl, rfl, hcl⟩) ?_ (ho := by intro z; cases z)
      refine sx_unless (xt_is (xt_notN (d := .none) (xe_var 2)) rfl) ?_
      exact sx_end rt (fun a m => by cases m)
    · refine sx_set (d := .tuple [.int i, .int j]) 2 scNeedComm.nd (xe_call C3 hr3 (xa2 (xe_var 0) (xe_var 1)) ⟨c, ks, hc, hk, hl, rfl, hcl⟩) ?_ (ho := by intro z; cases z)
      refine sx_if (k := true) (xt_is (xt_notN (d := .tuple [.int i, .int j]) (xe_var 2)) rfl) (fun _ => ?_) (fun z => nomatch z)
      exact sx_raise (i := i) (j := j) N (ok_ncI FI) hbI (hr.mono (show 2 ≤ 4 by decide)) rfl (takes_of rfl rfl rfl rfl) (fun a m => by cases m) (xa2 (xe_ixT (d := .int i) (xe_var 2) xe_int rfl) (xe_ixT (d := .int j) (xe_var 2) xe_int rfl)) q
end
end DL
set_option Elab.async false
set_option linter.all false
set_option maxRecDepth 100000
set_option maxHeartbeats 4000000
namespace DL
open PySem PySem.Spec PyProof.Rows L2
theorem sortN_nd {l : List Nat} (h : l.Nodup) : (sortN l).Nodup := (isort_perm id l).nodup_iff.mpr h
theorem sortN_mem {l : List Nat} {x : Nat} : x ∈ sortN l ↔ x ∈ l := isort_mem id
theorem someN_ok {c : Co} {ms : List Nat} (g : Good c) (hm : ∀ m, m ∈ ms → m < 16) (hl : ms.length ≤ 12) : ∀ m, m ∈ someN c ms → m < 16 := by
  have hpow := pow16 g
  exact (grownFold (c := c) (List.range (1 <<< c.n)) hm (fun m h => by have := List.mem_range.mp h; omega) hl).1
theorem growN_ok {c : Co} {ms : List Nat} (g : Good c) (hm : ∀ m, m ∈ ms → m < 16) (hl : ms.length ≤ 12) : (growN c ms).Nodup ∧ ∀ m, m ∈ growN c ms → m < 16 := by
  have so := spanN_ok (someN_ok g hm hl)
  exact ⟨sortN_nd so.nd, fun m h => so.lt m (sortN_mem.mp h)⟩
def RgLot (ds : List D) (d : D) : Prop := ∃ (c : Co) (ks : List (Nat × Nat)), ArgsK c ks ds ∧ Clash c ks .none ∧ d = .list ((kindsOf (growN c (ks.map (·.1)))).map encK)
/-- what spans with the silent -/
def baseN (c : Co) (ks : List (Nat × Nat)) : List Nat := spanN (silentN c ++ ks.map (·.1))
def RhowMany (ds : List D) (d : D) : Prop := ∃ (c : Co) (ks : List (Nat × Nat)) (u : Nat), ArgsK c ks ds ∧ Clash c ks .none ∧ (∀ i, i < u → szN c <<< i < (baseN c ks).length) ∧ (baseN c ks).length ≤ szN c <<< u ∧ u ≤ rankN c / 2 ∧ d = .int (prodN (rankN c / 2 - u) : Int)
section
variable {P : Program} {w : World} {K : PySem.W.Frag} {mg : Str → Option Value} {base : Heap} {f fN C : Addr} {fd : FuncData} {k : Nat}
theorem ok_gLot (F : Fun K "greatest_lot" "greatest_lot" sGreatestLot f fd) (CN : CalleeX P w K mg base C 5 "need_commuting" fN RneedComm XneedComm) (C1 : Callee P w K mg base 2 "as_kinds" RasKinds) (C2 : Callee P w K mg base 3 "grown" Rgrown) (C3 : Callee P w K mg base 2 "inner" Rinner) :
    FnOk P w K mg base (L2.CX P w) 6 f fd ["company", "kinds"] (spDX K C RgLot XneedComm) :=
  fn_dx F scGreatestLot (by rintro _ _ ⟨c, ks, ⟨_, _, _, rfl⟩, _⟩; rfl) (by rintro _ _ _ ⟨c, ks, ⟨_, _, _, rfl⟩, _⟩; rfl) (by decide) fun cdv A outer s H E hr ds G H0 Dn h => by
    rcases h with ⟨d, ⟨c, ks, ha, hcl, rfl⟩, rt⟩ | ⟨i, j, hx, q⟩
    · obtain ⟨hc, hk, hl, rfl⟩ := id ha
      have g := good_of hc
      have hr3 := hr.mono (show 3 ≤ 5 by decide)
      have hr2 := hr.mono (show 2 ≤ 5 by decide)
      have hm : ∀ m, m ∈ ks.map (·.1) → m < 16 := fun m h => by
        obtain ⟨x, hx, rfl⟩ := List.mem_map.mp h
        exact (hk x hx).l16 g
      have gr := growN_ok g hm (by rw [List.length_map]; exact hl)
      refine sx_exprX CN hr (takes_of rfl rfl rfl rfl) (fun a m => by cases m) (xa2 (xe_var 0) (xe_var 1)) (.inl ⟨.none, ⟨c, ks, ha, hcl, rfl⟩, ?_⟩)
      refine sx_nox ?_
      exact sx_rt rt (xe_call C1 hr2 (xa1 (xe_call C2 hr3 (xa2 (xe_var 0) (xe_is (xn_e (xn_lc (xs := ks) (enc := encK) (h := fun k => .int (k.1 : Int)) 2 scGreatestLot.nd (xi_tup (xe_var 1)) (blkOk_by (N := ["company", "kinds", "told"]) (sc := defScope sGreatestLot) (by decide +kernel))
        (fun _ _ _ _ _ k hk' => xe_ixT (d := .int (k.1 : Int)) (xe_call C3 hr2 (xa1 (xe_var 2)) ⟨k, (hk k hk').l16 g, rfl, rfl⟩) xe_int rfl) (by omega))) (by unfold intsD; rw [List.map_map]; rfl)))
        ⟨c, ks.map (·.1), hc, hm, by rw [List.length_map]; exact hl, rfl, rfl⟩)) ⟨_, gr.1, gr.2, rfl, rfl⟩)
    · obtain ⟨c, ks, ha, hcl⟩ := id hx
      obtain ⟨hc, hk, hl, rfl⟩ := id ha
      exact sx_exprX CN hr (takes_of rfl rfl rfl rfl) (fun a m => by cases m) (xa2 (xe_var 0) (xe_var 1)) (.inr ⟨i, j, hx, q⟩)
theorem ok_howMany (F : Fun K "how_many_with" "how_many_with" sHowMany f fd) (M : Nm mg) (CN : CalleeX P w K mg base C 5 "need_commuting" fN RneedComm XneedComm) (C1 : Callee P w K mg base 1 "span" Rspan) (C2 : Callee P w K mg base 2 "silent_masks" RsilentMasks) (C3 : Callee P w K mg base 2 "inner" Rinner) (C4 : Callee P w K mg base 3 "rank_of" RrankOf) :
    FnOk P w K mg base (L2.CX P w) 6 f fd ["company", "kinds"] (spDX K C RhowMany XneedComm) :=
  fn_dx F scHowMany (by rintro _ _ ⟨c, ks, _, ⟨_, _, _, rfl⟩, _⟩; rfl) (by rintro _ _ _ ⟨c, ks, ⟨_, _, _, rfl⟩, _⟩; rfl) (by decide) fun cdv A outer s H E hr ds G H0 Dn h => by
    rcases h with ⟨d, ⟨c, ks, u, ha, hcl, hu1, hu2, hu3, rfl⟩, rt⟩ | ⟨i, j, hx, q⟩
    · obtain ⟨hc, hk, hl, rfl⟩ := id ha
      have g := good_of hc
      have n4 := g.n4
      have t := tok_of hc
      have hrk : rankN c ≤ c.n := Nat.sub_le _ _
      have hr3 := hr.mono (show 3 ≤ 5 by decide)
      have hr2 := hr.mono (show 2 ≤ 5 by decide)
      have hr1 := hr.mono (show 1 ≤ 5 by decide)
      have hpow := pow16 g
      have hm : ∀ m, m ∈ silentN c ++ ks.map (·.1) → m < 16 := fun m h => by
        rcases List.mem_append.mp h with h | h
        · have := List.mem_range.mp (List.mem_filter.mp h).1; omega
        · obtain ⟨x, hx, rfl⟩ := List.mem_map.mp h
          exact (hk x hx).l16 g
      have so := spanN_ok hm
      have sl := so.len
      have bne : toI (baseN c ks) ≠ [] := fun z => so.ne (List.map_eq_nil_iff.mp z)
      refine sx_exprX CN hr (takes_of rfl rfl rfl rfl) (fun a m => by cases m) (xa2 (xe_var 0) (xe_var 1)) (.inl ⟨.none, ⟨c, ks, ha, hcl, rfl⟩, ?_⟩)
      refine sx_nox ?_
      refine sx_set (d := dictI (toI (baseN c ks))) 2 scHowMany.nd (xe_call C1 hr1 (xa1 (xe_is (xe_cat (xe_call C2 hr2 (xa1 (xe_var 0)) ⟨c, hc, rfl, rfl⟩) (xn_e (xn_lc (xs := ks) (enc := encK) (h := fun k => .int (k.1 : Int)) 7 scHowMany.nd (xi_tup (xe_var 1)) (blkOk_by (N := ["company", "kinds", "base", "left", "size", "found", "step", "told"]) (sc := defScope sHowMany) (by decide +kernel))
        (fun _ _ _ _ _ k hk' => xe_ixT (d := .int (k.1 : Int)) (xe_call C3 hr2 (xa1 (xe_var 7)) ⟨k, (hk k hk').l16 g, rfl, rfl⟩) xe_int rfl) (by omega))) (by rw [intsD_len, List.length_map]; have := t.s; show szN c + _ ≤ _; omega)) (by unfold intsD; rw [List.map_append, List.map_map]; rfl)))
        ⟨_, hm, rfl, rfl⟩) ?_ (ho := by intro z; cases z)
      refine sx_par 3 4 (x := .int ((rankN c / 2 : Nat) : Int)) (y := .int (szN c : Int)) scHowMany.nd (xa2 (xe_divN (j := 2) (xe_call C4 hr3 (xa1 (xe_var 0)) ⟨c, hc, rfl, rfl⟩) xe_int (by decide) (by decide)) (xe_is (xe_lenL M.len (xe_call C2 hr2 (xa1 (xe_var 0)) ⟨c, hc, rfl, rfl⟩)) (by rw [intsD_len]; rfl))) rfl rfl ?_ (o1 := by intro z; cases z) (o2 := by intro z; cases z)
      refine sx_while u (fun i => [some (encC c), some (.tuple (ks.map encK)), some (dictI (toI (baseN c ks))), some (.int ((rankN c / 2 - i : Nat) : Int)), some (.int (szN c <<< i : Nat)), none, none, none]) (fun _ => .no) (fun σ H s => s)
        (fun i hi => xt_is (xt_ltN (i := szN c <<< i) (j := (baseN c ks).length) (xe_var 4) (xe_is (xe_lenDI M.len (xe_var 2) bne) (by rw [toI_len]))) (decide_eq_true (hu1 i hi)))
        (xt_is (xt_ltN (i := szN c <<< u) (j := (baseN c ks).length) (xe_var 4) (xe_is (xe_lenDI M.len (xe_var 2) bne) (by rw [toI_len]))) (decide_eq_false (by omega))) (fun i hi => ?_) ?_
      · have hsm : szN c <<< i < 17 := Nat.lt_of_lt_of_le (hu1 i hi) (by have : (baseN c ks).length ≤ 16 := sl; omega)
        refine sx_par 3 4 (x := .int ((rankN c / 2 - (i + 1) : Nat) : Int)) (y := .int (szN c <<< (i + 1) : Nat)) scHowMany.nd (xa2 (xe_is (xe_subN (i := rankN c / 2 - i) (j := 1) (xe_var 3) xe_int (by omega)) (by rw [Nat.sub_sub])) (xe_is (xe_mulN (i := szN c <<< i) (j := 2) (xe_var 4) xe_int (by omega)) (by rw [Nat.shiftLeft_eq, Nat.shiftLeft_eq, Nat.pow_succ, Nat.mul_assoc]))) rfl rfl ?_ (o1 := by intro z; cases z) (o2 := by intro z; cases z)
        exact sx_nil fun σ H s => s
      · refine sx_set (d := .int 1) 5 scHowMany.nd xe_int ?_ (ho := by intro z; cases z)
        generalize hq : rankN c / 2 - u = q
        refine sx_for (xs := List.range (q + 1 - 1)) (enc := fun (i : Nat) => .int ((1 + i : Nat) : Int)) 6 (fun i => [some (encC c), some (.tuple (ks.map encK)), some (dictI (toI (baseN c ks))), some (.int (q : Int)), some (.int (szN c <<< u : Nat)), some (.int (prodN i : Int)), none, none]) (fun _ => .no) scHowMany.nd
          (xi_range2N (n := 1) M.range xe_int (xe_addN (j := 1) (xe_var 3) xe_int) (by decide) (by omega)) (fun σ H H1 s => s) (fun _ => rfl) (fun _ => by intro h; cases h) (fun i m H1 hx _ => ?_) ?_
        · obtain ⟨rfl, hm⟩ := range_at hx
          have hp := prodN_le m (by omega)
          refine sx_mul (x := (prodN m : Int)) (y := ((1 <<< (1 + m) + 1 : Nat) : Int)) 5 scHowMany.nd rfl (xe_addN (j := 1) (xe_shlN (i := 1) xe_int (xe_var 6) (by decide) (by omega)) xe_int) (.inl ⟨by omega, by omega⟩) ?_
          refine sx_nil fun σ H s => ?_
          show Stt _ _ _ [some (encC c), some (.tuple (ks.map encK)), some (dictI (toI (baseN c ks))), some (.int (q : Int)), some (.int (szN c <<< u : Nat)), some (.int (prodN (m + 1) : Int)), none, none] _ σ H
          rw [prodN_succ, Int.natCast_mul]
          exact Stt.forget (k := 6) s
        · rw [List.length_range, Nat.add_sub_cancel]
          exact sx_rt rt (xe_is (xe_var 5) (by rw [hq]))
    · obtain ⟨c, ks, ha, hcl⟩ := id hx
      obtain ⟨hc, hk, hl, rfl⟩ := id ha
      exact sx_exprX CN hr (takes_of rfl rfl rfl rfl) (fun a m => by cases m) (xa2 (xe_var 0) (xe_var 1)) (.inr ⟨i, j, hx, q⟩)
end
end DL
set_option Elab.async false
set_option linter.all false
set_option maxRecDepth 100000
set_option maxHeartbeats 4000000
namespace DL
open PySem PySem.Spec PyProof.Rows L2
/-! ### data that are compared -/
theorem layAll {ds : List D} (h : ∀ d, d ∈ ds → d.canLay0 = true) : PyData.canLayAll0 ds = true := by
  induction ds with
  | nil => rfl
  | cons d ds ih =>
    show (d.canLay0 && PyData.canLayAll0 ds) = true
    rw [h d List.mem_cons_self, ih fun e he => h e (List.mem_cons_of_mem _ he)]
    rfl
theorem depAll {ds : List D} {n : Nat} (h : ∀ d, d ∈ ds → d.depth ≤ n) : PyData.depthAll ds ≤ n := by
  induction ds with
  | nil => simp [PyData.depthAll]
  | cons d ds ih =>
    have h1 := h d List.mem_cons_self
    have h2 := ih fun e he => h e (List.mem_cons_of_mem _ he)
    simp [PyData.depthAll]
    omega
theorem shaped_list {ds : List D} (h : ∀ d, d ∈ ds → d.canLay0 = true ∧ d.depth ≤ 60) : SeqAt.shaped (.list ds) = true := by
  have h1 := layAll fun d hd => (h d hd).1
  have h2 := depAll fun d hd => (h d hd).2
  unfold SeqAt.shaped
  refine Bool.and_eq_true_iff.mpr ⟨h1, decide_eq_true ?_⟩
  simp [PyData.depth]
  omega
theorem shaped_tup {ds : List D} (h : ∀ d, d ∈ ds → d.canLay0 = true ∧ d.depth ≤ 60) : SeqAt.shaped (.tuple ds) = true := by
  have h1 := layAll fun d hd => (h d hd).1
  have h2 := depAll fun d hd => (h d hd).2
  unfold SeqAt.shaped
  refine Bool.and_eq_true_iff.mpr ⟨h1, decide_eq_true ?_⟩
  simp [PyData.depth]
  omega
theorem units65 {k : Nat} {A : Around} (r : Room (k + 1) A) : A.units + 65 < cLine := by have := r.un; omega
mutual
theorem eqv_self : ∀ d : D, d.canLay0 = true → PyData.eqv d d = true
  | .none, _ => by simp [PyData.eqv]
  | .bool _, _ => by simp [PyData.eqv]
  | .int _, _ => by simp [PyData.eqv]
  | .str _, _ => by simp [PyData.eqv]
  | .list xs, h => by simp only [PyData.eqv]; exact eqvAll_self xs h
  | .tuple xs, h => by simp only [PyData.eqv]; exact eqvAll_self xs h
  | .dict _, h => by cases h
theorem eqvAll_self : ∀ ds : List D, PyData.canLayAll0 ds = true → PyData.eqvAll ds ds = true
  | [], _ => by simp [PyData.eqvAll]
  | d :: ds, h => by
    have h' := Bool.and_eq_true_iff.mp h
    simp only [PyData.eqvAll, eqv_self d h'.1, eqvAll_self ds h'.2, Bool.and_self]
end
theorem lt_lay : ∀ (m : Nat), m < 16 → (PyData.str (lt m)).canLay0 = true := by decide +kernel
theorem encK_lay {k : Nat × Nat} (h : k.1 < 16) : (encK k).canLay0 = true := by
  show ((PyData.str (lt k.1)).canLay0 && (true && true)) = true
  rw [lt_lay _ h]; rfl
theorem encK_shaped {k : Nat × Nat} (h : k.1 < 16) : SeqAt.shaped (encK k) = true := shaped_tup fun d hd => by
  rcases List.mem_cons.mp hd with e | hd
  · rw [e]; exact ⟨lt_lay _ h, by simp [PyData.depth]⟩
  · rw [List.mem_singleton.mp hd]; exact ⟨rfl, by simp [PyData.depth]⟩
theorem kindsOf_mem {ms : List Nat} {k : Nat × Nat} : k ∈ kindsOf ms ↔ k.1 ∈ ms ∧ k.2 < 2 := by
  unfold kindsOf
  rw [withSigns_mem, isort_mem]
theorem kindsOf_len (ms : List Nat) : (kindsOf ms).length = 2 * ms.length := by unfold kindsOf; rw [withSigns_len, isort_len]
theorem kindsOf_inc {ms : List Nat} (hn : ms.Nodup) (hm : ∀ m, m ∈ ms → m < 16) : (kindsOf ms).Pairwise (fun k l => kkey k < kkey l) := withSigns_inc (isort_strict rk hn fun a ha b hb => rk_inj a (hm a ha) b (hm b hb))
abbrev sIsGreatest : Stmt := topS 39
theorem scIsGreatest : FnScope ["company", "value", "known", "pairs", "told", "at", "one", "other"] ["company", "value"] (defScope sIsGreatest) := ⟨rfl, rfl, rfl, by decide +kernel, rfl, by decide +kernel, by decide +kernel⟩
section
variable {P : Program} {w : World} {K : PySem.W.Frag} {mg : Str → Option Value} {base : Heap} {f : Addr} {fd : FuncData} {k : Nat}
def RisGreatest (ds : List D) (d : D) : Prop := ∃ (c : Co) (ms : List Nat), c ∈ comps ∧ ms.Nodup ∧ (∀ m, m ∈ ms → m < 1 <<< c.n) ∧ 2 * ms.length = 2 <<< (c.n - rankN c / 2) ∧ (∀ a, a ∈ ms → ∀ b, b ∈ ms → btw c a b = 0) ∧ ds = [encC c, .list ((kindsOf ms).map encK)] ∧ d = .bool true
theorem ok_isGreatest (F : Fun K "is_greatest" "is_greatest" sIsGreatest f fd) (M : Nm mg) (C1 : Callee P w K mg base 3 "need_company" RneedCompany) (C2 : Callee P w K mg base 3 "rank_of" RrankOf) (C3 : Callee P w K mg base 2 "all_kinds" RallKinds) (C4 : Callee P w K mg base 2 "inner" Rinner) (C5 : Callee P w K mg base 2 "between" Rbetween) :
    FnOk P w K mg base CX0 4 f fd ["company", "value"] (spD K RisGreatest) :=
  fn_d F scIsGreatest (by rintro _ _ ⟨c, ms, _, _, _, _, _, rfl, rfl⟩; rfl) (by decide) fun cdv A outer s H E hr ds d hR G H0 Dn rt => by
    obtain ⟨c, ms, hc, hn, hm, hlen, hcomm, rfl, rfl⟩ := hR
    have g := good_of hc
    have n4 := g.n4
    have hpow := pow16 g
    have hrk : rankN c ≤ c.n := Nat.sub_le _ _
    have hm16 : ∀ m, m ∈ ms → m < 16 := fun m h => by have := hm m h; omega
    have hl := nodup_len 16 ms hn hm16
    have kl := kindsOf_len ms
    have k16 : ∀ k, k ∈ kindsOf ms → k.1 < 16 ∧ k.2 < 2 := fun k h => ⟨hm16 _ (kindsOf_mem.mp h).1, (kindsOf_mem.mp h).2⟩
    have hr2 := hr.mono (show 2 ≤ 3 by decide)
    refine sx_expr (xe_call C1 hr (xa1 (xe_var 0)) ⟨c, hc, rfl, rfl⟩) ?_
    refine sx_unless (xt_is (xw_t (xw_or (xt_not (xt_val (k := true) (xe_isi (d := .list ((kindsOf ms).map encK)) (t := "list") (xe_var 1) M.isinstance M.list PyProof.Rows.boot_list kit_list_list)))
      fun _ => xw_or1 (xt_ne (i := ((2 * ms.length : Nat) : Int)) (j := ((2 <<< (c.n - rankN c / 2) : Nat) : Int)) (xe_is (xe_lenL M.len (xe_var 1)) (by rw [List.length_map, kl])) (xe_shlN (i := 2) xe_int (xe_subN (xe_ixT (d := .int (c.n : Int)) (xe_var 0) xe_int rfl) (xe_divN (j := 2) (xe_call C2 hr (xa1 (xe_var 0)) ⟨c, hc, rfl, rfl⟩) xe_int (by decide) (by decide)) (by omega)) (by decide) (by omega))))) (by rw [hlen]; simp)) ?_
    refine sx_set (d := .list ((kindsOf (List.range (1 <<< c.n))).map encK)) 2 scIsGreatest.nd (xe_call C3 hr2 (xa1 (xe_var 0)) ⟨c, hc, rfl, rfl⟩) ?_ (ho := by intro z; cases z)
    refine sx_unless (xt_not (xt_val (k := true) (xe_is (xe_allF (xs := kindsOf ms) (g := fun k => (true && (((kindsOf (List.range (1 <<< c.n))).map encK).any (fun z => PyData.eqv z (encK k)) && !false))) M.all (xn_e (xn_lc (xs := kindsOf ms) (enc := encK) 4 scIsGreatest.nd (xi_list (xe_var 1)) (blkOk_by (N := ["company", "value", "known", "pairs", "told", "at", "one", "other"]) (sc := defScope sIsGreatest) (by decide +kernel))
      (fun _ _ _ _ _ k hk => xe_and (k := true) (xe_isi (d := encK k) (t := "tuple") (xe_var 4) M.isinstance M.tuple PyProof.Rows.boot_tuple kit_tuple_tuple) fun _ => xe_and (xe_inD (units65 hr) (xe_var 4) (xe_var 2) (encK_shaped (k16 k hk).1) (shaped_list fun d hd => ?_)) fun _ => xe_one (xe_not (k := false) (xe_isi (d := .int (k.2 : Int)) (t := "bool") (xe_ixT (d := .int (k.2 : Int)) (xe_var 4) xe_int rfl) M.isinstance M.bool boot_bool' kit_int_bool))) (by omega)))) ?_))) ?_
    · obtain ⟨l, hl', rfl⟩ := List.mem_map.mp hd
      have := List.mem_range.mp (kindsOf_mem.mp hl').1
      exact ⟨encK_lay (by omega), encK_depth l⟩
    · congr 1
      refine List.all_eq_true.mpr fun k hk => ?_
      have hk' := kindsOf_mem.mp hk
      have : ((kindsOf (List.range (1 <<< c.n))).map encK).any (fun z => PyData.eqv z (encK k)) = true := List.any_eq_true.mpr ⟨encK k, List.mem_map.mpr ⟨k, kindsOf_mem.mpr ⟨List.mem_range.mpr (hm _ hk'.1), hk'.2⟩, rfl⟩, eqv_self _ (encK_lay (k16 k hk).1)⟩
      rw [this]; rfl
    · refine sx_set (d := .list ((kindsOf ms).map fun k => .tuple [.int (k.1 : Int), .int (k.2 : Int)])) 3 scIsGreatest.nd (xn_e (xn_lc (xs := kindsOf ms) (enc := encK) (h := fun k => .tuple [.int (k.1 : Int), .int (k.2 : Int)]) 4 scIsGreatest.nd (xi_list (xe_var 1)) (blkOk_by (N := ["company", "value", "known", "pairs", "told", "at", "one", "other"]) (sc := defScope sIsGreatest) (by decide +kernel))
        (fun _ _ _ _ _ k hk => xe_call C4 hr2 (xa1 (xe_var 4)) ⟨k, (k16 k hk).1, rfl, rfl⟩) (by omega))) ?_ (ho := by intro z; cases z)
      refine sx_unless (xt_is (xt_val (xe_anyF (xs := List.range ((kindsOf ms).length - 1)) (g := fun _ => false) M.any (xn_e (xn_lc (xs := List.range ((kindsOf ms).length - 1)) (enc := fun (i : Nat) => .int (i : Int)) (h := fun _ => .bool false) 5 scIsGreatest.nd
        (xi_rangeI M.range (xe_sub (i := ((kindsOf ms).length : Int)) (j := 1) (xe_is (xe_lenL M.len (xe_var 1)) (by rw [List.length_map])) xe_int) (by omega) (by omega)) (blkOk_by (N := ["company", "value", "known", "pairs", "told", "at", "one", "other"]) (sc := defScope sIsGreatest) (by decide +kernel))
        (fun _ _ _ _ _ a ha => ?_) (by rw [List.length_range]; omega))))) (by simp)) ?_
      · have ha' := List.mem_range.mp ha
        have h1 : a < (kindsOf ms).length := by omega
        have h2 : a + 1 < (kindsOf ms).length := by omega
        have q1 := k16 _ (List.getElem_mem h1)
        have q2 := k16 _ (List.getElem_mem h2)
        exact xe_geK (k := (kindsOf ms)[a]) (l := (kindsOf ms)[a + 1]) hr.units0 (xe_ixL (xe_var 1) (xe_var 5) (atI_map (List.getElem?_eq_getElem h1))) (xe_ixL (xe_var 1) (xe_addN (i := a) (j := 1) (xe_var 5) xe_int) (atI_map (List.getElem?_eq_getElem h2)))
          q1.1 q2.1 q1.2 q2.2 (List.pairwise_iff_getElem.mp (kindsOf_inc hn hm16) a (a + 1) h1 h2 (Nat.lt_succ_self a))
      · refine sx_rt rt (xe_is (xe_all (bs := (kindsOf ms).flatMap fun x => (kindsOf ms).map fun y => btw c x.1 y.1 == 0) rfl M.all (xe_is (xn_e (xn_lc2c (xs := kindsOf ms) (ys := kindsOf ms) (encA := fun k => .tuple [.int (k.1 : Int), .int (k.2 : Int)]) (encB := fun k => .tuple [.int (k.1 : Int), .int (k.2 : Int)]) (h := fun x y => .bool (btw c x.1 y.1 == 0)) 6 7 scIsGreatest.nd (xi_list (xe_var 3)) (blkOk_by (N := ["company", "value", "known", "pairs", "told", "at", "one", "other"]) (sc := defScope sIsGreatest) (by decide +kernel))
          (fun _ _ _ _ _ x hx => xi_list (xe_var 3)) (fun _ _ _ _ _ x y hx hy => xe_eqN (j := 0) (xe_call C5 hr2 (xa3 (xe_var 0) (xe_ixT (d := .int (x.1 : Int)) (xe_var 6) xe_int rfl) (xe_ixT (d := .int (y.1 : Int)) (xe_var 7) xe_int rfl)) ⟨c, x.1, y.1, hc, rfl, rfl⟩) xe_int) ?_)) ?_)) ?_)
        · have : (kindsOf ms).length ≤ 32 := by omega
          exact Nat.le_trans (Nat.mul_le_mul this this) (by decide)
        · rw [List.map_flatMap]
          simp only [List.map_map]
          rfl
        · congr 1
          refine List.all_eq_true.mpr fun b hb => ?_
          obtain ⟨x, hx, hb⟩ := List.mem_flatMap.mp hb
          obtain ⟨y, hy, rfl⟩ := List.mem_map.mp hb
          show (btw c x.1 y.1 == 0) = true
          rw [hcomm _ (kindsOf_mem.mp hx).1 _ (kindsOf_mem.mp hy).1]
          rfl
end
end DL
set_option Elab.async false
set_option linter.all false
set_option maxRecDepth 100000
set_option maxHeartbeats 4000000
namespace DL
open PySem PySem.Spec PyProof.Rows L2
theorem toI_inj : ∀ {a b : List Nat}, toI a = toI b → a = b := fun h => map_inj' (fun _ _ e => Int.ofNat.inj e) h
def addLN (acc : List (List Nat)) (b : List Nat) : List (List Nat) := if b ∈ acc then acc else acc ++ [b]
theorem addLN_I (acc : List (List Nat)) (b : List Nat) : addL (acc.map toI) (toI b) = (addLN acc b).map toI := by
  unfold addL addLN
  by_cases h : b ∈ acc
  · rw [if_pos h, if_pos (List.mem_map.mpr ⟨b, h, rfl⟩)]
  · rw [if_neg h, if_neg, List.map_append]; rfl
    intro z
    obtain ⟨a, ha, e⟩ := List.mem_map.mp z
    exact h (toI_inj e ▸ ha)
structure BOk (b : List Nat) : Prop where
  nd : b.Nodup
  lt : ∀ m, m ∈ b → m < 16
theorem BOk.len {b : List Nat} (h : BOk b) : b.length ≤ 16 := nodup_len 16 b h.nd h.lt
def laterStep (c : Co) (base : List Nat) (acc : List (List Nat)) (m : Nat) : List (List Nat) := if (!decide (m ∈ base) && base.all fun o => btw c m o == 0) = true then addLN acc (sortN (spanN (base ++ [m]))) else acc
def laterB (c : Co) (acc : List (List Nat)) (base : List Nat) : List (List Nat) := (List.range (1 <<< c.n)).foldl (laterStep c base) acc
def laterN (c : Co) (bs : List (List Nat)) : List (List Nat) := bs.foldl (laterB c) []
def basesN (c : Co) : Nat → List (List Nat)
  | 0 => [sortN (spanN (silentN c))]
  | t + 1 => laterN c (basesN c t)
structure AOk (acc : List (List Nat)) (k : Nat) : Prop where
  ok : ∀ b, b ∈ acc → BOk b
  len : acc.length ≤ k
theorem bok_span {ms : List Nat} (h : ∀ m, m ∈ ms → m < 16) : BOk (sortN (spanN ms)) := ⟨sortN_nd (spanN_ok h).nd, fun m hm => (spanN_ok h).lt m (sortN_mem.mp hm)⟩
theorem snoc_lt {base : List Nat} {m : Nat} (h : BOk base) (hm : m < 16) : ∀ x, x ∈ base ++ [m] → x < 16 := fun x hx => by
  rcases List.mem_append.mp hx with hx | hx
  · exact h.lt x hx
  · rw [List.mem_singleton.mp hx]; exact hm
theorem laterStep_ok {c : Co} {base : List Nat} {acc : List (List Nat)} {m k : Nat} (hb : BOk base) (h : AOk acc k) (hm : m < 16) : AOk (laterStep c base acc m) (k + 1) := by
  unfold laterStep
  split
  · unfold addLN
    split
    · exact ⟨h.ok, Nat.le_succ_of_le h.len⟩
    · refine ⟨fun b hb' => ?_, by rw [List.length_append]; exact Nat.succ_le_succ h.len⟩
      rcases List.mem_append.mp hb' with hb' | hb'
      · exact h.ok b hb'
      · rw [List.mem_singleton.mp hb']; exact bok_span (snoc_lt hb hm)
  · exact ⟨h.ok, Nat.le_succ_of_le h.len⟩
theorem laterFold_ok {c : Co} {base : List Nat} (hb : BOk base) : ∀ (l : List Nat) {acc : List (List Nat)} {k : Nat}, AOk acc k → (∀ m, m ∈ l → m < 16) → AOk (l.foldl (laterStep c base) acc) (k + l.length)
  | [], _, _, h, _ => h
  | m :: l, acc, k, h, hl => by
    have := laterFold_ok (c := c) hb l (laterStep_ok (c := c) hb h (hl m List.mem_cons_self)) fun x hx => hl x (List.mem_cons_of_mem _ hx)
    rw [List.foldl_cons, List.length_cons, show k + (l.length + 1) = k + 1 + l.length by omega]
    exact this
theorem laterB_ok {c : Co} (g : Good c) {base : List Nat} {acc : List (List Nat)} {k : Nat} (hb : BOk base) (h : AOk acc k) : AOk (laterB c acc base) (k + 16) := by
  have hpow := pow16 g
  have := laterFold_ok (c := c) hb (List.range (1 <<< c.n)) h fun m hm => by have := List.mem_range.mp hm; omega
  rw [List.length_range] at this
  exact ⟨this.ok, by have := this.len; unfold laterB; omega⟩
theorem laterBs_ok {c : Co} (g : Good c) : ∀ (bs : List (List Nat)) {acc : List (List Nat)} {k : Nat}, (∀ b, b ∈ bs → BOk b) → AOk acc k → AOk (bs.foldl (laterB c) acc) (k + 16 * bs.length)
  | [], _, _, _, h => h
  | b :: bs, acc, k, hb, h => by
    have := laterBs_ok g bs (fun x hx => hb x (List.mem_cons_of_mem _ hx)) (laterB_ok g (hb b List.mem_cons_self) h)
    rw [List.foldl_cons, List.length_cons, show k + 16 * (bs.length + 1) = k + 16 + 16 * bs.length by omega]
    exact this
theorem silent_lt {c : Co} (g : Good c) : ∀ m, m ∈ silentN c → m < 16 := fun m hm => by
  have := List.mem_range.mp (List.mem_filter.mp hm).1
  have := pow16 g
  omega
theorem basesN_ok {c : Co} (g : Good c) : ∀ t, AOk (basesN c t) (16 ^ t)
  | 0 => ⟨fun b hb => by rw [List.mem_singleton.mp hb]; exact bok_span (silent_lt g), Nat.le_refl _⟩
  | t + 1 => by
    have h := basesN_ok g t
    have := laterBs_ok g (basesN c t) h.ok (acc := []) (k := 0) ⟨by simp, Nat.le_refl _⟩
    refine ⟨this.ok, Nat.le_trans this.len ?_⟩
    rw [Nat.pow_succ]
    have := h.len
    omega
def lotD (b : List Nat) : D := .tuple (ltD b)
abbrev sGLots : Stmt := topS 40
theorem scGLots : FnScope ["company", "bases", "turn", "later", "base", "mask", "other", "told"] ["company"] (defScope sGLots) := ⟨rfl, rfl, rfl, by decide +kernel, rfl, by decide +kernel, by decide +kernel⟩
theorem prodN_200 : ∀ k, k < 3 → prodN k ≤ 200 := by decide +kernel
section
variable {P : Program} {w : World} {K : PySem.W.Frag} {mg : Str → Option Value} {base : Heap} {f : Addr} {fd : FuncData} {k : Nat}
def RgLots (ds : List D) (d : D) : Prop := ∃ (c : Co) (es : List D), c ∈ comps ∧ Srt ((basesN c (rankN c / 2)).map fun b => lotD (isort rk b)) es ∧ ds = [encC c] ∧ d = .list es
theorem ok_gLots (F : Fun K "greatest_lots" "greatest_lots" sGLots f fd) (M : Nm mg) (C1 : Callee P w K mg base 4 "count_greatest" RgCount) (C2 : Callee P w K mg base 1 "span" Rspan) (C3 : Callee P w K mg base 2 "silent_masks" RsilentMasks) (C4 : Callee P w K mg base 3 "rank_of" RrankOf) (C5 : Callee P w K mg base 2 "between" Rbetween) (C6 : Callee P w K mg base 1 "letters_of" RlettersOf) :
    FnOk P w K mg base CX0 5 f fd ["company"] (spD K RgLots) :=
  fn_d F scGLots (by rintro _ _ ⟨c, _, _, _, rfl, rfl⟩; rfl) (by decide) fun cdv A outer s H E hr ds d hR G H0 Dn rt => by
    obtain ⟨c, es, hc, hsr, rfl, rfl⟩ := hR
    have g := good_of hc
    have n4 := g.n4
    have hpow := pow16 g
    have hrk : rankN c ≤ c.n := Nat.sub_le _ _
    have hr3 := hr.mono (show 3 ≤ 4 by decide)
    have hr2 := hr.mono (show 2 ≤ 4 by decide)
    have hr1 := hr.mono (show 1 ≤ 4 by decide)
    obtain ⟨tk, lots⟩ := M.lots
    refine sx_unless (xt_is (xt_gtN (i := prodN (rankN c / 2)) (j := 200) (xe_call C1 hr (xa1 (xe_var 0)) ⟨c, hc, rfl, rfl⟩) (xe_globI lots)) (decide_eq_false (by have := prodN_200 (rankN c / 2) (by omega); omega))) ?_
    have so := spanN_ok (silent_lt g)
    refine sx_set (d := .list ((basesN c 0).map fun b => .list (intsD b))) 1 scGLots.nd (xe_is (xe_lst (ds := [.list (intsD (sortN (spanN (silentN c))))]) (xa1 (xe_is (xe_sortedDI (es := toI (sortN (spanN (silentN c)))) rfl M.sorted (xe_call C2 hr1 (xa1 (xe_call C3 hr2 (xa1 (xe_var 0)) ⟨c, hc, rfl, rfl⟩)) ⟨_, silent_lt g, rfl, rfl⟩) (fun z => so.ne (List.map_eq_nil_iff.mp z)) (by rw [toI_len]; have := so.len; omega) (sortN_perm _) (sortN_strict so.nd)) (by rw [intsD_toI])))) rfl) ?_ (ho := by intro z; cases z)
    refine sx_for (xs := List.range (rankN c / 2)) (enc := fun (i : Nat) => .int (i : Int)) 2 (fun i => [some (encC c), some (.list ((basesN c i).map fun b => .list (intsD b))), none, none, none, none, none, none]) (fun _ => .no) scGLots.nd
      (xi_rangeN M.range (xe_divN (j := 2) (xe_call C4 hr3 (xa1 (xe_var 0)) ⟨c, hc, rfl, rfl⟩) xe_int (by decide) (by decide)) (by omega)) (fun σ H H1 s => s) (fun _ => rfl) (fun _ => by intro h; cases h) (fun t t' H1 hx _ => ?_) ?_
    · obtain ⟨rfl, ht⟩ := range_at hx
      have bo := basesN_ok g t'
      have bl : (basesN c t').length ≤ 256 := Nat.le_trans bo.len (Nat.pow_le_pow_right (n := 16) (j := 2) (by decide) (by omega))
      refine sx_weak (ρ' := [some (encC c), some (.list ((basesN c t').map fun b => .list (intsD b))), none, none, none, none, none, none]) ?_ rfl (fun i d hi => by
        match i, hi with
        | 0, hi => exact hi
        | 1, hi => exact hi
        | 2, hi => cases hi
        | 3, hi => cases hi
        | 4, hi => cases hi
        | 5, hi => cases hi
        | 6, hi => cases hi
        | 7, hi => cases hi
        | n + 8, hi => cases hi)
      refine sx_ownT 3 scGLots.nd (fun l hl => ?_)
      refine sx_for (xs := basesN c t') (enc := fun b => .list (intsD b)) 4 (fun i => [some (encC c), some (.list ((basesN c t').map fun b => .list (intsD b))), none, none, none, none, none, none]) (fun i => .dT 3 l ((((basesN c t').take i).foldl (laterB c) []).map toI)) scGLots.nd
        (xi_list (xe_var 1)) (fun σ H H1 s => s) (fun _ => rfl) (fun _ => by intro h; cases h) (fun i b H2 hb _ => ?_) ?_
      · have hbo := bo.ok b (List.mem_of_getElem? hb)
        have hi := (List.getElem?_eq_some_iff.mp hb).1
        have acc0 := laterBs_ok g ((basesN c t').take i) (fun x hx => bo.ok x (List.mem_of_mem_take hx)) (acc := []) (k := 0) ⟨by simp, Nat.le_refl _⟩
        have al : (((basesN c t').take i).foldl (laterB c) []).length ≤ 4096 := Nat.le_trans acc0.len (by rw [List.length_take]; omega)
        have st : ((basesN c t').take (i + 1)).foldl (laterB c) [] = laterB c (((basesN c t').take i).foldl (laterB c) []) b := by rw [List.take_add_one, hb, List.foldl_append]; rfl
        generalize ((basesN c t').take i).foldl (laterB c) [] = acc at al st acc0
        refine sx_for (xs := List.range (1 <<< c.n)) (enc := fun (i : Nat) => .int (i : Int)) 5 (fun j => [some (encC c), some (.list ((basesN c t').map fun b => .list (intsD b))), none, none, some (.list (intsD b)), none, none, none]) (fun j => .dT 3 l (((List.range j).foldl (laterStep c b) acc).map toI)) scGLots.nd
          (xi_rangeN M.range (xe_shlN (i := 1) xe_int (xe_ixT (d := .int (c.n : Int)) (xe_var 0) xe_int rfl) (by decide) (by omega)) (by omega)) (fun σ H H1 s => s) (fun _ => rfl) (fun _ => by intro h; cases h) (fun j m H3 hj _ => ?_) ?_
        · obtain ⟨rfl, hm⟩ := range_at hj
          have acc1 := laterFold_ok (c := c) hbo (List.range m) acc0 fun m' hm' => by have := List.mem_range.mp hm'; omega
          have al1 : ((List.range m).foldl (laterStep c b) acc).length ≤ 10000 := Nat.le_trans acc1.len (by rw [List.length_range, List.length_take]; omega)
          have st1 : (List.range (m + 1)).foldl (laterStep c b) acc = laterStep c b ((List.range m).foldl (laterStep c b) acc) m := by rw [List.range_succ, List.foldl_append]; rfl
          generalize (List.range m).foldl (laterStep c b) acc = acc' at al1 st1
          have sb := spanN_ok (snoc_lt hbo (show m < 16 by omega))
          refine sx_if (k := (!decide (m ∈ b) && b.all fun o => btw c m o == 0)) (xw_t (xw_and (xt_is (xt_notInLI (ns := toI b) (xe_var 5) (xe_is (xe_var 4) (by rw [intsD_toI]))) (by congr 1; exact decide_eq_decide.mpr toI_mem)) fun _ =>
            xw_and1 (xt_val (xe_allF (xs := b) (g := fun o => btw c m o == 0) M.all (xn_e (xn_lc (xs := b) (enc := fun (i : Nat) => .int (i : Int)) (h := fun o => .bool (btw c m o == 0)) 6 scGLots.nd (xi_list (xe_var 4)) (blkOk_by (N := ["company", "bases", "turn", "later", "base", "mask", "other", "told"]) (sc := defScope sGLots) (by decide +kernel))
              (fun _ _ _ _ _ o ho => xe_eqN (j := 0) (xe_call C5 hr2 (xa3 (xe_var 0) (xe_var 5) (xe_var 6)) ⟨c, m, o, hc, rfl, rfl⟩) xe_int) (by have := hbo.len; omega))))))) (fun htt => ?_) fun htt => ?_
          · refine sx_putT (ns := toI (sortN (spanN (b ++ [m])))) (hu_of hr) (xnt_tuple M.tuple (xe_sortedDI (es := toI (sortN (spanN (b ++ [m])))) rfl M.sorted (xe_call C2 hr1 (xa1 (xe_is (xe_cat (xn_e (xn_list M.list (xe_var 4))) (xe_lst (xa1 (xe_var 5))) (by have := hbo.len; rw [intsD_len]; show _ + 1 ≤ _; omega)) (by rw [intsD_app]))) ⟨_, snoc_lt hbo (by omega), rfl, rfl⟩) (fun z => sb.ne (List.map_eq_nil_iff.mp z)) (by rw [toI_len]; have := sb.len; omega) (sortN_perm _) (sortN_strict sb.nd))) ?_ (by rw [List.length_map]; omega)
            refine sx_k (sx_nil fun σ H s => ?_)
            rw [addLN_I] at s
            rw [st1]
            unfold laterStep
            rw [if_pos htt]
            exact Stt.forget (k := 5) s
          · refine sx_k (sx_nil fun σ H s => ?_)
            rw [st1]
            unfold laterStep
            rw [if_neg (by rw [htt]; decide)]
            exact Stt.forget (k := 5) s
        · rw [List.length_range]
          refine sx_nil fun σ H s => ?_
          rw [st]
          exact Stt.forget (k := 4) s
      · rw [List.take_length]
        have acc0 := laterBs_ok g (basesN c t') bo.ok (acc := []) (k := 0) ⟨by simp, Nat.le_refl _⟩
        refine sx_listsT (jt := 7) (ib := 1) rfl scGLots.nd M.list ?_ (by rw [List.length_map]; have := acc0.len; omega) (by decide) (by simp) (blkOk_by (N := ["company", "bases", "turn", "later", "base", "mask", "other", "told"]) (sc := defScope sGLots) (by decide +kernel))
        refine sx_drop (fun a m => by simp [Own.ads] at m; rw [m]; exact hl) ?_
        refine sx_nil fun σ H s => ?_
        refine s.weak rfl fun i d hi => ?_
        match i, hi with
        | 0, hi => exact hi
        | 1, hi =>
          cases hi
          show some (some (PyData.list (((basesN c t').foldl (laterB c) []).map toI |>.map fun k => .list (k.map .int)))) = _
          rw [List.map_map]
          refine congrArg (fun z => some (some (PyData.list z))) (List.map_congr_left fun b _ => ?_)
          show PyData.list ((toI b).map .int) = _
          rw [intsD_toI]
        | 2, hi => cases hi
        | 3, hi => cases hi
        | 4, hi => cases hi
        | 5, hi => cases hi
        | 6, hi => cases hi
        | 7, hi => cases hi
        | n + 8, hi => cases hi
    · rw [List.length_range]
      have bo := basesN_ok g (rankN c / 2)
      have bl : (basesN c (rankN c / 2)).length ≤ 256 := Nat.le_trans bo.len (Nat.pow_le_pow_right (n := 16) (j := 2) (by decide) (by omega))
      refine sx_rt rt (xe_sorted hr.units M.sorted (xn_e (xn_lc (xs := basesN c (rankN c / 2)) (enc := fun b => .list (intsD b)) (h := fun b => lotD (isort rk b)) 4 scGLots.nd (xi_list (xe_var 1)) (blkOk_by (N := ["company", "bases", "turn", "later", "base", "mask", "other", "told"]) (by kernel_rfl))
        (fun _ _ _ _ _ b hb => xe_tuple M.tuple (xe_sorted hr.units M.sorted (xn_e (xn_lc (xs := b) (enc := fun (i : Nat) => .int (i : Int)) (h := fun m => .str (lt m)) 5 scGLots.nd (xi_list (xe_var 4)) (blkOk_by (N := ["company", "bases", "turn", "later", "base", "mask", "other", "told"]) (by kernel_rfl))
          (fun _ _ _ _ _ m hm => xe_call C6 hr1 (xa1 (xe_var 5)) ⟨m, (bo.ok b hb).lt m hm, rfl, rfl⟩) (by have := (bo.ok b hb).len; omega))) (texts_srt (bo.ok b hb).nd (bo.ok b hb).lt))) (by omega))) hsr)
end
end DL
set_option Elab.async false
set_option linter.all false
set_option maxRecDepth 100000
set_option maxHeartbeats 4000000
/-! The law's own small defs. -/
namespace DL
open PySem PySem.Spec PyProof.Rows L2
theorem units65' {k : Nat} {A : Around} (r : Room k A) : A.units + 65 < cLine := by have := r.un; omega
def setsN (n : Nat) : List (List Nat) := (List.range n).foldl (fun acc p => acc ++ acc.map fun l => l ++ [p]) [[]]
def maskL (l : List Nat) : Nat := (l.map fun x => 1 <<< x).sum
theorem sets_fits : ∀ n, n < 5 → (setsN n).all (fun l => decide (maskL l < 16) && decide ((⟨(l.map (97 + ·)).toArray⟩ : Str) = lt (maskL l)) && l.all (fun x => decide (x < 8)) && decide (l.length ≤ 4)) = true ∧ isort rk ((setsN n).map maskL) = ordM n ∧ ((setsN n).map maskL).Nodup ∧ (setsN n).length ≤ 16 := by decide +kernel
theorem join_eq : ∀ n, n < 5 → (setsN n).all (fun l => decide (Txt.join ("" : Str) (l.map fun x => (⟨#[97 + x]⟩ : Str)) = lt (maskL l))) = true := by decide +kernel
def setsD (acc : List (List Nat)) : List D := acc.map fun l => .tuple (intsD l)
abbrev sLSets : Stmt := topS 47
abbrev sLSetsOf : Stmt := topS 48
abbrev sLFriend : Stmt := topS 49
abbrev sLSign : Stmt := topS 50
abbrev sLLots : Stmt := topS 51
abbrev sLPairs : Stmt := topS 55
theorem scLSets : FnScope ["_law_many", "_law_found", "_law_place", "_law_told"] ["_law_many"] (defScope sLSets) := ⟨rfl, rfl, rfl, by decide +kernel, rfl, by decide +kernel, by decide +kernel⟩
theorem scLSetsOf : FnScope ["_law_company_here", "_law_places", "_law_at"] ["_law_company_here"] (defScope sLSetsOf) := ⟨rfl, rfl, rfl, by decide +kernel, rfl, by decide +kernel, by decide +kernel⟩
theorem scLFriend : FnScope ["_law_company_here", "_law_one", "_law_other", "_law_signs"] ["_law_company_here", "_law_one", "_law_other"] (defScope sLFriend) := ⟨rfl, rfl, rfl, by decide +kernel, rfl, by decide +kernel, by decide +kernel⟩
theorem scLSign : FnScope ["_law_company_here", "_law_one", "_law_other", "_law_count", "_law_sign_here", "_law_told"] ["_law_company_here", "_law_one", "_law_other"] (defScope sLSign) := ⟨rfl, rfl, rfl, by decide +kernel, rfl, by decide +kernel, by decide +kernel⟩
theorem scLPairs : FnScope ["_law_many", "_law_found", "_law_one", "_law_other"] ["_law_many"] (defScope sLPairs) := ⟨rfl, rfl, rfl, by decide +kernel, rfl, by decide +kernel, by decide +kernel⟩
def friendB (c : Co) (i j : Nat) : Bool := c.ps.any fun p => p == (min i j, max i j)
def friendC (c : Co) (x y : Nat) : Bool := friendB c (x - 97) (y - 97)
def cntR (c : Co) (b : Nat) (x : Nat) : Nat := ((lt b).cps.toList.filter fun y => friendC c x y).length
def cntN (c : Co) (a b : Nat) : Nat := ((lt a).cps.toList.map (cntR c b)).sum
def signN (c : Co) (a b : Nat) : Nat := cntN c a b % 2
theorem min_ch : ∀ a, a < 8 → ∀ b, b < 8 → (if decide ((⟨#[97 + b]⟩ : Str).cps.toList < (⟨#[97 + a]⟩ : Str).cps.toList) = true then (⟨#[97 + b]⟩ : Str) else ⟨#[97 + a]⟩) = ⟨#[97 + min a b]⟩ := by decide +kernel
theorem max_ch : ∀ a, a < 8 → ∀ b, b < 8 → (if decide ((⟨#[97 + a]⟩ : Str).cps.toList < (⟨#[97 + b]⟩ : Str).cps.toList) = true then (⟨#[97 + b]⟩ : Str) else ⟨#[97 + a]⟩) = ⟨#[97 + max a b]⟩ := by decide +kernel
theorem encP_shaped (p : Nat × Nat) : (encP p).canLay0 = true ∧ (encP p).depth ≤ 60 := ⟨rfl, by simp [encP, PyData.depth, PyData.depthAll]⟩
theorem eqv_encP (p q : Nat × Nat) : PyData.eqv (encP p) (encP q) = (p == q) := by
  have e : PyData.eqv (encP p) (encP q) = ((p.1 : Int) == (q.1 : Int) && ((p.2 : Int) == (q.2 : Int) && true)) := by simp only [encP, PyData.eqv, PyData.eqvAll]
  rw [e]
  by_cases h : p = q
  · subst h; simp
  · rw [beq_eq_false_iff_ne.mpr h]
    by_cases h1 : p.1 = q.1
    · have h2 : ¬ p.2 = q.2 := fun z => h (Prod.ext h1 z)
      have h3 : ¬ (p.2 : Int) = (q.2 : Int) := by omega
      rw [beq_eq_false_iff_ne.mpr h3]; simp
    · have h3 : ¬ (p.1 : Int) = (q.1 : Int) := by omega
      rw [beq_eq_false_iff_ne.mpr h3]; simp
def pairsL (n : Nat) : List (Nat × Nat) := (List.range n).flatMap fun i => (List.range (n - (i + 1))).map fun j => (i, i + 1 + j)
section
variable {P : Program} {w : World} {K : PySem.W.Frag} {mg : Str → Option Value} {base : Heap} {f : Addr} {fd : FuncData} {k : Nat}
def RlSets (ds : List D) (d : D) : Prop := ∃ n : Nat, n ≤ 4 ∧ ds = [.int (n : Int)] ∧ d = .list (setsD (setsN n))
theorem setsN_len : ∀ (i : Nat), ((List.range i).foldl (fun acc p => acc ++ acc.map fun l => l ++ [p]) ([[]] : List (List Nat))).length = 2 ^ i
  | 0 => rfl
  | i + 1 => by
    rw [List.range_succ, List.foldl_append]
    show (_ ++ List.map _ _).length = _
    rw [List.length_append, List.length_map, setsN_len i, Nat.pow_succ]; omega
theorem setsN_sub : ∀ (i : Nat) (l : List Nat), l ∈ setsN i → l.length ≤ i
  | 0, l, h => by rw [List.mem_singleton.mp h]; exact Nat.le_refl _
  | i + 1, l, h => by
    unfold setsN at h
    rw [List.range_succ, List.foldl_append] at h
    rcases List.mem_append.mp h with h | h
    · exact Nat.le_succ_of_le (setsN_sub i l h)
    · obtain ⟨x, hx, rfl⟩ := List.mem_map.mp h
      rw [List.length_append]
      exact Nat.succ_le_succ (setsN_sub i x hx)
theorem ok_lSets (F : Fun K "_law_sets" "_law_sets" sLSets f fd) (M : Nm mg) : FnOk P w K mg base CX0 1 f fd ["_law_many"] (spD K RlSets) :=
  fn_d F scLSets (by rintro _ _ ⟨n, _, rfl, rfl⟩; rfl) (by decide) fun cdv A outer s H E hr ds d hR G H0 Dn rt => by
    obtain ⟨n, hn, rfl, rfl⟩ := hR
    refine sx_set (d := .list [.tuple []]) 1 scLSets.nd (xe_lst (xa1 (xe_tup xa_nil))) ?_ (ho := by intro z; cases z)
    refine sx_for (xs := List.range n) (enc := fun (i : Nat) => .int (i : Int)) 2 (fun i => [some (.int (n : Int)), some (.list (setsD (setsN i))), none, none]) (fun _ => .no) scLSets.nd
      (xi_rangeN M.range (xe_var 0) (by omega)) (fun σ H H1 s => s) (fun _ => rfl) (fun _ => by intro h; cases h) (fun i m H1 hx _ => ?_) ?_
    · obtain ⟨rfl, hm⟩ := range_at hx
      have hl : (setsN m).length ≤ 16 := by
        have := setsN_len m
        have h2 : 2 ^ m ≤ 2 ^ 4 := Nat.pow_le_pow_right (by decide) (by omega)
        unfold setsN
        omega
      have st : setsN (m + 1) = setsN m ++ (setsN m).map fun l => l ++ [m] := by unfold setsN; rw [List.range_succ, List.foldl_append]; rfl
      refine sx_set (d := .list (setsD (setsN (m + 1)))) 1 scLSets.nd (xe_is (xe_cat (xe_var 1) (xn_e (xn_lc (xs := setsN m) (enc := fun l => .tuple (intsD l)) (h := fun l => .tuple (intsD (l ++ [m]))) 3 scLSets.nd (xi_list (xe_var 1)) (blkOk_by (N := ["_law_many", "_law_found", "_law_place", "_law_told"]) (sc := defScope sLSets) (by decide +kernel))
        (fun _ _ _ _ _ l hl' => xe_is (xe_catT (xe_var 3) (xe_tup (ds := [.int (m : Int)]) (xa1 (xe_var 2))) (by have := setsN_sub m l hl'; rw [intsD_len]; show _ + 1 ≤ _; omega)) (by rw [intsD_app])) (by omega))) (by unfold setsD; rw [List.length_map, List.length_map]; omega)) (by
          rw [st]; unfold setsD; rw [List.map_append, List.map_map]; rfl)) ?_ (ho := by intro z; cases z)
      exact sx_nil fun σ H s => Stt.forget (k := 2) (ρ := [some (.int (n : Int)), some (.list (setsD (setsN (m + 1)))), none, none]) s
    · rw [List.length_range]
      exact sx_rt rt (xe_var 1)
def RlSetsOf (ds : List D) (d : D) : Prop := ∃ c : Co, c ∈ comps ∧ ds = [encC c] ∧ d = .list (ltD (ordM c.n))
theorem ok_lSetsOf (F : Fun K "_law_sets_of" "_law_sets_of" sLSetsOf f fd) (M : Nm mg) (C : Callee P w K mg base 1 "_law_sets" RlSets) : FnOk P w K mg base CX0 2 f fd ["_law_company_here"] (spD K RlSetsOf) :=
  fn_d F scLSetsOf (by rintro _ _ ⟨n, _, rfl, rfl⟩; rfl) (by decide) fun cdv A outer s H E hr ds d hR G H0 Dn rt => by
    obtain ⟨c, hc, rfl, rfl⟩ := hR
    have g := good_of hc
    have n4 := g.n4
    obtain ⟨f1, f2, f3, f4⟩ := sets_fits c.n (by omega)
    have f5 := join_eq c.n (by omega)
    have fit : ∀ l, l ∈ setsN c.n → maskL l < 16 ∧ (∀ x, x ∈ l → x < 8) ∧ l.length ≤ 4 ∧ Txt.join ("" : Str) (l.map fun x => (⟨#[97 + x]⟩ : Str)) = lt (maskL l) := fun l hl => by
      have h1 := List.all_eq_true.mp f1 l hl
      have h2 := List.all_eq_true.mp f5 l hl
      simp only [Bool.and_eq_true, decide_eq_true_eq, List.all_eq_true] at h1 h2
      exact ⟨h1.1.1.1, h1.1.2, h1.2, h2⟩
    refine sx_rt rt (xe_is (xe_sorted (ds := ltD ((setsN c.n).map maskL)) (es := ltD (isort rk ((setsN c.n).map maskL))) hr.units M.sorted (xe_is (xn_e (xn_lc (xs := setsN c.n) (enc := fun l => .tuple (intsD l)) (h := fun l => .str (lt (maskL l))) 1 scLSetsOf.nd (xi_list (xe_call C hr (xa1 (xe_ixT (d := .int (c.n : Int)) (xe_var 0) xe_int rfl)) ⟨c.n, n4, rfl, rfl⟩)) (blkOk_by (N := ["_law_company_here", "_law_places", "_law_at"]) (sc := defScope sLSetsOf) (by decide +kernel))
      (fun _ _ _ _ _ l hl => xe_is (xe_join (ys := l.map fun x => (⟨#[97 + x]⟩ : Str)) xe_str (xe_is (xn_e (xn_lc (xs := l) (enc := fun (i : Nat) => .int (i : Int)) (h := fun x => .str ⟨#[97 + x]⟩) 2 scLSetsOf.nd (xi_tup (xe_var 1)) (blkOk_by (N := ["_law_company_here", "_law_places", "_law_at"]) (by kernel_rfl))
        (fun _ _ _ _ _ x hx => xe_ixS xe_str (xe_var 2) (by decide) (atI_nat (at_alpha x ((fit l hl).2.1 x hx)))) (by have := (fit l hl).2.2.1; omega))) (by rw [map_str])) ?_) (by rw [(fit l hl).2.2.2])) (by omega))) (by unfold ltD; rw [List.map_map]; rfl)) (texts_srt f3 fun m hm => ?_)) (by rw [f2]))
    · have e : ∀ l : List Nat, ((l.map fun a => (⟨#[97 + a]⟩ : Str)).map (·.length)).sum = l.length := fun l => by
        induction l with
        | nil => rfl
        | cons a l ih => rw [List.map_cons, List.map_cons, List.sum_cons, ih]; show 1 + l.length = _; rw [List.length_cons]; omega
      rw [e]
      have := (fit l hl).2.2.1
      show _ + _ * 0 ≤ _
      omega
    · obtain ⟨l, hl, rfl⟩ := List.mem_map.mp hm
      exact (fit l hl).1
def RlFriend (ds : List D) (d : D) : Prop := ∃ (c : Co) (i j : Nat), c ∈ comps ∧ i < 8 ∧ j < 8 ∧ ds = [encC c, .str ⟨#[97 + i]⟩, .str ⟨#[97 + j]⟩] ∧ d = .bool (friendB c i j)
theorem ok_lFriend (F : Fun K "_law_friend" "_law_friend" sLFriend f fd) (M : Nm mg) : FnOk P w K mg base CX0 1 f fd ["_law_company_here", "_law_one", "_law_other"] (spD K RlFriend) :=
  fn_d F scLFriend (by rintro _ _ ⟨n, _, _, _, _, _, rfl, rfl⟩; rfl) (by decide) fun cdv A outer s H E hr ds d hR G H0 Dn rt => by
    obtain ⟨c, i, j, hc, hi, hj, rfl, rfl⟩ := hR
    have g := good_of hc
    refine sx_set (d := .str "abcdefgh") 3 scLFriend.nd xe_str ?_ (ho := by intro z; cases z)
    refine sx_rt rt (xe_is (xe_inDT (x := encP (min i j, max i j)) (ds := c.ps.map encP) (units65' hr) (xe_tup (xa2 (xe_sindex (xe_var 3) (xe_is (xe_minS rfl M.min (xe_var 1) (xe_var 2)) (congrArg PyData.str (min_ch i hi j hj))) (occ_ch _ (by omega))) (xe_sindex (xe_var 3) (xe_is (xe_maxS rfl M.max (xe_var 1) (xe_var 2)) (congrArg PyData.str (max_ch i hi j hj))) (occ_ch _ (by omega)))))
      (xe_ixT (d := .tuple (c.ps.map encP)) (xe_var 0) xe_int rfl) (shaped_tup fun d hd => ?_) (shaped_tup fun d hd => ?_)) ?_)
    · rcases List.mem_cons.mp hd with e | hd
      · rw [e]; exact ⟨rfl, by simp [PyData.depth]⟩
      · rw [List.mem_singleton.mp hd]; exact ⟨rfl, by simp [PyData.depth]⟩
    · obtain ⟨p, _, rfl⟩ := List.mem_map.mp hd
      exact encP_shaped p
    · congr 1
      rw [List.any_map]
      unfold friendB
      congr 1
      funext p
      exact eqv_encP _ _
def RlSign (ds : List D) (d : D) : Prop := ∃ (c : Co) (a b : Nat), c ∈ comps ∧ a < 16 ∧ b < 16 ∧ ds = [encC c, .str (lt a), .str (lt b)] ∧ d = .int (signN c a b : Int)
theorem ok_lSign (F : Fun K "_law_sign" "_law_sign" sLSign f fd) (M : Nm mg) (C : Callee P w K mg base 1 "_law_friend" RlFriend) : FnOk P w K mg base CX0 2 f fd ["_law_company_here", "_law_one", "_law_other"] (spD K RlSign) :=
  fn_d F scLSign (by rintro _ _ ⟨n, _, _, _, _, _, rfl, rfl⟩; rfl) (by decide) fun cdv A outer s H E hr ds d hR G H0 Dn rt => by
    obtain ⟨c, a, b, hc, ha, hb, rfl, rfl⟩ := hR
    have g := good_of hc
    have ch : ∀ (m : Nat), m < 16 → ∀ x, x ∈ (lt m).cps.toList → x - 97 < 8 ∧ 97 + (x - 97) = x := fun m hm x hx => by
      have := of_decide_eq_true (List.all_eq_true.mp (lt_ch m hm) x hx)
      omega
    have hl : ∀ m, m < 16 → (lt m).cps.toList.length ≤ 8 := fun m hm => by rw [Array.length_toList]; exact lt_len m hm
    refine sx_set (d := .int 0) 3 scLSign.nd xe_int ?_ (ho := by intro z; cases z)
    refine sx_for (xs := (lt a).cps.toList) (enc := fun (ch : Nat) => .str ⟨#[ch]⟩) 4 (fun i => [some (encC c), some (.str (lt a)), some (.str (lt b)), some (.int ((((lt a).cps.toList.take i).map (cntR c b)).sum : Nat)), none, none]) (fun _ => .no) scLSign.nd
      (xi_signs (xe_var 1)) (fun σ H H1 s => s) (fun _ => rfl) (fun _ => by intro h; cases h) (fun i x H1 hx _ => ?_) ?_
    · have hx' := ch a ha x (List.mem_of_getElem? hx)
      have st : (((lt a).cps.toList.take (i + 1)).map (cntR c b)).sum = (((lt a).cps.toList.take i).map (cntR c b)).sum + cntR c b x := by
        rw [List.take_add_one, hx]
        simp
      refine sx_set (d := .int ((((lt a).cps.toList.take (i + 1)).map (cntR c b)).sum : Nat)) 3 scLSign.nd (xe_is (xe_addN (j := cntR c b x) (xe_var 3) (xe_is (xe_lenL M.len (xn_e (xn_lcif (xs := (lt b).cps.toList) (enc := fun (ch : Nat) => .str ⟨#[ch]⟩) (f := fun y => friendC c x y) (h := fun y => .str ⟨#[y]⟩) 5 scLSign.nd (xi_signs (xe_var 2)) (blkOk_by (N := ["_law_company_here", "_law_one", "_law_other", "_law_count", "_law_sign_here", "_law_told"]) (sc := defScope sLSign) (by decide +kernel))
        (fun _ _ _ _ _ y hy => xt_val (xe_call C hr (xa3 (xe_var 0) (xe_var 4) (xe_var 5)) ⟨c, x - 97, y - 97, hc, hx'.1, (ch b hb y hy).1, by rw [hx'.2, (ch b hb y hy).2], rfl⟩)) (fun _ _ _ _ _ y hy _ => xe_var 5) (by have := hl b hb; omega)))) (by rw [List.length_map]; rfl))) (by rw [st])) ?_ (ho := by intro z; cases z)
      exact sx_nil fun σ H s => Stt.forget (k := 4) (ρ := [some (encC c), some (.str (lt a)), some (.str (lt b)), some (.int ((((lt a).cps.toList.take (i + 1)).map (cntR c b)).sum : Nat)), none, none]) s
    · rw [List.take_length]
      exact sx_rt rt (xe_is (xe_subN (i := cntN c a b) (j := cntN c a b / 2 * 2) (xe_var 3) (xe_mulN (j := 2) (xe_divN (j := 2) (xe_var 3) xe_int (by decide) (by decide)) xe_int (by
        have hc2 : ∀ l : List Nat, (∀ x, x ∈ l → cntR c b x ≤ 8) → (l.map (cntR c b)).sum ≤ 8 * l.length := fun l => by
          induction l with
          | nil => intro _; exact Nat.le_refl _
          | cons x l ih => intro h; rw [List.map_cons, List.sum_cons, List.length_cons]; have h1 := h x List.mem_cons_self; have h2 := ih fun y hy => h y (List.mem_cons_of_mem _ hy); omega
        have h3 := hc2 (lt a).cps.toList fun x _ => by unfold cntR; exact Nat.le_trans (List.length_filter_le _ _) (hl b hb)
        have h4 := hl a ha
        show cntN c a b / 2 < _
        unfold cntN
        omega)) (Nat.div_mul_le_self _ _)) (by
        have h := Nat.div_add_mod (cntN c a b) 2
        have : cntN c a b - cntN c a b / 2 * 2 = cntN c a b % 2 := by omega
        rw [this]; rfl))
def RlPairs (ds : List D) (d : D) : Prop := ∃ n : Nat, n ≤ 12 ∧ ds = [.int (n : Int)] ∧ d = .list ((pairsL n).map encP)
theorem ok_lPairs (F : Fun K "_law_pairs" "_law_pairs" sLPairs f fd) (M : Nm mg) : FnOk P w K mg base CX0 1 f fd ["_law_many"] (spD K RlPairs) :=
  fn_d F scLPairs (by rintro _ _ ⟨n, _, rfl, rfl⟩; rfl) (by decide) fun cdv A outer s H E hr ds d hR G H0 Dn rt => by
    obtain ⟨n, hn, rfl, rfl⟩ := hR
    refine sx_set (d := .list []) 1 scLPairs.nd (xe_lst xa_nil) ?_ (ho := by intro z; cases z)
    refine sx_for (xs := List.range n) (enc := fun (i : Nat) => .int (i : Int)) 2 (fun i => [some (.int (n : Int)), some (.list (((List.range i).flatMap fun i => (List.range (n - (i + 1))).map fun j => (i, i + 1 + j)).map encP)), none, none]) (fun _ => .no) scLPairs.nd
      (xi_rangeN M.range (xe_var 0) (by omega)) (fun σ H H1 s => s) (fun _ => rfl) (fun _ => by intro h; cases h) (fun i m H1 hx _ => ?_) ?_
    · obtain ⟨rfl, hm⟩ := range_at hx
      have hl : ∀ i, ((List.range i).flatMap fun i => (List.range (n - (i + 1))).map fun j => (i, i + 1 + j)).length ≤ i * n := fun i => by
        induction i with
        | zero => simp
        | succ i ih => rw [List.range_succ, List.flatMap_append, List.length_append, Nat.succ_mul]; simp at ih ⊢; omega
      refine sx_set (d := .list (((List.range (m + 1)).flatMap fun i => (List.range (n - (i + 1))).map fun j => (i, i + 1 + j)).map encP)) 1 scLPairs.nd (xe_is (xe_cat (xe_var 1) (xn_e (xn_lc (xs := List.range (n - (m + 1))) (enc := fun (j : Nat) => .int ((m + 1 + j : Nat) : Int)) (h := fun j => encP (m, m + 1 + j)) 3 scLPairs.nd (xi_range2N (n := m + 1) (m := n) M.range (xe_addN (j := 1) (xe_var 2) xe_int) (xe_var 0) (by omega) (by omega)) (blkOk_by (N := ["_law_many", "_law_found", "_law_one", "_law_other"]) (sc := defScope sLPairs) (by decide +kernel))
        (fun _ _ _ _ _ j hj => xe_tup (xa2 (xe_var 2) (xe_var 3))) (by rw [List.length_range]; omega))) (by
          rw [List.length_map, List.length_map, List.length_range]
          have h1 := hl m
          have h2 : m * n ≤ 12 * 12 := Nat.mul_le_mul (by omega) hn
          omega)) (by rw [List.range_succ, List.flatMap_append, List.map_append]; simp)) ?_ (ho := by intro z; cases z)
      exact sx_nil fun σ H s => Stt.forget (k := 2) (ρ := [some (.int (n : Int)), some (.list (((List.range (m + 1)).flatMap fun i => (List.range (n - (i + 1))).map fun j => (i, i + 1 + j)).map encP)), none, none]) s
    · rw [List.length_range]
      exact sx_rt rt (xe_var 1)
end
end DL
set_option Elab.async false
set_option linter.all false
set_option maxRecDepth 100000
set_option maxHeartbeats 4000000
namespace DL
open PySem PySem.Spec PyProof.Rows L2
def lotStep (c : Co) (m : Nat) (lot : List Nat) : List (List Nat) := if (lot.filter fun s => signN c s m == 1).isEmpty = true then [lot, lot ++ [m]] else [lot]
def lotsStep (c : Co) (lots : List (List Nat)) (m : Nat) : List (List Nat) := lots.flatMap (lotStep c m)
def lotsAll (c : Co) : List (List Nat) := (ordM c.n).foldl (lotsStep c) [[]]
def mostL (ls : List (List Nat)) : Nat := ls.foldl (fun a l => max a l.length) 0
def lotsN (c : Co) : List (List Nat) := (lotsAll c).filter fun l => l.length == mostL (lotsAll c)
theorem mostL_ge : ∀ (ls : List (List Nat)) (a : Nat), a ≤ ls.foldl (fun a l => max a l.length) a ∧ (∀ l, l ∈ ls → l.length ≤ ls.foldl (fun a l => max a l.length) a) ∧ (ls.foldl (fun a l => max a l.length) a = a ∨ ∃ l, l ∈ ls ∧ l.length = ls.foldl (fun a l => max a l.length) a)
  | [], a => ⟨Nat.le_refl _, by simp, .inl rfl⟩
  | l :: ls, a => by
    obtain ⟨h1, h2, h3⟩ := mostL_ge ls (max a l.length)
    rw [List.foldl_cons]
    refine ⟨by omega, fun x hx => ?_, ?_⟩
    · rcases List.mem_cons.mp hx with e | hx
      · rw [e]; omega
      · exact h2 x hx
    · rcases h3 with h3 | ⟨x, hx, h3⟩
      · by_cases q : l.length ≤ a
        · left; omega
        · right; exact ⟨l, List.mem_cons_self, by omega⟩
      · right; exact ⟨x, List.mem_cons_of_mem _ hx, h3⟩
structure LOk (lots : List (List Nat)) (i : Nat) : Prop where
  lt : ∀ l, l ∈ lots → ∀ m, m ∈ l → m < 16
  ln : ∀ l, l ∈ lots → l.length ≤ i
  len : lots.length ≤ 2 ^ i
  ne : lots ≠ []
theorem lotStep_mem {c : Co} {m : Nat} {lot l : List Nat} (h : l ∈ lotStep c m lot) : l = lot ∨ l = lot ++ [m] := by
  unfold lotStep at h
  split at h
  · simpa using h
  · left; simpa using h
theorem lotStep_len (c : Co) (m : Nat) (lot : List Nat) : (lotStep c m lot).length ≤ 2 := by unfold lotStep; split <;> simp
theorem flat_len (c : Co) (m : Nat) : ∀ lots : List (List Nat), (lots.flatMap (lotStep c m)).length ≤ 2 * lots.length
  | [] => Nat.le_refl _
  | l :: ls => by rw [List.flatMap_cons, List.length_append, List.length_cons]; have := lotStep_len c m l; have := flat_len c m ls; omega
theorem lotsStep_ok {c : Co} {lots : List (List Nat)} {i m : Nat} (h : LOk lots i) (hm : m < 16) : LOk (lotsStep c lots m) (i + 1) := by
  refine ⟨fun l hl x hx => ?_, fun l hl => ?_, ?_, ?_⟩
  · obtain ⟨lot, h1, h2⟩ := List.mem_flatMap.mp hl
    rcases lotStep_mem h2 with e | e
    · rw [e] at hx; exact h.lt lot h1 x hx
    · rw [e] at hx
      rcases List.mem_append.mp hx with hx | hx
      · exact h.lt lot h1 x hx
      · rw [List.mem_singleton.mp hx]; exact hm
  · obtain ⟨lot, h1, h2⟩ := List.mem_flatMap.mp hl
    have := h.ln lot h1
    rcases lotStep_mem h2 with e | e
    · rw [e]; omega
    · rw [e, List.length_append]; show _ + 1 ≤ _; omega
  · have h1 := h.len
    have h2 := flat_len c m lots
    rw [Nat.pow_succ]
    unfold lotsStep
    omega
  · intro e
    have hne := h.ne
    cases lots with
    | nil => exact hne rfl
    | cons l ls =>
      unfold lotsStep at e
      rw [List.flatMap_cons] at e
      have := (List.append_eq_nil_iff.mp e).1
      unfold lotStep at this
      split at this <;> cases this
theorem lotsFold_ok {c : Co} : ∀ (l : List Nat) {lots : List (List Nat)} {i : Nat}, LOk lots i → (∀ m, m ∈ l → m < 16) → LOk (l.foldl (lotsStep c) lots) (i + l.length)
  | [], _, _, h, _ => h
  | m :: l, lots, i, h, hl => by
    have := lotsFold_ok (c := c) l (lotsStep_ok (c := c) h (hl m List.mem_cons_self)) fun x hx => hl x (List.mem_cons_of_mem _ hx)
    rw [List.foldl_cons, List.length_cons, show i + (l.length + 1) = i + 1 + l.length by omega]
    exact this
theorem lok0 : LOk [[]] 0 := ⟨by simp, by simp, Nat.le_refl _, by simp⟩
theorem eqv_nil (l : List Nat) : PyData.eqv (.list (ltD l)) (.list []) = l.isEmpty := by
  cases l with
  | nil => simp [ltD, PyData.eqv, PyData.eqvAll]
  | cons a l => simp [ltD, PyData.eqv, PyData.eqvAll]
theorem ltD_shaped {l : List Nat} (h : ∀ m, m ∈ l → m < 16) : ∀ d, d ∈ ltD l → d.canLay0 = true ∧ d.depth ≤ 60 := fun d hd => by
  obtain ⟨m, hm, rfl⟩ := List.mem_map.mp hd
  exact ⟨lt_lay m (h m hm), by simp [PyData.depth]⟩
theorem scLLots : FnScope ["_law_company_here", "_law_sets_here", "_law_lots", "_law_told", "_law_longer", "_law_lot", "_law_some", "_law_most"] ["_law_company_here"] (defScope sLLots) := ⟨rfl, rfl, rfl, by decide +kernel, rfl, by decide +kernel, by decide +kernel⟩
section
variable {P : Program} {w : World} {K : PySem.W.Frag} {mg : Str → Option Value} {base : Heap} {f : Addr} {fd : FuncData} {k : Nat}
def RlLots (ds : List D) (d : D) : Prop := ∃ c : Co, c ∈ comps ∧ ds = [encC c] ∧ d = .list ((lotsN c).map lotD)
theorem ok_lLots (F : Fun K "_law_lots_of" "_law_lots_of" sLLots f fd) (M : Nm mg) (C1 : Callee P w K mg base 2 "_law_sets_of" RlSetsOf) (C2 : Callee P w K mg base 2 "_law_sign" RlSign) : FnOk P w K mg base CX0 3 f fd ["_law_company_here"] (spD K RlLots) :=
  fn_d F scLLots (by rintro _ _ ⟨n, _, rfl, rfl⟩; rfl) (by decide) fun cdv A outer s H E hr ds d hR G H0 Dn rt => by
    obtain ⟨c, hc, rfl, rfl⟩ := hR
    have g := good_of hc
    have hpow := pow16 g
    have hol : (ordM c.n).length ≤ 16 := by unfold ordM; rw [isort_len, List.length_range]; exact hpow
    have fold : ∀ i, LOk (((ordM c.n).take i).foldl (lotsStep c) [[]]) (min i (ordM c.n).length) := fun i => by
      have := lotsFold_ok (c := c) ((ordM c.n).take i) lok0 fun m hm => ordM_lt hpow (List.mem_of_mem_take hm)
      rw [List.length_take, Nat.zero_add] at this
      exact this
    have p16 : ∀ i, 2 ^ min i (ordM c.n).length ≤ 65536 := fun i => Nat.pow_le_pow_right (n := 2) (j := 16) (by decide) (by omega)
    refine sx_parD 1 2 (x := .list (ltD (ordM c.n))) (y := .list (([[]] : List (List Nat)).map lotD)) scLLots.nd (xa2 (xe_call C1 hr (xa1 (xe_var 0)) ⟨c, hc, rfl, rfl⟩) (xe_is (xe_lst (ds := [.tuple []]) (xa1 (xe_tup xa_nil))) rfl)) ?_ (o1 := by intro z; cases z) (o2 := by intro z; cases z)
    refine sx_for (xs := ordM c.n) (enc := fun m => .str (lt m)) 3 (fun i => [some (encC c), some (.list (ltD (ordM c.n))), some (.list ((((ordM c.n).take i).foldl (lotsStep c) [[]]).map lotD)), none, none, none, none, none]) (fun _ => .no) scLLots.nd
      (xi_list (xe_is (xe_var 1) rfl)) (fun σ H H1 s => s) (fun _ => rfl) (fun _ => by intro h; cases h) (fun i m H1 hx _ => ?_) ?_
    · have hm : m < 16 := ordM_lt hpow (List.mem_of_getElem? hx)
      have lo := fold i
      have lol : (((ordM c.n).take i).foldl (lotsStep c) [[]]).length ≤ 65536 := Nat.le_trans lo.len (p16 i)
      have hi := (List.getElem?_eq_some_iff.mp hx).1
      have lo2 := fold (i + 1)
      have lol2 : (((ordM c.n).take (i + 1)).foldl (lotsStep c) [[]]).length ≤ 65536 := Nat.le_trans lo2.len (p16 (i + 1))
      have st : ((ordM c.n).take (i + 1)).foldl (lotsStep c) [[]] = (((ordM c.n).take i).foldl (lotsStep c) [[]]).flatMap (lotStep c m) := by rw [List.take_add_one, hx, List.foldl_append]; rfl
      rw [st] at lol2
      generalize ((ordM c.n).take i).foldl (lotsStep c) [[]] = lots at lo lol st lol2
      refine sx_own 4 scLLots.nd (xn_lst xa_nil) fun l hl => ?_
      refine sx_for (xs := lots) (enc := lotD) 5 (fun _ => [some (encC c), some (.list (ltD (ordM c.n))), some (.list (lots.map lotD)), some (.str (lt m)), none, none, none, none]) (fun j => .lst 4 l (((lots.take j).flatMap (lotStep c m)).map lotD)) scLLots.nd
        (xi_list (xe_var 2)) (fun σ H H1 s => s) (fun _ => rfl) (fun _ => by intro h; cases h) (fun j lot H2 hj _ => ?_) ?_
      · have hlot := List.mem_of_getElem? hj
        have l16 := lo.lt lot hlot
        have lln : lot.length ≤ 16 := Nat.le_trans (lo.ln lot hlot) (by omega)
        have sj : (lots.take (j + 1)).flatMap (lotStep c m) = (lots.take j).flatMap (lotStep c m) ++ lotStep c m lot := by rw [List.take_add_one, hj, List.flatMap_append]; simp
        have jl : ((lots.take j).flatMap (lotStep c m)).length + 2 ≤ 140000 := by
          have h1 := flat_len c m (lots.take j)
          rw [List.length_take] at h1
          omega
        have jl2 : ((lots.take j).flatMap (lotStep c m)).length ≤ 65536 := by
          have h1 : (lots.flatMap (lotStep c m)).length = ((lots.take j).flatMap (lotStep c m)).length + ((lots.drop j).flatMap (lotStep c m)).length := by
            rw [← List.length_append, ← List.flatMap_append, List.take_append_drop]
          omega
        refine sx_app (d := lotD lot) (xe_var 5) ?_ (by rw [List.length_map]; omega)
        refine sx_if (k := (lot.filter fun s => signN c s m == 1).isEmpty) (xt_is (xt_eqD hr.units (xn_e (xn_lcif (xs := lot) (enc := fun m => .str (lt m)) (f := fun s => signN c s m == 1) (h := fun m => .str (lt m)) 6 scLLots.nd (xi_tup (xe_is (xe_var 5) rfl)) (blkOk_by (N := ["_law_company_here", "_law_sets_here", "_law_lots", "_law_told", "_law_longer", "_law_lot", "_law_some", "_law_most"]) (sc := defScope sLLots) (by decide +kernel))
          (fun _ _ _ _ _ s hs => xt_eqN (j := 1) (xe_call C2 hr (xa3 (xe_var 0) (xe_var 6) (xe_var 3)) ⟨c, s, m, hc, l16 s hs, hm, rfl, rfl⟩) xe_int) (fun _ _ _ _ _ s hs _ => xe_var 6) (by omega))) (xe_lst xa_nil) (shaped_list (ltD_shaped fun x hx => l16 x (List.mem_filter.mp hx).1)) (shaped_list (by simp))) (eqv_nil _)) (fun ht => ?_) fun ht => ?_
        · refine sx_app (d := lotD (lot ++ [m])) (xe_is (xe_catT (xe_is (xe_var 5) rfl) (xe_tup (ds := [.str (lt m)]) (xa1 (xe_var 3))) (by unfold ltD; rw [List.length_map]; show _ + 1 ≤ _; omega)) (by unfold lotD ltD; rw [List.map_append]; rfl)) (sx_k (sx_nil fun σ H s => ?_)) (by rw [List.length_append, List.length_map]; show _ + 1 < _; omega)
          rw [sj]
          unfold lotStep
          rw [if_pos ht]
          refine Stt.forget (k := 5) (Stt.lstIs s ?_)
          rw [List.map_append, List.append_assoc]; rfl
        · refine sx_k (sx_nil fun σ H s => ?_)
          rw [sj]
          unfold lotStep
          rw [if_neg (by rw [ht]; decide)]
          refine Stt.forget (k := 5) (Stt.lstIs s ?_)
          rw [List.map_append]; rfl
      · rw [List.take_length]
        refine sx_drop (fun a m => by simp [Own.ads] at m; rw [m]; exact hl) ?_
        refine sx_set (d := .list ((((ordM c.n).take (i + 1)).foldl (lotsStep c) [[]]).map lotD)) 2 scLLots.nd (xe_is (xe_var 4) (by rw [st])) ?_ (ho := by intro z; cases z)
        refine sx_nil fun σ H s => ?_
        exact Stt.forget (k := 3) (Stt.forget (k := 4) (ρ := [some (encC c), some (.list (ltD (ordM c.n))), some (.list ((((ordM c.n).take (i + 1)).foldl (lotsStep c) [[]]).map lotD)), some (.str (lt m)), none, none, none, none]) s)
    · rw [List.take_length]
      have lo := fold (ordM c.n).length
      rw [List.take_length] at lo
      have lol : (lotsAll c).length ≤ 65536 := Nat.le_trans lo.len (p16 _)
      have mg := mostL_ge (lotsAll c) 0
      have lne : lotsAll c ≠ [] := lo.ne
      have hnn : ∀ l, (lotD l) = .tuple (ltD l) := fun _ => rfl
      refine sx_set (d := .int (mostL (lotsAll c) : Int)) 7 scLLots.nd (xe_max (ns := (lotsAll c).map fun l => (l.length : Int)) rfl M.max (xe_is (xn_e (xn_lc (xs := lotsAll c) (enc := lotD) (h := fun l => .int (l.length : Int)) 5 scLLots.nd (xi_list (xe_var 2)) (blkOk_by (N := ["_law_company_here", "_law_sets_here", "_law_lots", "_law_told", "_law_longer", "_law_lot", "_law_some", "_law_most"]) (sc := defScope sLLots) (by decide +kernel))
        (fun _ _ _ _ _ l hl => xe_is (xe_lenT M.len (xe_is (xe_var 5) (hnn l))) (by unfold ltD; rw [List.length_map])) (by omega))) (by rw [List.map_map]; rfl)) (by rw [List.length_map]; exact List.length_pos_iff.mpr lne) (fun k hk hj => ?_)) ?_ (ho := by intro z; cases z)
      · obtain ⟨l, hl, rfl⟩ := List.mem_map.mp hk
        have h1 := mg.2.1 l hl
        have h2 : ∃ l', l' ∈ lotsAll c ∧ l'.length = mostL (lotsAll c) ∨ mostL (lotsAll c) = 0 := by
          rcases mg.2.2 with e | ⟨x, hx, e⟩
          · exact ⟨l, .inr e⟩
          · exact ⟨x, .inl ⟨hx, e⟩⟩
        obtain ⟨x, h2⟩ := h2
        rcases h2 with ⟨hx, e⟩ | e
        · have := hj _ (List.mem_map.mpr ⟨x, hx, rfl⟩)
          have h1' : l.length ≤ mostL (lotsAll c) := h1
          omega
        · have h1' : l.length ≤ mostL (lotsAll c) := h1
          omega
      · exact sx_rt rt (xn_e (xn_lcif (xs := lotsAll c) (enc := lotD) (f := fun l => l.length == mostL (lotsAll c)) (h := lotD) 5 scLLots.nd (xi_list (xe_var 2)) (blkOk_by (N := ["_law_company_here", "_law_sets_here", "_law_lots", "_law_told", "_law_longer", "_law_lot", "_law_some", "_law_most"]) (sc := defScope sLLots) (by decide +kernel))
          (fun _ _ _ _ _ l hl => xt_eqN (j := mostL (lotsAll c)) (xe_is (xe_lenT M.len (xe_is (xe_var 5) (hnn l))) (by unfold ltD; rw [List.length_map])) (xe_var 7)) (fun _ _ _ _ _ l hl _ => xe_var 5) (by omega)))
end
end DL
set_option Elab.async false
set_option linter.all false
set_option maxRecDepth 100000
set_option maxHeartbeats 4000000
namespace DL
open PySem PySem.Spec PyProof.Rows L2
theorem kit_any2 {K : PySem.W.Frag} {a b c : String} {x y : Bool} (h1 : kitB a b = some x) (h2 : kitB a c = some y) : PySem.W.kitAny K (.type a) [.type b, .type c] = some (x || y) := by
  unfold PySem.W.kitAny
  rw [kit_ty h1]
  cases x with
  | true => rfl
  | false =>
    show PySem.W.kitAny K _ [.type c] = _
    unfold PySem.W.kitAny
    rw [kit_ty h2]
    cases y <;> rfl
/-- data that the law compares, their depth -/
inductive Alk : Nat → D → Prop
  | non (n : Nat) : Alk n .none
  | int (n : Nat) (i : Int) : Alk n (.int i)
  | str (n : Nat) (s : Str) : (PyData.str s).canLay0 = true → Alk n (.str s)
  | list (n : Nat) (ds : List D) : (∀ d, d ∈ ds → Alk n d) → ds.length ≤ 1000 → Alk (n + 1) (.list ds)
  | tup (n : Nat) (ds : List D) : (∀ d, d ∈ ds → Alk n d) → ds.length ≤ 1000 → Alk (n + 1) (.tuple ds)
theorem Alk.nodict {n : Nat} {d : D} (h : Alk n d) : isDict d = false := by cases h <;> rfl
abbrev sLAlike : Stmt := topS 52
theorem scLAlike : FnScope ["_law_found", "_law_due", "_law_k"] ["_law_found", "_law_due"] (defScope sLAlike) := ⟨rfl, rfl, rfl, by decide +kernel, rfl, by decide +kernel, by decide +kernel⟩
theorem kb : kitB "NoneType" "tuple" = some false ∧ kitB "NoneType" "list" = some false ∧ kitB "int" "tuple" = some false ∧ kitB "int" "list" = some false ∧ kitB "str" "tuple" = some false ∧ kitB "str" "list" = some false ∧ kitB "tuple" "tuple" = some true ∧ kitB "tuple" "list" = some false ∧ kitB "list" "tuple" = some false ∧ kitB "list" "list" = some true ∧
    kitB "NoneType" "str" = some false ∧ kitB "str" "str" = some true ∧ kitB "int" "str" = some false ∧ kitB "int" "int" = some true ∧ kitB "int" "bool" = some false := by decide +kernel
section
variable {P : Program} {w : World} {K : PySem.W.Frag} {mg : Str → Option Value} {base : Heap} {f : Addr} {fd : FuncData} {k : Nat}
def RlAlike (n : Nat) (ds : List D) (d : D) : Prop := ∃ x : D, Alk n x ∧ ds = [x, x] ∧ d = .bool true
theorem step_alike (n : Nat) (R : Prop) (F : Fun K "_law_alike" "_law_alike" sLAlike f fd) (M : Nm mg) (C : ∀ m, n = m + 1 → Callee P w K mg base (m + 1) "_law_alike" (RlAlike m)) : FnOk P w K mg base CX0 (n + 1) f fd ["_law_found", "_law_due"] (spD K (RlAlike n)) :=
  fn_d F scLAlike (by rintro _ _ ⟨n, _, rfl, rfl⟩; rfl) (by decide) fun cdv A outer s H E hr ds d hR G H0 Dn rt => by
    obtain ⟨x, hx, rfl, rfl⟩ := hR
    obtain ⟨k1, k2, k3, k4, k5, k6, k7, k8, k9, k10, k11, k12, k13, k14, k15⟩ := kb
    cases hx with
    | non =>
      refine sx_unless (xt_val (k := false) (xe_isi2 (d := .none) (t := "tuple") (u := "list") (xe_var 1) M.isinstance M.tuple PyProof.Rows.boot_tuple M.list PyProof.Rows.boot_list (kit_any2 k1 k2))) ?_
      refine sx_if (k := true) (xt_is (xw_t (xw_or (l := false) (xt_isN (d := .none) (xe_var 1)) (fun z => nomatch z))) rfl) (fun _ => ?_) (fun z => nomatch z)
      exact sx_rt ⟨rt.rt, fun e => nomatch e⟩ (xe_is (xe_and (xe_eqD hr.units (x := .none) (y := .none) (xe_var 0) (xe_var 1) rfl rfl) fun _ => xe_one (xe_eqB (i := false) (j := false) (xe_isi (d := .none) (t := "str") (xe_var 0) M.isinstance M.str boot_str' k11) (xe_isi (d := .none) (t := "str") (xe_var 1) M.isinstance M.str boot_str' k11))) (by rw [eqv_self _ rfl]; rfl))
    | int _ i =>
      refine sx_unless (xt_val (k := false) (xe_isi2 (d := .int i) (t := "tuple") (u := "list") (xe_var 1) M.isinstance M.tuple PyProof.Rows.boot_tuple M.list PyProof.Rows.boot_list (kit_any2 k3 k4))) ?_
      refine sx_unless (xt_is (xw_t (xw_or (xt_is (xt_isN (d := .int i) (xe_var 1)) rfl) (fun _ => xw_or1 (xt_val (k := false) (xe_isi (d := .int i) (t := "str") (xe_var 1) M.isinstance M.str boot_str' k13))))) rfl) ?_
      exact sx_rt ⟨rt.rt, fun e => nomatch e⟩ (xe_is (xe_and (k := true) (xe_isi (d := .int i) (t := "int") (xe_var 0) M.isinstance M.int PyProof.Rows.boot_int k14) fun _ => xe_and (xe_eqB (i := false) (j := false) (xe_isi (d := .int i) (t := "bool") (xe_var 0) M.isinstance M.bool boot_bool' k15) (xe_isi (d := .int i) (t := "bool") (xe_var 1) M.isinstance M.bool boot_bool' k15)) fun _ =>
        xe_one (xe_eqD hr.units (x := .int i) (y := .int i) (xe_var 0) (xe_var 1) rfl rfl)) (by rw [eqv_self _ rfl]; rfl))
    | str _ v hv =>
      have sh : SeqAt.shaped (.str v) = true := by
        unfold SeqAt.shaped
        rw [hv]
        simp [PyData.depth]
      refine sx_unless (xt_val (k := false) (xe_isi2 (d := .str v) (t := "tuple") (u := "list") (xe_var 1) M.isinstance M.tuple PyProof.Rows.boot_tuple M.list PyProof.Rows.boot_list (kit_any2 k5 k6))) ?_
      refine sx_if (k := true) (xt_is (xw_t (xw_or (xt_is (xt_isN (d := .str v) (xe_var 1)) rfl) (fun _ => xw_or1 (xt_val (k := true) (xe_isi (d := .str v) (t := "str") (xe_var 1) M.isinstance M.str boot_str' k12))))) rfl) (fun _ => ?_) (fun z => nomatch z)
      exact sx_rt ⟨rt.rt, fun e => nomatch e⟩ (xe_is (xe_and (xe_eqD hr.units (x := .str v) (y := .str v) (xe_var 0) (xe_var 1) sh sh) fun _ => xe_one (xe_eqB (i := true) (j := true) (xe_isi (d := .str v) (t := "str") (xe_var 0) M.isinstance M.str boot_str' k12) (xe_isi (d := .str v) (t := "str") (xe_var 1) M.isinstance M.str boot_str' k12))) (by rw [eqv_self _ hv]; rfl))
    | list m xs hxs hl =>
      have C := C m rfl
      refine sx_if (k := true) (xt_val (k := true) (xe_isi2 (d := .list xs) (t := "tuple") (u := "list") (xe_var 1) M.isinstance M.tuple PyProof.Rows.boot_tuple M.list PyProof.Rows.boot_list (kit_any2 k9 k10))) (fun _ => ?_) (fun z => nomatch z)
      refine sx_unless (xt_is (xw_t (xw_or (xt_not (xt_val (k := true) (xe_isi2 (d := .list xs) (t := "tuple") (u := "list") (xe_var 0) M.isinstance M.tuple PyProof.Rows.boot_tuple M.list PyProof.Rows.boot_list (kit_any2 k9 k10))))
        fun _ => xw_or1 (xt_neB (i := true) (j := true) (xe_isi (d := .list xs) (t := "list") (xe_var 0) M.isinstance M.list PyProof.Rows.boot_list k10) (xe_isi (d := .list xs) (t := "list") (xe_var 1) M.isinstance M.list PyProof.Rows.boot_list k10)))) rfl) ?_
      refine sx_unless (xt_is (xt_ne (i := (xs.length : Int)) (j := (xs.length : Int)) (xe_lenL M.len (xe_var 0)) (xe_lenL M.len (xe_var 1))) (by simp)) ?_
      refine sx_rt ⟨rt.rt, fun e => nomatch e⟩ (xe_is (xe_eqD hr.units (x := .list []) (y := .list []) (xe_is (xn_e (xn_lcif (xs := List.range xs.length) (enc := fun (i : Nat) => .int (i : Int)) (f := fun _ => !true) (h := fun (i : Nat) => .int (i : Int)) 2 scLAlike.nd (xi_rangeN M.range (xe_lenL M.len (xe_var 1)) (by omega)) (blkOk_by (N := ["_law_found", "_law_due", "_law_k"]) (sc := defScope sLAlike) (by decide +kernel))
        (fun _ _ _ _ _ i hi => ?_) (fun _ _ _ _ _ i hi z => nomatch z) (by rw [List.length_range]; omega))) (by simp)) (xe_lst xa_nil) (shaped_list (by simp)) (shaped_list (by simp))) (by rw [eqv_self _ rfl]))
      have hi' := List.mem_range.mp hi
      have ga := atI_nat (xs := xs) (v := xs[i]) (List.getElem?_eq_getElem hi')
      exact xt_not (xt_val (xe_call C hr (xa2 (xe_ixL (xe_var 0) (xe_var 2) ga) (xe_ixL (xe_var 1) (xe_var 2) ga)) ⟨xs[i], hxs _ (List.getElem_mem hi'), rfl, rfl⟩))
    | tup m xs hxs hl =>
      have C := C m rfl
      refine sx_if (k := true) (xt_val (k := true) (xe_isi2 (d := .tuple xs) (t := "tuple") (u := "list") (xe_var 1) M.isinstance M.tuple PyProof.Rows.boot_tuple M.list PyProof.Rows.boot_list (kit_any2 k7 k8))) (fun _ => ?_) (fun z => nomatch z)
      refine sx_unless (xt_is (xw_t (xw_or (xt_not (xt_val (k := true) (xe_isi2 (d := .tuple xs) (t := "tuple") (u := "list") (xe_var 0) M.isinstance M.tuple PyProof.Rows.boot_tuple M.list PyProof.Rows.boot_list (kit_any2 k7 k8))))
        fun _ => xw_or1 (xt_neB (i := false) (j := false) (xe_isi (d := .tuple xs) (t := "list") (xe_var 0) M.isinstance M.list PyProof.Rows.boot_list k8) (xe_isi (d := .tuple xs) (t := "list") (xe_var 1) M.isinstance M.list PyProof.Rows.boot_list k8)))) rfl) ?_
      refine sx_unless (xt_is (xt_ne (i := (xs.length : Int)) (j := (xs.length : Int)) (xe_lenT M.len (xe_var 0)) (xe_lenT M.len (xe_var 1))) (by simp)) ?_
      refine sx_rt ⟨rt.rt, fun e => nomatch e⟩ (xe_is (xe_eqD hr.units (x := .list []) (y := .list []) (xe_is (xn_e (xn_lcif (xs := List.range xs.length) (enc := fun (i : Nat) => .int (i : Int)) (f := fun _ => !true) (h := fun (i : Nat) => .int (i : Int)) 2 scLAlike.nd (xi_rangeN M.range (xe_lenT M.len (xe_var 1)) (by omega)) (blkOk_by (N := ["_law_found", "_law_due", "_law_k"]) (sc := defScope sLAlike) (by decide +kernel))
        (fun _ _ _ _ _ i hi => ?_) (fun _ _ _ _ _ i hi z => nomatch z) (by rw [List.length_range]; omega))) (by simp)) (xe_lst xa_nil) (shaped_list (by simp)) (shaped_list (by simp))) (by rw [eqv_self _ rfl]))
      have hi' := List.mem_range.mp hi
      have ga := atI_nat (xs := xs) (v := xs[i]) (List.getElem?_eq_getElem hi')
      exact xt_not (xt_val (xe_call C hr (xa2 (xe_ixT (xe_var 0) (xe_var 2) ga) (xe_ixT (xe_var 1) (xe_var 2) ga)) ⟨xs[i], hxs _ (List.getElem_mem hi'), rfl, rfl⟩))
theorem ok_lAlike (F : Fun K "_law_alike" "_law_alike" sLAlike f fd) (M : Nm mg) (hm : mg "_law_alike" = some (.ref f)) (hb : Binds K fd ["_law_found", "_law_due"] []) : ∀ n, FnOk P w K mg base CX0 (n + 1) f fd ["_law_found", "_law_due"] (spD K (RlAlike n))
  | 0 => step_alike 0 True F M fun m e => by cases e
  | n + 1 => step_alike (n + 1) True F M fun m e => by
    cases e
    exact callee_of (ok_lAlike F M hm hb n) hm F.kp hb
end
end DL
set_option Elab.async false
set_option linter.all false
set_option maxRecDepth 100000
set_option maxHeartbeats 4000000
/-! Defs that draw from the row. -/
namespace DL
open PySem PySem.Spec PyProof.Rows L2
/-- all but what stands at r -/
def SB (r : Addr) (H H' : Hp) : Prop := ∀ a u, a ≠ r → H a = some u → H' a = some u
theorem SB.refl (r : Addr) (H : Hp) : SB r H H := fun _ _ _ e => e
theorem SB.trans {r : Addr} {H H1 H2 : Hp} (a : SB r H H1) (b : SB r H1 H2) : SB r H H2 := fun x u n e => b x u n (a x u n e)
theorem SB.of {r : Addr} {H H' : Hp} (s : Same H H') : SB r H H' := fun a u _ e => s a u e
def rowD (L : List Int) (p q s : Int) : List D := [.list (L.map .int), .int p, .int q, .int s]
/-- what is hidden stands, and is no tuple -/
def NT (G : List Addr) (H : Hp) : Prop := ∀ a, a ∈ G → ∃ u, H a = some u ∧ ∀ xs, u ≠ .tup xs
theorem NT.same {G : List Addr} {H H' : Hp} (h : NT G H) (s : Same H H') : NT G H' := fun a m => by
  obtain ⟨u, h1, h2⟩ := h a m
  exact ⟨u, s a u h1, h2⟩
theorem NT.live {G : List Addr} {H : Hp} (h : NT G H) : Live G H := fun a m => by
  obtain ⟨u, h1, _⟩ := h a m
  rw [h1]; exact fun z => nomatch z
theorem NT.sb {r : Addr} {ws : List V} {G : List Addr} {H H' : Hp} (h : NT G H) (s : SB r H H') (e : H' r = some (.lst ws)) : NT G H' := fun a m => by
  by_cases z : a = r
  · rw [z]; exact ⟨_, e, fun _ z => nomatch z⟩
  · obtain ⟨u, h1, h2⟩ := h a m
    exact ⟨u, s a u z h1, h2⟩
def RowAt (K : PySem.W.Frag) (G : List Addr) (H : Hp) (r : Addr) (L : List Int) : Prop := NT G H ∧ ∃ (ws : List V) (p q s : Int), H r = some (.lst ws) ∧ DpAll K (hid G H) ws (rowD L p q s) ∧ 0 ≤ p ∧ 0 ≤ q ∧ q < 2147483647
theorem RowAt.same {K : PySem.W.Frag} {G : List Addr} {H H' : Hp} {r : Addr} {L : List Int} (h : RowAt K G H r L) (s : Same H H') : RowAt K G H' r L := by
  obtain ⟨h0, ws, p, q, t, h1, h2, h3⟩ := h
  exact ⟨h0.same s, ws, p, q, t, s r _ h1, dpAll_mono (hid_mono s) h2, h3⟩
theorem SB.hid {r : Addr} {G : List Addr} {H H' : Hp} (m : r ∈ G) (s : SB r H H') : Same (hid G H) (hid G H') := fun a u e => by
  obtain ⟨n, e⟩ := hid_some e
  rw [hid_out n]
  exact s a u (fun z => n (z ▸ m)) e
/-- f(row, ..): the answer is one of P -/
def spRow (K : PySem.W.Frag) (R : List D → (D → Prop) → Prop) : Sp := fun vs H Q _ => ∃ (r : Addr) (us : List V) (ds : List D) (G : List Addr) (L : List Int) (Pd : D → Prop), vs = .ref r :: us ∧ R ds Pd ∧ r ∈ G ∧ RowAt K G H r L ∧ RpAll K (hid G H) us ds ∧
  ∀ v d H', Pd d → SB r H H' → RowAt K G H' r L → Rp K (hid G H') v d → Q v H'
/-- an expression that may draw -/
def XR (X : Cx) (i : Nat) (L : List Int) (ρ : Rho) (e : Expr) (Pd : D → Prop) : Prop := ∀ (G : List Addr) (r : Addr) (σ : L2.St) (H : Hp), r ∈ G → EnvOk X.K G H σ ρ → σ[i]? = some (some (.ref r)) → RowAt X.K G H r L →
  ∀ Q : VK, (∀ v d H', Pd d → SB r H H' → RowAt X.K G H' r L → Rp X.K (hid G H') v d → Q v H') → cE X e σ H Q
theorem filter_hid {r : Addr} {G : List Addr} (m : r ∈ G) (H : Hp) : hid (r :: G.filter (· != r)) H = hid G H := by
  funext a
  by_cases z : a ∈ G
  · rw [hid_in z, hid_in]
    by_cases e : a = r
    · rw [e]; exact List.mem_cons_self
    · exact List.mem_cons_of_mem _ (List.mem_filter.mpr ⟨z, by simpa using e⟩)
  · rw [hid_out z, hid_out]
    intro q
    rcases List.mem_cons.mp q with e | q
    · exact z (e ▸ m)
    · exact z (List.mem_filter.mp q).1
section
variable {X : Cx} {F : List Addr} {H0 : Hp} {ρ ρ' : Rho} {o : Own} {Dn : Ends} {e ix : Expr} {sts : List Stmt} {pos p p1 : Pos} {ds : List D} {d : D}
/-- a[j] = e, an own list, e an int -/
theorem sx_stL {i : Nat} {l : Addr} {n : Str} {j : Nat} {x : Int} (he : XE X (ρ.set i (some (.list ds))) e (.int x)) (hx : XE X ρ ix (.int (j : Int))) (hj : j < ds.length) (h : SX X F H0 ρ (.lst i l (ds.set j (.int x))) sts Dn) (hN : X.N[i]? = some n := by rfl) (hv : Vis X.env.scope n := by first | exact Or.inl rfl | exact Or.inr (Or.inl rfl) | exact Or.inr (Or.inr rfl))
    (hdb : (n == ("__debug__" : Str)) = false := by decide) (hcd : (n == ("__classdict__" : Str)) = false := by decide)
    (hs : swapsWithSole [.Subscript (.Name n p) ix p1] e pos.line X.env = pure false := by rfl) (hw : swappedStores [.Subscript (.Name n p) ix p1] e X.env = pure none := by rfl)
    (h1 : (assignEach [.Subscript (.Name n p) ix p1] X.env).map (·.2) = [assign (.Subscript (.Name n p) ix p1) X.env] := by rfl)
    (hasg : ∀ v, assign (.Subscript (.Name n p) ix p1) X.env v = (do
      let ov ← holding [v] (eval (.Name n p) X.env)
      let iv ← holding [v, ov] (eval ix X.env)
      standAt p1
      holding [v, ov, iv] (setItem ov iv v)
      release [v, ov, iv] []) := by intro _; rfl) :
    SX X F H0 ρ (.lst i l ds) (.Assign [.Subscript (.Name n p) ix p1] e pos :: sts) Dn := fun σ H s => by
  refine cSs_cons (ps_asg pE (pg_sub (pe_var hN hv hdb hcd) pE set_list hasg) hs hw h1) ?_
  obtain ⟨g1, g2, vs, g3, g4⟩ := s.own
  refine he F σ H s.shared s.live _ fun v H1 s1 r1 => ?_
  rw [r1.i]
  refine ⟨.ref l, g2, hx _ σ H1 (s.env.same s1) (s.lives.mono s1) _ fun w H2 s2 r2 => ⟨l, vs, (j : Int), j, rfl, r2.i, (s1.trans s2) l _ g3, ?_, h _ _ ?_⟩⟩
  · have := DpAll.length g4
    unfold ixN
    rw [if_pos (by omega), if_pos (by omega)]
    simp
  have s12 := s1.trans s2
  have hid' : hid (l :: F) (upd H2 l (.lst (vs.set j (.int x)))) = hid (l :: F) H2 := by
    funext a
    by_cases m : a ∈ l :: F
    · rw [hid_in m, hid_in m]
    · rw [hid_out m, hid_out m, upd_ne fun z => m (by simp [z])]
  refine ⟨?_, fun x u n q => ?_, fun a m => ?_, g1, g2, _, upd_same, ?_⟩
  · have e1 : EnvOk X.K (l :: F) H2 σ ρ := (s.grow s12).env
    exact ⟨e1.len, fun i d q => by
      obtain ⟨u, g1, g2⟩ := e1.at_ i d q
      refine ⟨u, g1, ?_⟩
      show Rp X.K (hid (l :: F) (upd H2 l (.lst (vs.set j (.int _))))) u d
      rw [hid']; exact g2⟩
  · rw [upd_ne (by simpa [Own.ads] using n)]
    exact s12 x u (s.same x u n q)
  · rw [upd_ne (show a ≠ l from fun z => g1 (by rw [← z]; exact m))]
    exact s.live.mono s12 a m
  · rw [hid']
    exact DpAll.set (.int _) j (dpAll_mono (hid_mono s12) g4)
end
abbrev sLTaken : Stmt := topS 44
theorem scLTaken : FnScope ["_law_row", "_law_many", "_law_found", "_law_cell"] ["_law_row", "_law_many"] (defScope sLTaken) := ⟨rfl, rfl, rfl, by decide +kernel, rfl, by decide +kernel, by decide +kernel⟩
section
variable {P : Program} {w : World} {K : PySem.W.Frag} {mg : Str → Option Value} {base : Heap} {f : Addr} {fd : FuncData} {k : Nat}
def Rtaken (ds : List D) (Pd : D → Prop) : Prop := ∃ n : Nat, 1 ≤ n ∧ n ≤ 1000 ∧ ds = [.int (n : Int)] ∧ ∀ t : Nat, t < n → Pd (.int (t : Int))
theorem RpAll.env2 {G : List Addr} {H : Hp} {r : Addr} {v : V} {d : D} {N : Nat} (h : Rp K (hid G H) v d) : EnvOk K G H ([some (.ref r), some v] ++ List.replicate N none) ([none, some d] ++ List.replicate N none) :=
  ⟨by rw [List.length_append, List.length_append, List.length_replicate, List.length_replicate]; rfl, fun i x q => by
    match i, q with
    | 0, q => cases q
    | 1, q => cases q; exact ⟨v, rfl, h⟩
    | i + 2, q =>
      have : (List.replicate N (none : Option D))[i]? = some (some x) := by simpa using q
      rw [List.getElem?_replicate] at this
      split at this <;> cases this⟩
theorem ok_lTaken (F : Fun K "_law_taken" "_law_taken" sLTaken f fd) (M : Nm mg) (hK : K = K) : FnOk P w K mg base CX0 1 f fd ["_law_row", "_law_many"] (spRow K Rtaken) := by
  refine F.ok scLTaken (fun vs H Q E h => ?_) fun cdv A outer s H vs Q E hr h => ?_
  · obtain ⟨r, us, ds, G, L, Pd, rfl, ⟨n, _, _, rfl, _⟩, _, _, hu, _⟩ := h
    rw [List.length_cons, hu.length]; rfl
  · obtain ⟨r, us, ds, G, L, Pd, rfl, ⟨n, hn1, hn2, rfl, hP⟩, hm, row, hu, q⟩ := h
    obtain ⟨v, rfl, rv⟩ := hu.one'
    obtain ⟨nt, ws, pp, qq, ss, w1, w2, w3, w4, w5⟩ := row
    have li := nt.live
    refine ⟨_, pSs, ?_⟩
    have fl := fun H' => filter_hid hm H'
    have rF : r ∉ G.filter (· != r) := fun z => by simpa using (List.mem_filter.mp z).2
    -- the end
    have fin : ∀ (Dn : Ends) (hD : Dn.rt = Q) (e : Expr) (pos : Pos) (sts : List Stmt) (ρ : Rho) (p q' s' : Int) (x : Int), 0 ≤ p → 0 ≤ q' → q' < 2147483647 → (∃ t : Nat, t < n ∧ x = (t : Int)) → XE (cxOf CX0 P w K mg base ["_law_row", "_law_many", "_law_found", "_law_cell"] "_law_taken" (defScope sLTaken) f cdv A outer s H E).nox (ρ.set 0 (some (.list (rowD L p q' s')))) e (.int x) →
        SX (cxOf CX0 P w K mg base ["_law_row", "_law_many", "_law_found", "_law_cell"] "_law_taken" (defScope sLTaken) f cdv A outer s H E).nox (G.filter (· != r)) H ρ (.lst 0 r (rowD L p q' s')) (.Return (some e) pos :: sts) Dn := fun Dn hD e pos sts ρ p q' s' x a1 a2 a3 ⟨t, ht, hx⟩ he σ H1 st => by
      refine cSs_cons (ps_ret pE) (he _ σ H1 st.shared st.live _ fun v' H2 s2 r2 => ?_)
      show Dn.rt v' H2
      rw [hD]
      have st2 := st.grow s2
      obtain ⟨o1, o2, vs, o3, o4⟩ := st2.own
      rw [fl] at o4
      have sb : SB r H H2 := fun a u na ea => st2.same a u (by simpa [Own.ads] using na) ea
      refine q v' (.int x) H2 (by rw [hx]; exact hP t ht) sb ⟨nt.sb sb o3, vs, p, q', s', o3, o4, a1, a2, a3⟩ ?_
      rw [r2.i]; exact rp_i
    have emod : ∀ x : Int, ∃ t : Nat, t < n ∧ x % (n : Int) = (t : Int) := fun x => ⟨(x % (n : Int)).toNat, by have h1 := Int.emod_nonneg x (show (n : Int) ≠ 0 by omega); have h2 := Int.emod_lt_of_pos x (show (0 : Int) < n by omega); omega, by have h1 := Int.emod_nonneg x (show (n : Int) ≠ 0 by omega); omega⟩
    have body : SX (cxOf CX0 P w K mg base ["_law_row", "_law_many", "_law_found", "_law_cell"] "_law_taken" (defScope sLTaken) f cdv A outer s H E).nox (G.filter (· != r)) H [none, some (.int (n : Int)), none, none] (.lst 0 r (rowD L pp qq ss)) (defBody sLTaken) { nx := fun _ H' => Q .non H', rt := Q } := by
      refine sx_if (k := decide ((0 : Int) < ss)) (xt_gt (i := ss) (j := 0) (xe_ixL (xe_var 0) xe_int rfl) xe_int) (fun hs => ?_) fun hs => ?_
      · refine sx_setF (d := .int (ss % (n : Int))) 2 scLTaken.nd (xe_mod (xe_intI M.int (xe_ixL (xe_var 0) xe_int rfl)) (xe_var 1) (by omega)) rfl ?_ (ho := by intro z; cases z)
        refine sx_stL (j := 3) (xe_fdiv (i := ss) (j := (n : Int)) (xe_ixL (xe_var 0) xe_int rfl) (xe_var 1) ⟨by omega, by omega⟩) xe_int (by show 3 < 4; decide) ?_
        exact fin _ rfl _ _ _ _ pp qq (ss / (n : Int)) _ w3 w4 w5 (emod ss) (xe_var 2)
      · refine sx_k (sx_stL (j := 1) (xe_add (i := pp) (j := 1) (xe_ixL (xe_var 0) xe_int rfl) xe_int) xe_int (by show 1 < 4; decide) ?_)
        refine sx_if (k := decide ((L.length : Int) < pp + 1)) (xt_gt (i := pp + 1) (j := (L.length : Int)) (xe_ixL (xe_var 0) xe_int rfl) (xe_is (xe_lenL (ds := L.map .int) M.len (xe_ixL (xe_var 0) xe_int rfl)) (by rw [List.length_map]))) (fun hp => ?_) fun hp => ?_
        · refine sx_stL (j := 2) (xe_mod (i := qq * 48271 + 11) (j := 2147483647) (xe_intI M.int (xe_add (xe_mul (i := qq) (j := 48271) (xe_ixL (xe_var 0) xe_int rfl) xe_int (.inr ⟨by decide, by decide⟩)) xe_int)) xe_int (by decide)) xe_int (by show 2 < 4; decide) ?_
          exact fin _ rfl _ _ _ _ (pp + 1) ((qq * 48271 + 11) % 2147483647) ss _ (by omega) (Int.emod_nonneg _ (by decide)) (Int.emod_lt_of_pos _ (by decide)) (emod ((qq * 48271 + 11) % 2147483647 / 7)) (xe_mod (xe_intI M.int (xe_fdiv (j := 7) (xe_ixL (xe_var 0) xe_int rfl) xe_int ⟨by decide, by decide⟩)) (xe_var 1) (by omega))
        · have hp' : ¬ ((L.length : Int) < pp + 1) := of_decide_eq_false hp
          obtain ⟨pn, rfl⟩ : ∃ pn : Nat, pp = (pn : Int) := ⟨pp.toNat, by omega⟩
          have hl : pn < L.length := by omega
          refine sx_k (sx_setF (d := .int L[pn]) 3 scLTaken.nd (xe_ixL (ds := L.map .int) (i := (pn : Int)) (xe_ixL (xe_var 0) xe_int rfl) (xe_is (xe_sub (i := (pn : Int) + 1) (j := 1) (xe_ixL (xe_var 0) xe_int rfl) xe_int) (by congr 1; omega)) (atI_nat (by rw [List.getElem?_map, List.getElem?_eq_getElem hl]; rfl))) rfl ?_ (ho := by intro z; cases z))
          refine sx_stL (j := 2) (xe_mod (i := qq * 48271 + L[pn] + 11) (j := 2147483647) (xe_intI M.int (xe_add (xe_add (xe_mul (i := qq) (j := 48271) (xe_ixL (xe_var 0) xe_int rfl) xe_int (.inr ⟨by decide, by decide⟩)) (xe_var 3)) xe_int)) xe_int (by decide)) xe_int (by show 2 < 4; decide) ?_
          refine sx_if (k := decide ((10 : Int) ^ (18 : Int).toNat ≤ L[pn])) (xt_ge (i := L[pn]) (j := (10 : Int) ^ (18 : Int).toNat) (xe_var 3) (xe_pow xe_int xe_int ⟨by decide, by decide, by decide⟩)) (fun hg => ?_) fun hg => ?_
          · refine sx_stL (j := 3) (xe_fdiv (i := L[pn]) (j := (n : Int)) (xe_var 3) (xe_var 1) ⟨by omega, by omega⟩) xe_int (by show 3 < 4; decide) (sx_k ?_)
            exact fin _ rfl _ _ _ _ ((pn : Int) + 1) ((qq * 48271 + L[pn] + 11) % 2147483647) (L[pn] / (n : Int)) _ (by omega) (Int.emod_nonneg _ (by decide)) (Int.emod_lt_of_pos _ (by decide)) (emod L[pn]) (xe_mod (xe_intI M.int (xe_var 3)) (xe_var 1) (by omega))
          · refine sx_k ?_
            exact fin _ rfl _ _ _ _ ((pn : Int) + 1) ((qq * 48271 + L[pn] + 11) % 2147483647) ss _ (by omega) (Int.emod_nonneg _ (by decide)) (Int.emod_lt_of_pos _ (by decide)) (emod L[pn]) (xe_mod (xe_intI M.int (xe_var 3)) (xe_var 1) (by omega))
    refine body _ _ ⟨?_, fun x u _ ex => ex, fun a ma => li a (List.mem_filter.mp ma).1, rF, rfl, ws, w1, by rw [fl]; exact w2⟩
    have ee := RpAll.env2 (G := r :: G.filter (· != r)) (H := H) (r := r) (N := 2) (v := v) (d := .int (n : Int)) (by rw [fl]; exact rv)
    exact ee
end
end DL
set_option Elab.async false
set_option linter.all false
set_option maxRecDepth 100000
set_option maxHeartbeats 4000000
/-! Expressions that draw. -/
namespace DL
open PySem PySem.Spec PyProof.Rows L2
structure CalleeR (P : Program) (w : World) (K : PySem.W.Frag) (mg : Str → Option Value) (base : Heap) (k : Nat) (n : Str) (R : List D → (D → Prop) → Prop) : Prop where
  ex : ∃ (f : Addr) (fd : FuncData) (ps : List Str), FnOk P w K mg base CX0 k f fd ps (spRow K R) ∧ mg n = some (.ref f) ∧ PySem.W.keepIn K (.ref f) = true ∧ Binds K fd ps []
section
variable {X : Cx} {i : Nat} {L : List Int} {ρ : Rho} {e a b c tg iter : Expr} {es : List Expr} {pos p pr : Pos} {x y : D} {ds : List D} {Pd Pa Pb : D → Prop}
theorem xr_of {d : D} (h : XE X ρ e d) (hp : Pd d) : XR X i L ρ e Pd := fun G r σ H m en sl row Q q => h G σ H en row.1.live _ fun v H' s r' => q v d H' hp (SB.of s) (row.same s) r'
theorem xr_imp (h : XR X i L ρ e Pa) (hp : ∀ d, Pa d → Pd d) : XR X i L ρ e Pd := fun G r σ H m en sl row Q q => h G r σ H m en sl row _ fun v d H' pd sb rw' r' => q v d H' (hp d pd) sb rw' r'
theorem xr_call {k : Nat} {n nr : Str} {R : List D → (D → Prop) → Prop} (C : CalleeR X.prog X.w X.K X.mg X.base k n R) (hr : Room k X.A) (hN : X.N[i]? = some nr) (ha : XA X ρ es ds) (hR : R ds Pd) (hv : Vis X.env.scope nr := by first | exact Or.inl rfl | exact Or.inr (Or.inl rfl) | exact Or.inr (Or.inr rfl)) (hg : Gl X n := by rfl) (hdb : (n == ("__debug__" : Str)) = false := by decide)
    (hd2 : (nr == ("__debug__" : Str)) = false := by decide) (hcd : (nr == ("__classdict__" : Str)) = false := by decide)
    (he : starEach (.Name nr pr :: es) X.env = (false, eval (.Name nr pr) X.env) :: starEach es X.env := by rfl) (hpl : (backTo pos (starEach es X.env)).any (·.1) = false := by rfl) : XR X i L ρ (.Call (.Name n p) (.Name nr pr :: es) [] pos) Pd := fun G r σ H m en sl row Q q => by
  obtain ⟨f, fd, ps, F, hm, hk, hb⟩ := C.ex
  refine cE_of (pe_call F hr hg hm hk hb .nil pass0 (pa_cons (pe_var hN hv hd2 hcd) pA he) hdb he hpl) ⟨.ref r, sl, ha G σ H en row.1.live _ fun vs H1 s1 r1 => ⟨r, vs, ds, G, L, Pd, by rw [List.append_nil], hR, m, row.same s1, r1, fun v d H2 pd sb rw' rp => q v d H2 pd ((SB.of s1).trans sb) rw' rp⟩⟩
theorem xr_callR {k : Nat} {n nr : Str} {R : List D → (D → Prop) → Prop} (C : CalleeR X.prog X.w X.K X.mg X.base k n R) (hr : Room k X.A) (hN : X.N[i]? = some nr) (ha : XR X i L ρ b Pb) (hR : ∀ d, Pb d → R [d] Pd) (hv : Vis X.env.scope nr := by first | exact Or.inl rfl | exact Or.inr (Or.inl rfl) | exact Or.inr (Or.inr rfl)) (hg : Gl X n := by rfl) (hdb : (n == ("__debug__" : Str)) = false := by decide)
    (hd2 : (nr == ("__debug__" : Str)) = false := by decide) (hcd : (nr == ("__classdict__" : Str)) = false := by decide)
    (he : starEach (.Name nr pr :: [b]) X.env = (false, eval (.Name nr pr) X.env) :: starEach [b] X.env := by rfl) (he2 : starEach (b :: []) X.env = (false, eval b X.env) :: starEach [] X.env := by rfl) (hpl : (backTo pos (starEach [b] X.env)).any (·.1) = false := by rfl) : XR X i L ρ (.Call (.Name n p) [.Name nr pr, b] [] pos) Pd := fun G r σ H m en sl row Q q => by
  obtain ⟨f, fd, ps, F, hm, hk, hb⟩ := C.ex
  refine cE_of (pe_call F hr hg hm hk hb .nil pass0 (pa_cons (pe_var hN hv hd2 hcd) (pa_cons pE pa_nil he2) he) hdb he hpl) ⟨.ref r, sl, ha G r σ H m en sl row _ fun v d H1 pd sb row1 rp => ⟨r, [v], [d], G, L, Pd, rfl, hR d pd, m, row1, .cons rp .nil, fun v2 d2 H2 pd2 sb2 rw2 rp2 => q v2 d2 H2 pd2 (sb.trans sb2) rw2 rp2⟩⟩
theorem xr_op2 {t : TE} {r2 : R2} (hp : PE X e (tOp r2 (cE X a) (cE X b))) (ha : XE X ρ a x) (hb : XR X i L ρ b Pb) (hv : ∀ d, Pb d → ∃ z, RV X.K r2 x d z ∧ Pd z) : XR X i L ρ e Pd := fun G r σ H m en sl row Q q =>
  cE_of hp (ha G σ H en row.1.live _ fun u H1 s1 r1 => hb G r σ H1 m (en.same s1) sl (row.same s1) _ fun v d H2 pd sb row2 rp => by
    obtain ⟨z, hz, pz⟩ := hv d pd
    refine hz G H2 row2.1.live u v (rp_mono (sb.hid m) r1) rp Q fun w H3 s3 r3 => q w z H3 pz (((SB.of s1).trans sb).trans (SB.of s3)) (row2.same s3) r3)
theorem xr_op {op : Operator} {r2 : R2} (ho : OpR X (binaryOp op) r2) (ha : XE X ρ a x) (hb : XR X i L ρ b Pb) (hv : ∀ d, Pb d → ∃ z, RV X.K r2 x d z ∧ Pd z) : XR X i L ρ (.BinOp a op b pos) Pd := xr_op2 (t := fun _ _ _ => True) (pe_op ho pE pE) ha hb hv
theorem xr_ix {r2 : R2} (hi : IxR X r2) (ha : XE X ρ a x) (hb : XR X i L ρ b Pb) (hv : ∀ d, Pb d → ∃ z, RV X.K r2 x d z ∧ Pd z) (hs : PlainIx b := by exact fun _ _ => rfl) : XR X i L ρ (.Subscript a b pos) Pd := xr_op2 (t := fun _ _ _ => True) (pe_ix hi pE pE hs) ha hb hv
theorem xr_if {k : Bool} (h : XT X ρ c k) (h1 : k = true → XR X i L ρ a Pd) (h2 : k = false → XR X i L ρ b Pd) : XR X i L ρ (.IfExp c a b pos) Pd := fun G r σ H m en sl row Q q => cE_of (pe_ifExp pT pE pE) (h G σ H en row.1.live _ fun H1 s1 => by
  cases k with
  | true => exact iteT (h1 rfl G r σ H1 m (en.same s1) sl (row.same s1) _ fun v d H2 pd sb rw' rp => q v d H2 pd ((SB.of s1).trans sb) rw' rp)
  | false => exact iteF (h2 rfl G r σ H1 m (en.same s1) sl (row.same s1) _ fun v d H2 pd sb rw' rp => q v d H2 pd ((SB.of s1).trans sb) rw' rp))
/-- (x, drawn) -/
theorem xr_tup2 {k : Nat} (ha : XE X ρ a x) (hb : XR X i L ρ b Pb) (n1 : isDict x = false) (hv : ∀ d, Pb d → isDict d = false ∧ Pd (.tuple [x, d])) (hs1 : starEach (a :: [b]) X.env = (false, eval a X.env) :: starEach [b] X.env := by rfl) (hs2 : starEach (b :: []) X.env = (false, eval b X.env) :: starEach [] X.env := by rfl) : XR X i L ρ (.Tuple [a, b] k pos) Pd := fun G r σ H m en sl row Q q =>
  cE_of (pe_tup (pa_cons pE (pa_cons pE pa_nil hs2) hs1)) (ha G σ H en row.1.live _ fun u H1 s1 r1 => hb G r σ H1 m (en.same s1) sl (row.same s1) _ fun v d H2 pd sb row2 rp => ⟨by simp; decide, fun t ht => by
    obtain ⟨n2, pz⟩ := hv d pd
    refine q _ _ _ pz (((SB.of s1).trans sb).trans (SB.of (same_upd ht))) (row2.same (same_upd ht)) (.inl (.tup (.inl (.inl (by rw [hid_out (row2.1.live.out ht)]; exact upd_same))) (.cons ((rp_mono (Same.trans (sb.hid m) (hid_mono (same_upd ht))) r1).dp n1) (.cons ((rp_mono (hid_mono (same_upd ht)) rp).dp n2) .nil))))⟩)
/-- a test that may draw -/
def XTR (X : Cx) (i : Nat) (L : List Int) (ρ : Rho) (e : Expr) : Prop := ∀ (G : List Addr) (r : Addr) (σ : L2.St) (H : Hp), r ∈ G → EnvOk X.K G H σ ρ → σ[i]? = some (some (.ref r)) → RowAt X.K G H r L →
  ∀ Q : Bool → Hp → Prop, (∀ k H', SB r H H' → RowAt X.K G H' r L → Q k H') → cT X e σ H Q
theorem xtr_eq {j : Int} (ha : XR X i L ρ a Pa) (hb : XE X ρ b (.int j)) (hp : ∀ d, Pa d → ∃ k : Int, d = .int k) : XTR X i L ρ (.Compare a [.Eq] [b] pos) := fun G r σ H m en sl row Q q =>
  cT_of (pt_cmpR op_eq pE pE (nomark _)) (ha G r σ H m en sl row _ fun u d H1 pd sb row1 rp => hb G σ H1 (en.mono (sb.hid m)) row1.1.live _ fun v H2 s2 r2 => by
    obtain ⟨k, rfl⟩ := hp d pd
    rw [rp.i, r2.i]
    exact ⟨rfl, ⟨_, by rw [show decide (V.int k = V.int j) = decide (k = j) by simp], q _ H2 (sb.trans (SB.of s2)) (row1.same s2)⟩⟩)
theorem xtr_and {k : Bool} (ha : XT X ρ a k) (hb : XTR X i L ρ b) : XTR X i L ρ (.BoolOp .And [a, b] pos) := fun G r σ H m en sl row Q q =>
  cT_of (pw_and pT (pw_and1 pT)).pt (ha G σ H en row.1.live _ fun H1 s1 => by
    cases k with
    | true => exact iteT (hb G r σ H1 m (en.same s1) sl (row.same s1) _ fun k H2 sb row2 => q k H2 ((SB.of s1).trans sb) row2)
    | false => exact iteF (q _ H1 (SB.of s1) (row.same s1)))
/-- what is walked, as many turns as drawn -/
def XRng (X : Cx) (i : Nat) (L : List Int) (ρ : Rho) (tg iter : Expr) (Pv : List D → Prop) : Prop := ∀ (G : List Addr) (r : Addr) (σ : L2.St) (H : Hp), r ∈ G → EnvOk X.K G H σ ρ → σ[i]? = some (some (.ref r)) → RowAt X.K G H r L →
  ∀ R : It → Hp → Prop, (∀ J vals H1, Pv vals → SB r H H1 → RowAt X.K G H1 r L → Wk X.K J (fun _ => none) vals → R J H1) → cI X tg iter σ H R
theorem cI_of {wi : TI} {σ : L2.St} {H : Hp} {R : It → Hp → Prop} (h : PI X tg iter wi) (q : wi σ H R) : cI X tg iter σ H R := fun pins s I => h.run pins s σ H R I q
theorem xrng_1 {Pv : List D → Prop} (mr : X.mg "range" = none) (ha : XR X i L ρ e Pa) (hp : ∀ d, Pa d → ∃ n : Nat, d = .int (n : Int) ∧ n ≤ 1000 ∧ Pv ((rng 0 n).map .int)) (hg : Gl X "range" := by rfl) (he : starEach (e :: []) X.env = (false, eval e X.env) :: starEach [] X.env := by rfl) (hs : starEach [e] X.env = [(false, eval e X.env)] := by rfl) :
    XRng X i L ρ tg (.Call (.Name "range" p) [e] [] pos) Pv := fun G r σ H m en sl row R g => cI_of (pi_range1 hg mr (pa_cons pE pa_nil he) hs) (ha G r σ H m en sl row _ fun v d H1 pd sb row1 rp => by
  obtain ⟨n, rfl, hn, pv⟩ := hp d pd
  rw [rp.i]
  exact ⟨(n : Int), rfl, by omega, by omega, g _ _ H1 pv sb row1 wk_rng⟩)
theorem xrng_of {Pv : List D → Prop} {vals : List D} (h : ∀ (F : List Addr) (σ : L2.St) (H : Hp), EnvOk X.K F H σ ρ → Live F H → ∀ R : It → Hp → Prop, (∀ J H1, Same H H1 → Wk X.K J (fun _ => none) vals → R J H1) → cI X tg iter σ H R) (hv : Pv vals) : XRng X i L ρ tg iter Pv := fun G r σ H m en sl row R g =>
  h G σ H en row.1.live R fun J H1 s1 wk => g J vals H1 hv (SB.of s1) (row.same s1) wk
theorem wrng_2 {n m : Int} (mr : X.mg "range" = none) (h : XE X ρ a (.int n)) (g : XE X ρ b (.int m)) (hn : -(2 ^ 62) ≤ n ∧ n < 2 ^ 62 ∧ -(2 ^ 62) ≤ m ∧ m < 2 ^ 62) (hg : Gl X "range" := by rfl) (he : starEach (a :: [b]) X.env = (false, eval a X.env) :: starEach [b] X.env := by rfl)
    (he2 : starEach (b :: []) X.env = (false, eval b X.env) :: starEach [] X.env := by rfl) (hs : starEach [a, b] X.env = [(false, eval a X.env), (false, eval b X.env)] := by rfl) (hs2 : starEach [b] X.env = [(false, eval b X.env)] := by rfl) :
    ∀ (F : List Addr) (σ : L2.St) (H : Hp), EnvOk X.K F H σ ρ → Live F H → ∀ R : It → Hp → Prop, (∀ J H1, Same H H1 → Wk X.K J (fun _ => none) ((rng n (m - n).toNat).map .int) → R J H1) → cI X tg (.Call (.Name "range" p) [a, b] [] pos) σ H R := fun F σ H en li R gg => cI_of (pi_range2 hg mr pA hs hs2) (xa2 h g he he2 F σ H en li _ fun vs H1 s1 r0 => by
  obtain ⟨v, w, rfl, r1, r2⟩ := r0.two
  rw [r1.i, r2.i]
  exact ⟨n, m, rfl, hn, gg _ H1 s1 wk_rng⟩)
end
end DL
set_option Elab.async false
set_option linter.all false
set_option maxRecDepth 100000
set_option maxHeartbeats 4000000
/-! Statements and comprehensions that draw. -/
namespace DL
open PySem PySem.Spec PyProof.Rows L2
inductive F2 (R : D → D → Prop) : List D → List D → Prop
  | nil : F2 R [] []
  | cons {a b : D} {l m : List D} : R a b → F2 R l m → F2 R (a :: l) (b :: m)
theorem F2.snoc {R : D → D → Prop} {a b : D} : ∀ {l m : List D}, F2 R l m → R a b → F2 R (l ++ [a]) (m ++ [b])
  | _, _, .nil, h => .cons h .nil
  | _, _, .cons x t, h => .cons x (F2.snoc t h)
section
variable {X : Cx} {i : Nat} {L : List Int} {ρ : Rho} {e a b c tg iter elt : Expr} {es ifs : List Expr} {pos p p1 pr : Pos} {x y : D} {ds : List D} {Pd Pa Pb : D → Prop} {scope : Scope}
theorem xsrc_str {w : Str} {Pv : List D → Prop} (h : XE X ρ e (.str w)) (hv : Pv ((signs w).map .str)) : XRng X i L ρ tg e Pv := xrng_of (vals := (signs w).map .str) (fun F σ H en li R g => cI_of (pi_str pE) (h F σ H en li _ fun v H1 s1 r => by
  refine ⟨w, r.s, g _ H1 s1 fun H2 s2 => ⟨fun i d hd => ?_, ?_⟩⟩
  · unfold signs at hd
    rw [List.getElem?_map, List.getElem?_map] at hd
    cases q : w.cps.toList[i]? with
    | none => rw [q] at hd; cases hd
    | some k =>
      rw [q] at hd
      cases hd
      have hi := (List.getElem?_eq_some_iff.mp q).1
      rw [Array.length_toList] at hi
      refine ⟨hi, fun x H' y => ?_⟩
      obtain ⟨rfl, c, hc, rfl⟩ := y
      rw [Array.getElem?_toList] at q
      rw [q] at hc
      cases hc
      exact ⟨Same.refl _, _, s2, fun a o q => .inl q, rp_s⟩
  · unfold signs
    rw [List.length_map, List.length_map, Array.length_toList]
    exact Nat.le_refl _)) hv
/-- tests that may draw -/
def TR (X : Cx) (i : Nat) (L : List Int) (ρ : Rho) (ifs : List Expr) : Prop := ∀ (G : List Addr) (r : Addr) (σ : L2.St) (H : Hp), r ∈ G → EnvOk X.K G H σ ρ → σ[i]? = some (some (.ref r)) → RowAt X.K G H r L →
  ∀ Q : Bool → Hp → Prop, (∀ k H', SB r H H' → RowAt X.K G H' r L → Q k H') → cTs X ifs σ H Q
theorem tr_nil : TR X i L ρ [] := fun G r σ H m en sl row Q q pins s I => pts_nil.run pins s σ H Q I (q true H (SB.refl r H) row)
theorem tr_one (h : XTR X i L ρ c) : TR X i L ρ [c] := fun G r σ H m en sl row Q q pins s I => (pts_one pT).run pins s σ H Q I (h G r σ H m en sl row Q q)
theorem xr_lc {Pv : List D → Prop} {Pe : D → D → Prop} {n : Str} (j : Nat) (hN : X.N.Nodup) (hij : i ≠ j) (hsrc : XRng X i L ρ (.Name n p1) iter Pv) (ok : BlkOk X.N X.env.scope scope [(n, j)])
    (ht : ∀ (s : Shared) (H : Hp) (C : Addr) (cl : List (Str × Addr)) (fp : List Addr) (d : D), TR (X.blk s H scope (compEnvC scope cl C X.env) fp) i L ((ρ.set j none).set j (some d)) ifs)
    (he : ∀ (s : Shared) (H : Hp) (C : Addr) (cl : List (Str × Addr)) (fp : List Addr) (d : D), (∃ vals, Pv vals ∧ d ∈ vals) → XR (X.blk s H scope (compEnvC scope cl C X.env) fp) i L ((ρ.set j none).set j (some d)) elt (Pe d))
    (hnd : ∀ d e, Pe d e → isDict e = false) (hlen : ∀ vals, Pv vals → vals.length ≤ 100000) (hres : ∀ vals S out, Pv vals → S.Sublist vals → F2 Pe S out → Pd (.list out)) (hc : X.calm = true := by rfl) (hj : X.N[j]? = some n := by rfl)
    (hx : ∀ (s : Shared) (H : Hp) (C : Addr) (cl : List (Str × Addr)) (fp : List Addr), LocB (X.blk s H scope (compEnvC scope cl C X.env) fp) n := by first | exact fun _ _ _ _ _ => .inl rfl | exact fun _ _ _ _ _ => .inr ⟨rfl, rfl⟩)
    (hs : ∀ x, foldedSetIterable iter X.env x = pure x := by intro _; rfl) : XR X i L ρ (.ListComp elt [⟨.Name n p1, iter, ifs, 0⟩] scope pos) Pd := by
  intro G r σ H m en sl row Q q
  refine cE_of (pe_lc (te := fun σ H Q => ∀ (s : Shared) (H0 : Hp) (C : Addr) (cl : List (Str × Addr)) (fp : List Addr), cE (X.blk s H0 scope (compEnvC scope cl C X.env) fp) elt σ H Q) (tt := fun σ H Q => ∀ (s : Shared) (H0 : Hp) (C : Addr) (cl : List (Str × Addr)) (fp : List Addr), cTs (X.blk s H0 scope (compEnvC scope cl C X.env) fp) ifs σ H Q)
    hc hN pI ok (fun s H C cl fp => pg_name hN hj (hx s H C cl fp).loc (hx s H C cl fp).fn) (fun s H C cl fp => ⟨fun pins s1 σ1 H1 Q I h => h s H C cl fp pins s1 I⟩) (fun s H C cl fp => ⟨fun pins s1 σ1 H1 Q I h => h s H C cl fp pins s1 I⟩) hs) ?_
  refine hsrc G r σ H m en sl row _ fun J vals H1 pv sb1 row1 wk Dl hD => ?_
  obtain ⟨nt1, ws1, pp1, qq1, ss1, w1, w2, w3⟩ := id row1
  have nDr : Dl ≠ r := fun z => by rw [z, w1] at hD; cases hD
  have nDG : Dl ∉ G := nt1.live.out hD
  have sD := same_upd (o := HO.lst []) hD
  have en1 := en.mono (sb1.hid m)
  have row0 : RowAt X.K (Dl :: G) (upd H1 Dl (.lst [])) r L := ⟨fun a ma => by
    rcases List.mem_cons.mp ma with e | ma
    · rw [e, upd_same]; exact ⟨_, rfl, fun _ z => nomatch z⟩
    · exact (nt1.same sD) a ma, ws1, pp1, qq1, ss1, sD r _ w1, dpAll_mono (hid_new hD sD) w2, w3⟩
  refine ⟨fun k mm Hi => mm = vals.length - k ∧ k ≤ vals.length ∧ (∀ a u, a ≠ r → a ≠ Dl → H1 a = some u → Hi a = some u) ∧ RowAt X.K (Dl :: G) Hi r L ∧ ∃ vs S out, Hi Dl = some (.lst vs) ∧ S.Sublist (vals.take k) ∧ F2 Pe S out ∧ DpAll X.K (hid (Dl :: G) Hi) vs out ∧ vs.length ≤ k,
    ⟨vals.length, rfl, Nat.zero_le _, fun a u _ na e => by rw [upd_ne na]; exact e, row0, [], [], [], upd_same, List.nil_sublist _, .nil, .nil, Nat.le_refl _⟩, ?_⟩
  rintro k mm Hi ⟨rfl, hle, old, rowi, vs, S, out, hv, hS, hF, da, hvl⟩
  have lvi := rowi.1.live
  obtain ⟨wgo, wst⟩ := wk Hi (fun _ _ e => nomatch e)
  have hlen' := hlen vals pv
  by_cases hlt : k < vals.length
  · have hd : vals[k]? = some vals[k] := List.getElem?_eq_getElem hlt
    have htake : vals.take (k + 1) = vals.take k ++ [vals[k]] := by rw [List.take_add_one, hd]; rfl
    refine .inr ⟨(wgo k _ hd).1, fun Hn => k + 1 ≤ vals.length ∧ (∀ a u, a ≠ r → a ≠ Dl → H1 a = some u → Hn a = some u) ∧ RowAt X.K (Dl :: G) Hn r L ∧ ∃ vs S out, Hn Dl = some (.lst vs) ∧ S.Sublist (vals.take (k + 1)) ∧ F2 Pe S out ∧ DpAll X.K (hid (Dl :: G) Hn) vs out ∧ vs.length ≤ k + 1,
      fun H' a => ⟨vals.length - (k + 1), by omega, rfl, a⟩, fun x H' y => ?_⟩
    obtain ⟨sy, rx⟩ := wk.item (G := Dl :: G) (fun _ _ e => nomatch e) lvi hd y
    have rowy := rowi.same sy
    have mD : r ∈ Dl :: G := List.mem_cons_of_mem _ m
    have sbI : SB r H1 Hi → True := fun _ => trivial
    have en2 : EnvOk X.K (Dl :: G) H' ((L2.wipe σ [j]).set j (some x)) ((ρ.set j none).set j (some vals[k])) := by
      have e0 : EnvOk X.K (Dl :: G) Hi σ ρ := en1.mono fun a u ea => by
        obtain ⟨n, ea⟩ := hid_some ea
        have nr : a ≠ r := fun z => n (z ▸ m)
        have nd : a ≠ Dl := fun z => by rw [z, hD] at ea; cases ea
        rw [hid_out (by simp [nd, n])]
        exact old a u nr nd ea
      exact EnvOk.set (EnvOk.setN (e0.same sy)) rx
    have sl2 : ((L2.wipe σ [j]).set j (some x))[i]? = some (some (V.ref r)) := by
      rw [List.getElem?_set_ne (Ne.symm hij)]
      show (σ.set j none)[i]? = _
      rw [List.getElem?_set_ne (Ne.symm hij)]; exact sl
    refine ⟨wipe_eq (js := [j]) (by rw [List.length_set]) (fun a m => m) (fun a m => by rw [List.getElem?_set_ne (fun z => m (by simp [z]))]), fun s H0 C cl fp => ?_⟩
    refine ht s H0 C cl fp vals[k] (Dl :: G) r _ H' mD en2 sl2 rowy _ fun b H3 sb3 row3 => ?_
    have keep : ∀ {Hn : Hp}, SB r H' Hn → (∀ a u, a ≠ r → a ≠ Dl → H1 a = some u → Hn a = some u) := fun {Hn} sb a u na nd e => sb a u na (sy a u (old a u na nd e))
    cases b with
    | false =>
      refine iteF ⟨hlt, keep sb3, row3, vs, S, out, sb3 Dl _ nDr (sy Dl _ hv), ?_, hF, dpAll_mono (Same.trans (hid_mono sy) (sb3.hid mD)) da, by omega⟩
      rw [htake]; exact hS.trans (List.sublist_append_left _ _)
    | true =>
      refine iteT fun s H0 C cl fp => he s H0 C cl fp vals[k] ⟨vals, pv, List.getElem_mem hlt⟩ (Dl :: G) r _ H3 mD (en2.mono (sb3.hid mD)) sl2 row3 _ fun v e H4 pe sb4 row4 rp => ?_
      have sb34 := sb3.trans sb4
      have hv4 : H4 Dl = some (.lst vs) := sb34 Dl _ nDr (sy Dl _ hv)
      have hid4 : hid (Dl :: G) (upd H4 Dl (.lst (vs ++ [v]))) = hid (Dl :: G) H4 := by
        funext a
        by_cases m : a ∈ Dl :: G
        · rw [hid_in m, hid_in m]
        · rw [hid_out m, hid_out m, upd_ne fun z => m (by simp [z])]
      obtain ⟨nt4, ws4, p4, q4, s4, x1, x2, x3⟩ := row4
      refine ⟨vs, hv4, Nat.lt_of_le_of_lt (show vs.length ≤ 100000 by omega) (by decide), hlt, fun a u na nd ea => by rw [upd_ne nd]; exact keep sb34 a u na nd ea, ⟨fun a ma => ?_, ws4, p4, q4, s4, by rw [upd_ne (Ne.symm nDr)]; exact x1, by rw [hid4]; exact x2, x3⟩, vs ++ [v], S ++ [vals[k]], out ++ [e], upd_same, ?_, hF.snoc pe, ?_, by rw [List.length_append]; simp; omega⟩
      · by_cases z : a = Dl
        · rw [z, upd_same]; exact ⟨_, rfl, fun _ z => nomatch z⟩
        · rw [upd_ne z]; exact nt4 a ma
      · rw [htake]; exact List.Sublist.append hS (List.Sublist.refl _)
      · rw [hid4]
        exact DpAll.append (dpAll_mono (Same.trans (hid_mono sy) (sb34.hid mD)) da) (DpAll.one (rp.dp (hnd _ _ pe)))
  · have ek : k = vals.length := by omega
    subst ek
    refine .inl ⟨wst, q (.ref Dl) (.list out) Hi (hres vals S out pv (by rw [List.take_length] at hS; exact hS) hF) (fun a u na ea => ?_) ?_ ?_⟩
    · have e1 := sb1 a u na ea
      exact old a u na (fun z => by rw [z, hD] at e1; cases e1) e1
    · obtain ⟨nti, wsi, p4, q4, s4, x1, x2, x3⟩ := rowi
      exact ⟨fun a ma => nti a (List.mem_cons_of_mem _ ma), wsi, p4, q4, s4, x1, dpAll_mono (hid_sub fun _ m => List.mem_cons_of_mem _ m) x2, x3⟩
    · exact .inl (.lst (.inl (.inl (by rw [hid_out nDG]; exact hv))) (dpAll_mono (hid_sub fun _ m => List.mem_cons_of_mem _ m) da))
/-- ''.join(drawn) -/
theorem xr_join {v : Str} {apos : Pos} (ha : XE X ρ a (.str v)) (hb : XR X i L ρ b Pb) (hp : ∀ d, Pb d → ∃ ys : List Str, d = .list (ys.map .str) ∧ (ys.map (·.length)).sum + ys.length * v.length ≤ 16777216 ∧ Pd (.str (Txt.join v ys)))
    (hbase : attributeBase a "join" X.env (eval a X.env) = eval a X.env := by rfl)
    (hfew : ((backTo pos (starEach (b :: []) X.env)).all (fun x => !x.1) && (backToKw pos (keywordEach [] X.env)).all (fun x => x.1.isSome) && decide ((b :: []).length + ([] : List Keyword).length + (if ([] : List Keyword).isEmpty then 0 else 1) < 30)) = true := by rfl)
    (hline : (apos.endLine == pos.line) = true := by rfl) (hs : starEach (b :: []) X.env = (false, eval b X.env) :: starEach [] X.env := by rfl) (hplain : (backTo pos (starEach [] X.env)).any (·.1) = false := by rfl) :
    XR X i L ρ (.Call (.Attribute a "join" apos) [b] [] pos) Pd := fun G r σ H m en sl row Q q =>
  cE_of (pe_bm PySem.F.plainAttrs_str PySem.F.slot_str_join PySem.F.type_str_join mt_join pE (pa_cons pE pa_nil hs) hbase hfew hline hs hplain) (ha G σ H en row.1.live _ fun t H1 s1 r1 => by
      rw [r1.s]
      exact ⟨rfl, hb G r σ H1 m (en.same s1) sl (row.same s1) _ fun u d H2 pd sb row2 r2 => by
        obtain ⟨ys, rfl, hz, pz⟩ := hp d pd
        obtain ⟨pa, vs, rfl, h1, h2⟩ := r2.l
        rw [dpAll_strs h2] at h1
        exact ⟨v, pa, ys, rfl, rfl, .inl (Same.seq hid_le h1), hz, q _ _ H2 pz ((SB.of s1).trans sb) row2 rp_s⟩⟩)
/-- tuple(drawn) -/
theorem xr_tuple (ml : X.mg "tuple" = none) (h : XR X i L ρ e Pa) (hp : ∀ d, Pa d → ∃ ds, d = .list ds ∧ Pd (.tuple ds)) (hg : Gl X "tuple" := by rfl) (he : starEach (e :: []) X.env = (false, eval e X.env) :: starEach [] X.env := by rfl) (hpl : (backTo pos (starEach [] X.env)).any (·.1) = false := by rfl) :
    XR X i L ρ (.Call (.Name "tuple" p) [e] [] pos) Pd := fun G r σ H m en sl row Q q => cE_of (pe_callTy call_tuple_of hg ml PyProof.Rows.boot_tuple (pa_cons pE pa_nil he) (by decide) (by decide) he hpl) (h G r σ H m en sl row _ fun v d H1 pd sb row1 rp => by
  obtain ⟨ds, rfl, pz⟩ := hp d pd
  obtain ⟨a, ws, rfl, h1, h2⟩ := rp.l
  exact ⟨a, ws, rfl, .inl ⟨Same.seq hid_le h1, fun l hl => q _ _ _ pz (sb.trans (SB.of (same_upd hl))) (row1.same (same_upd hl)) (.inl (.tup (.inl (.inl (by rw [hid_out (row1.1.live.out hl)]; exact upd_same))) (dpAll_mono (hid_mono (same_upd hl)) h2)))⟩⟩)
end
/-! ### statements -/
structure RSt (K : PySem.W.Frag) (G : List Addr) (H0 : Hp) (i : Nat) (r : Addr) (L : List Int) (ρ : Rho) (o : Own) (σ : L2.St) (H : Hp) : Prop where
  env : EnvOk K (o.ads ++ G) H σ ρ
  same : ∀ x u, x ≠ r → x ∉ o.ads → H0 x = some u → H x = some u
  own : o.ok K G H σ
  mem : r ∈ G
  sl : σ[i]? = some (some (.ref r))
  row : RowAt K (o.ads ++ G) H r L
def SR (X : Cx) (G : List Addr) (H0 : Hp) (i : Nat) (r : Addr) (L : List Int) (ρ : Rho) (o : Own) (sts : List Stmt) (Dn : Ends) : Prop := ∀ σ H, RSt X.K G H0 i r L ρ o σ H → cSs X sts Dn σ H
section
variable {K : PySem.W.Frag} {G : List Addr} {H0 H H' : Hp} {i : Nat} {r : Addr} {L : List Int} {ρ ρ' : Rho} {o : Own} {σ : L2.St} {v : V} {d : D}
theorem Own.ok.sb (h : o.ok K G H σ) (m : r ∈ G) (s : SB r H H') : o.ok K G H' σ := by
  cases o with
  | no => trivial
  | lst i a ds =>
    obtain ⟨h1, h2, vs, h3, h4⟩ := h
    exact ⟨h1, h2, vs, s a _ (fun z => h1 (z ▸ m)) h3, dpAll_mono (s.hid (List.mem_cons_of_mem _ m)) h4⟩
  | dI i a ks => exact ⟨h.1, h.2.1, s a _ (fun z => h.1 (z ▸ m)) h.2.2⟩
  | dT i a ks => exact ⟨h.1, h.2.1, s a _ (fun z => h.1 (z ▸ m)) h.2.2⟩
theorem RSt.m (h : RSt K G H0 i r L ρ o σ H) : r ∈ o.ads ++ G := List.mem_append_right _ h.mem
theorem RSt.nr (h : RSt K G H0 i r L ρ o σ H) : r ∉ o.ads := fun z => by
  have k := h.own
  have hm := h.mem
  cases o with
  | no => cases z
  | lst i a ds => rw [show r = a by simpa [Own.ads] using z] at hm; exact k.1 hm
  | dI i a ks => rw [show r = a by simpa [Own.ads] using z] at hm; exact k.1 hm
  | dT i a ks => rw [show r = a by simpa [Own.ads] using z] at hm; exact k.1 hm
theorem RSt.step (h : RSt K G H0 i r L ρ o σ H) (s : SB r H H') (row : RowAt K (o.ads ++ G) H' r L) : RSt K G H0 i r L ρ o σ H' :=
  ⟨h.env.mono (s.hid h.m), fun x u n1 n2 e => s x u n1 (h.same x u n1 n2 e), h.own.sb h.mem s, h.mem, h.sl, row⟩
theorem RSt.grow (h : RSt K G H0 i r L ρ o σ H) (s : Same H H') : RSt K G H0 i r L ρ o σ H' := h.step (SB.of s) (h.row.same s)
theorem RSt.set {j : Nat} (h : RSt K G H0 i r L ρ o σ H) (hr : Rp K (hid (o.ads ++ G) H) v d) (n : o.slot ≠ some j) (hij : i ≠ j) : RSt K G H0 i r L (ρ.set j (some d)) o (σ.set j (some v)) H :=
  ⟨h.env.set hr, h.same, h.own.slots fun k hk => by rw [List.getElem?_set_ne (fun z => n (by rw [hk, z]))], h.mem, by rw [List.getElem?_set_ne (Ne.symm hij)]; exact h.sl, h.row⟩
theorem RSt.weak (h : RSt K G H0 i r L ρ o σ H) (hl : ρ'.length = ρ.length) (q : ∀ (i : Nat) (d : D), ρ'[i]? = some (some d) → ρ[i]? = some (some d)) : RSt K G H0 i r L ρ' o σ H := ⟨h.env.weak hl q, h.same, h.own, h.mem, h.sl, h.row⟩
theorem RSt.forget {k : Nat} {x : Option D} (h : RSt K G H0 i r L (ρ.set k x) o σ H) (hk : ρ[k]? = some none := by rfl) : RSt K G H0 i r L ρ o σ H := h.weak (by rw [List.length_set]) fun i d q => by
  by_cases e : k = i
  · subst e; rw [hk] at q; cases q
  · rw [List.getElem?_set_ne e]; exact q
/-- what is wanted behind a def that draws -/
def RtR (K : PySem.W.Frag) (G : List Addr) (H0 : Hp) (r : Addr) (L : List Int) (Pd : D → Prop) (Dn : Ends) : Prop := ∀ v d H', Pd d → SB r H0 H' → RowAt K G H' r L → Rp K (hid G H') v d → Dn.rt v H'
end
section
variable {X : Cx} {G : List Addr} {H0 : Hp} {i : Nat} {r : Addr} {L : List Int} {ρ ρ' : Rho} {o : Own} {Dn : Ends} {e a b c tg iter ix : Expr} {sts ta tb body : List Stmt} {pos p pos2 : Pos} {d : D} {Pd Pa Pb : D → Prop}
theorem sr_set (j : Nat) {n : Str} (hN : X.N.Nodup) (he : XR X i L ρ e Pd) (h : ∀ d, Pd d → SR X G H0 i r L (ρ.set j (some d)) o sts Dn) (hij : i ≠ j := by decide) (hi : X.N[j]? = some n := by rfl) (hx : Loc X.env.scope n := by first | exact Or.inl rfl | exact Or.inr rfl) (ho : o.slot ≠ some j := by intro z; cases z) (hs : swapsWith e (some (.Name n p)) pos.line X.env = pure false := by rfl)
    (hf : X.fn n = true ∨ X.env.scope.names.lookup n = some .local := by first | exact .inl rfl | exact .inr rfl) : SR X G H0 i r L ρ o (.Assign [.Name n p] e pos :: sts) Dn := fun σ H s => cSs_cons (ps_set hN hi hx pE hs hf) (he _ r σ H s.m s.env s.sl s.row _ fun v d H' pd sb row rp => h d pd _ _ ((s.step sb row).set rp ho hij))
theorem sr_ret (he : XR X i L ρ e Pd) (h : RtR X.K G H0 r L Pd Dn) : SR X G H0 i r L ρ .no (.Return (some e) pos :: sts) Dn := fun σ H s => cSs_cons (ps_ret pE) (he _ r σ H s.m s.env s.sl s.row _ fun v d H' pd sb row rp => h v d H' pd (SB.trans (fun x u n e => s.same x u n (by simp [Own.ads]) e) sb) row rp)
theorem sr_nil (h : ∀ σ H, RSt X.K G H0 i r L ρ o σ H → Dn.nx σ H) : SR X G H0 i r L ρ o [] Dn := fun σ H s => cSs_of pss_nil (h σ H s)
theorem sr_k (h : SR X G H0 i r L ρ o sts Dn) : SR X G H0 i r L ρ o [] { Dn with nx := cSs X sts Dn } := sr_nil fun σ H s => h σ H s
theorem sr_if {k : Bool} (hc : XT X ρ c k) (h1 : k = true → SR X G H0 i r L ρ o ta { Dn with nx := cSs X sts Dn }) (h2 : k = false → SR X G H0 i r L ρ o tb { Dn with nx := cSs X sts Dn }) : SR X G H0 i r L ρ o (.If c ta tb pos :: sts) Dn := fun σ H s => cSs_cons (ps_if pT pSs pSs) (hc _ σ H s.env s.row.1.live _ fun H' s1 => by
  cases k with
  | true => exact iteT (h1 rfl _ _ (s.grow s1))
  | false => exact iteF (h2 rfl _ _ (s.grow s1)))
theorem sr_ifR (hc : XTR X i L ρ c) (h1 : SR X G H0 i r L ρ o ta { Dn with nx := cSs X sts Dn }) (h2 : SR X G H0 i r L ρ o tb { Dn with nx := cSs X sts Dn }) : SR X G H0 i r L ρ o (.If c ta tb pos :: sts) Dn := fun σ H s => cSs_cons (ps_if pT pSs pSs) (hc _ r σ H s.m s.env s.sl s.row _ fun k H' sb row => by
  cases k with
  | true => exact iteT (h1 _ _ (s.step sb row))
  | false => exact iteF (h2 _ _ (s.step sb row)))
/-- a for over drawn turns -/
theorem sr_for {Pv : List D → Prop} (j : Nat) {n : Str} (I : List D → Nat → Rho → Own → Prop) (hN : X.N.Nodup) (hi : XRng X i L ρ (.Name n p) iter Pv) (h0 : ∀ vals, Pv vals → I vals 0 ρ o) (hsl : ∀ vals k ρ' o', I vals k ρ' o' → o'.slot ≠ some j)
    (hb : ∀ vals k x ρ' o', Pv vals → vals[k]? = some x → I vals k ρ' o' → SR X G H0 i r L (ρ'.set j (some x)) o' body ⟨fun σ H => ∃ ρ2 o2, I vals (k + 1) ρ2 o2 ∧ RSt X.K G H0 i r L ρ2 o2 σ H, Dn.rt, cSs X sts Dn, fun σ H => ∃ ρ2 o2, I vals (k + 1) ρ2 o2 ∧ RSt X.K G H0 i r L ρ2 o2 σ H⟩)
    (hd : ∀ vals ρ' o', Pv vals → I vals vals.length ρ' o' → SR X G H0 i r L ρ' o' sts Dn) (hij : i ≠ j := by decide) (hp : PassesOwn (model X.prog X.w) X.A X.env X.xe := by exact PassesOwn.never) (hc : X.calm = true := by rfl)
    (hj : X.N[j]? = some n := by rfl) (hx : Loc X.env.scope n := by first | exact Or.inl rfl | exact Or.inr rfl) (hf : X.fn n = true ∨ X.env.scope.names.lookup n = some .local := by first | exact .inl rfl | exact .inr rfl) (hs : ∀ x, foldedSetIterable iter X.env x = pure x := by intro _; rfl) :
    SR X G H0 i r L ρ o (.For (.Name n p) iter body [] pos :: sts) Dn := fun σ H s => by
  refine cSs_cons (ps_for hp hc pI (pg_name hN hj hx hf) pSs hs) ?_
  refine hi _ r σ H s.m s.env s.sl s.row _ fun J vals H1 pv sb row wk => ?_
  refine ⟨fun k m σi Hi => m = vals.length - k ∧ k ≤ vals.length ∧ ∃ ρ2 o2, I vals k ρ2 o2 ∧ RSt X.K G H0 i r L ρ2 o2 σi Hi, ⟨vals.length, rfl, Nat.zero_le _, ρ, o, h0 vals pv, s.step sb row⟩, ?_⟩
  rintro k m σi Hi ⟨rfl, hle, ρ2, o2, hI, si⟩
  obtain ⟨wgo, wst⟩ := wk Hi (fun _ _ e => nomatch e)
  by_cases hlt : k < vals.length
  · have hd' : vals[k]? = some vals[k] := List.getElem?_eq_getElem hlt
    refine .inr ⟨(wgo k _ hd').1, fun σ' H' => ∃ ρ2 o2, I vals (k + 1) ρ2 o2 ∧ RSt X.K G H0 i r L ρ2 o2 σ' H', fun σ' H' h' => ⟨vals.length - (k + 1), by omega, rfl, hlt, h'⟩, fun x H' y => ?_⟩
    obtain ⟨sy, rx⟩ := wk.item (G := o2.ads ++ G) (fun _ _ e => nomatch e) si.row.1.live hd' y
    exact hb vals k vals[k] ρ2 o2 pv hd' hI _ _ ((si.grow sy).set rx (hsl _ _ _ _ hI) hij)
  · have e : k = vals.length := by omega
    subst e
    exact .inl ⟨wst, hd vals ρ2 o2 pv hI σi Hi si⟩
end
section
variable {P : Program} {w : World} {K : PySem.W.Frag} {mg : Str → Option Value} {base : Heap}
theorem rpAll_envR {G : List Addr} {H : Hp} {r : Addr} {N : List Str} {vs : List V} {ds : List D} (h : RpAll K (hid G H) vs ds) (hl : vs.length + 1 ≤ N.length) : EnvOk K G H (L2.start N (.ref r :: vs)) ((none :: ds.map some) ++ List.replicate (N.length - (ds.length + 1)) none) := by
  have hh := h.length
  -- by the whole environment with any datum at the row's slot
  refine ⟨by unfold L2.start; simp [hh], fun i d q => ?_⟩
  cases i with
  | zero => cases q
  | succ i =>
    have q' : (ds.map some ++ List.replicate (N.length - (ds.length + 1)) none)[i]? = some (some d) := by simpa using q
    have e := rpAll_env (N := N.tail) h (by rw [List.length_tail]; omega)
    have e2 : N.tail.length - ds.length = N.length - (ds.length + 1) := by rw [List.length_tail]; omega
    rw [e2] at e
    obtain ⟨v, h1, h2⟩ := e.at_ i d q'
    refine ⟨v, ?_, h2⟩
    unfold L2.start at h1 ⊢
    rw [List.length_tail] at h1
    have e3 : N.length - (V.ref r :: vs).length = N.length - 1 - vs.length := by rw [List.length_cons]; omega
    rw [e3]
    simpa using h1
theorem fn_r {x qual : Str} {st : Stmt} {f : Addr} {fd : FuncData} {N ps : List Str} {k : Nat} {R : List D → (D → Prop) → Prop} (F : Fun K x qual st f fd) (S : FnScope N ps (defScope st)) (hlen : ∀ ds Pd, R ds Pd → ds.length + 1 = ps.length) (hN : ps.length ≤ N.length)
    (body : ∀ (cdv : Value) (A : Around) (outer : List Env) (s : Shared) (H : Hp) (E : XK), Room k (A.deeper (envOfC qual (defScope st) s.heap.objs.size f cdv)) → ∀ (ds : List D) (Pd : D → Prop), R ds Pd → ∀ (G : List Addr) (H0 : Hp) (r : Addr) (L : List Int) (Dn : Ends), RtR K G H0 r L Pd Dn →
      SR (cxOf CX0 P w K mg base N qual (defScope st) f cdv A outer s H E).nox G H0 0 r L ((none :: ds.map some) ++ List.replicate (N.length - (ds.length + 1)) none) .no (defBody st) Dn) :
    FnOk P w K mg base CX0 (k + 1) f fd ps (spRow K R) := by
  refine F.ok S (fun vs H Q E h => ?_) fun cdv A outer s H vs Q E hr h => ?_
  · obtain ⟨r, us, ds, G, L, Pd, rfl, hR, _, _, hu, _⟩ := h
    rw [List.length_cons, hu.length]; exact hlen ds Pd hR
  · obtain ⟨r, us, ds, G, L, Pd, rfl, hR, m, row, hu, q⟩ := h
    refine ⟨_, pSs, body cdv A outer s H E hr ds Pd hR G H r L { nx := fun _ H' => Q .non H', rt := Q } q _ _ ⟨?_, fun _ _ _ _ z => z, trivial, m, ?_, row⟩⟩
    · exact rpAll_envR hu (by rw [hu.length, hlen ds Pd hR]; exact hN)
    · unfold L2.start; simp
end
abbrev sLPick : Stmt := topS 46
abbrev sLDKind : Stmt := topS 53
abbrev sLDKinds : Stmt := topS 54
theorem scLPick : FnScope ["_law_row", "_law_things"] ["_law_row", "_law_things"] (defScope sLPick) := ⟨rfl, rfl, rfl, by decide +kernel, rfl, by decide +kernel, by decide +kernel⟩
theorem scLDKind : FnScope ["_law_row", "_law_company_here", "_law_letters", "_law_sign_here"] ["_law_row", "_law_company_here"] (defScope sLDKind) := ⟨rfl, rfl, rfl, by decide +kernel, rfl, by decide +kernel, by decide +kernel⟩
theorem scLDKinds : FnScope ["_law_row", "_law_company_here", "_law_most", "_law_turn"] ["_law_row", "_law_company_here", "_law_most"] (defScope sLDKinds) := ⟨rfl, rfl, rfl, by decide +kernel, rfl, by decide +kernel, by decide +kernel⟩
end DL
set_option Elab.async false
set_option linter.all false
set_option maxRecDepth 100000
set_option maxHeartbeats 4000000
namespace DL
open PySem PySem.Spec PyProof.Rows L2
def subsL {α : Type} : List α → List (List α)
  | [] => [[]]
  | a :: l => (subsL l).map (a :: ·) ++ subsL l
theorem subsL_mem {α : Type} : ∀ {S l : List α}, S.Sublist l → S ∈ subsL l := fun h => by
  induction h with
  | slnil => simp [subsL]
  | cons a _ ih => exact List.mem_append_right _ ih
  | cons_cons a _ ih => exact List.mem_append_left _ (List.mem_map.mpr ⟨_, ih, rfl⟩)
theorem drawn_fits : ∀ n : Nat, n < 5 → ((subsL (cutS ("abcdefgh" : Str) none (some (n : Int))).cps.toList).all fun S => decide (S.length ≤ 8) && (List.range (2 ^ n)).any fun m => decide (Txt.join ("" : Str) (S.map fun c => (⟨#[c]⟩ : Str)) = lt m)) = true := by decide +kernel
theorem cut_len : ∀ n : Nat, n < 5 → (cutS ("abcdefgh" : Str) none (some (n : Int))).cps.toList.length ≤ 100000 := by decide +kernel
theorem f2_eq : ∀ {S out : List D}, F2 (fun d e => e = d ∧ isDict d = false) S out → out = S
  | _, _, .nil => rfl
  | _, _, .cons h t => by rw [h.1, f2_eq t]
theorem f2_kinds {c : Co} : ∀ {S out : List D}, F2 (fun _ e => ∃ k, KindOk c k ∧ e = encK k) S out → ∃ ks : List (Nat × Nat), (∀ k, k ∈ ks → KindOk c k) ∧ ks.length = S.length ∧ out = ks.map encK
  | _, _, .nil => ⟨[], by simp, rfl, rfl⟩
  | _, _, .cons ⟨k, hk, e⟩ t => by
    obtain ⟨ks, h1, h2, h3⟩ := f2_kinds t
    exact ⟨k :: ks, fun x hx => (List.mem_cons.mp hx).elim (fun e => e ▸ hk) (h1 x), by rw [List.length_cons, List.length_cons, h2], by rw [e, h3]; rfl⟩
section
variable {P : Program} {w : World} {K : PySem.W.Frag} {mg : Str → Option Value} {base : Heap} {f : Addr} {fd : FuncData} {k : Nat}
def Tk (n : Nat) (d : D) : Prop := ∃ t : Nat, t < n ∧ d = .int (t : Int)
theorem rtk {n : Nat} (h1 : 1 ≤ n) (h2 : n ≤ 1000) : Rtaken [.int (n : Int)] (Tk n) := ⟨n, h1, h2, rfl, fun t ht => ⟨t, ht, rfl⟩⟩
def Rpick (ds : List D) (Pd : D → Prop) : Prop := ∃ ds' : List D, ds' ≠ [] ∧ ds'.length ≤ 1000 ∧ ds = [.list ds'] ∧ ∀ d, d ∈ ds' → Pd d
theorem ok_lPick (F : Fun K "_law_pick" "_law_pick" sLPick f fd) (M : Nm mg) (C : CalleeR P w K mg base 1 "_law_taken" Rtaken) : FnOk P w K mg base CX0 2 f fd ["_law_row", "_law_things"] (spRow K Rpick) :=
  fn_r F scLPick (by rintro _ _ ⟨ds, _, _, rfl, _⟩; rfl) (by decide) fun cdv A outer s H E hr ds Pd hR G H0 r L Dn rt => by
    obtain ⟨ts, hne, hl, rfl, hP⟩ := hR
    have hpos := List.length_pos_iff.mpr hne
    refine sr_ret (Pd := Pd) (xr_ix (Pb := Tk ts.length) ix_list (xe_var 1) (xr_call C hr rfl (xa1 (xe_lenL M.len (xe_var 1))) (rtk hpos hl)) ?_) rt
    rintro d ⟨t, ht, rfl⟩
    refine ⟨ts[t], fun F H li u v r1 r2 Q k => ?_, hP _ (List.getElem_mem ht)⟩
    obtain ⟨p, vs, w, rfl, h1, h2, h3⟩ := r1.lAt (i := (t : Int)) (atI_nat (List.getElem?_eq_getElem ht))
    exact ⟨p, vs, _, w, rfl, r2.i, h1, h2, k w H (Same.refl H) (.inl h3)⟩
def RdKind (ds : List D) (Pd : D → Prop) : Prop := ∃ c : Co, c ∈ comps ∧ ds = [encC c] ∧ ∀ k, KindOk c k → Pd (encK k)
theorem ok_lDKind (F : Fun K "_law_drawn_kind" "_law_drawn_kind" sLDKind f fd) (M : Nm mg) (C : CalleeR P w K mg base 1 "_law_taken" Rtaken) : FnOk P w K mg base CX0 2 f fd ["_law_row", "_law_company_here"] (spRow K RdKind) :=
  fn_r F scLDKind (by rintro _ _ ⟨c, _, rfl, _⟩; rfl) (by decide) fun cdv A outer s H E hr ds Pd hR G H0 r L Dn rt => by
    obtain ⟨c, hc, rfl, hP⟩ := hR
    have g := good_of hc
    have n4 := g.n4
    have fits := List.all_eq_true.mp (drawn_fits c.n (by omega))
    refine sr_set (Pd := fun d => ∃ m, m < 2 ^ c.n ∧ d = .str (lt m)) 2 scLDKind.nd (xr_join (Pb := fun d => ∃ S : List Nat, S ∈ subsL ((cutS ("abcdefgh" : Str) none (some (c.n : Int))).cps.toList) ∧ d = .list ((S.map fun ch => (⟨#[ch]⟩ : Str)).map .str)) xe_str
      (xr_lc (Pv := fun vals => vals = (signs (cutS ("abcdefgh" : Str) none (some (c.n : Int)))).map .str) (Pe := fun d e => e = d ∧ isDict d = false) 3 scLDKind.nd (by decide) (xsrc_str (xe_sliceS xe_str (xe_ixT (d := .int (c.n : Int)) (xe_var 1) xe_int rfl) (by decide)) rfl) (blkOk_by (N := ["_law_row", "_law_company_here", "_law_letters", "_law_sign_here"]) (sc := defScope sLDKind) (by decide +kernel))
        (fun _ _ _ _ _ d => tr_one (xtr_eq (Pa := Tk 2) (j := 0) (xr_call C hr rfl (xa1 (xe_int (i := 2))) (rtk (by decide) (by decide))) xe_int (by rintro _ ⟨t, _, rfl⟩; exact ⟨_, rfl⟩)))
        (fun _ _ _ _ _ d hd => xr_of (xe_var 3) ⟨rfl, ?_⟩) ?_ ?_ ?_) ?_) (fun d hd => ?_)
    · obtain ⟨_, rfl, hd⟩ := hd
      obtain ⟨x, _, rfl⟩ := List.mem_map.mp hd
      rfl
    · rintro d e ⟨rfl, h⟩; exact h
    · rintro vals rfl
      unfold signs
      rw [List.length_map, List.length_map]
      exact cut_len c.n (by omega)
    · rintro vals S out rfl hS hF
      rw [f2_eq hF]
      unfold signs at hS
      rw [List.map_map] at hS
      obtain ⟨S', h1, rfl⟩ := List.sublist_map_iff.mp hS
      exact ⟨S', subsL_mem h1, by rw [List.map_map]⟩
    · rintro d ⟨S, hS, rfl⟩
      have h := fits S hS
      rw [Bool.and_eq_true] at h
      obtain ⟨m, hm, e⟩ := List.any_eq_true.mp h.2
      refine ⟨_, rfl, ?_, m, List.mem_range.mp hm, by rw [of_decide_eq_true e]⟩
      have e2 : ∀ l : List Nat, ((l.map fun ch => (⟨#[ch]⟩ : Str)).map (·.length)).sum = l.length := fun l => by
        induction l with
        | nil => rfl
        | cons a l ih => rw [List.map_cons, List.map_cons, List.sum_cons, ih]; show 1 + l.length = _; rw [List.length_cons]; omega
      rw [e2]
      have := of_decide_eq_true h.1
      show _ + _ * 0 ≤ _
      omega
    · obtain ⟨m, hm, rfl⟩ := hd
      refine sr_ret (Pd := Pd) (xr_tup2 (Pb := Tk 2) (xe_var 2) (xr_call C hr rfl (xa1 (xe_int (i := 2))) (rtk (by decide) (by decide))) rfl ?_) rt
      rintro d ⟨t, ht, rfl⟩
      exact ⟨rfl, hP (m, t) ⟨hm, ht⟩⟩
def RdKinds (ds : List D) (Pd : D → Prop) : Prop := ∃ (c : Co) (n : Nat), c ∈ comps ∧ n ≤ 3 ∧ ds = [encC c, .int (n : Int)] ∧ ∀ ks : List (Nat × Nat), (∀ k, k ∈ ks → KindOk c k) → ks.length ≤ n → Pd (.tuple (ks.map encK))
theorem ok_lDKinds (F : Fun K "_law_drawn_kinds" "_law_drawn_kinds" sLDKinds f fd) (M : Nm mg) (C : CalleeR P w K mg base 1 "_law_taken" Rtaken) (C2 : CalleeR P w K mg base 2 "_law_drawn_kind" RdKind) : FnOk P w K mg base CX0 3 f fd ["_law_row", "_law_company_here", "_law_most"] (spRow K RdKinds) :=
  fn_r F scLDKinds (by rintro _ _ ⟨c, n, _, _, rfl, _⟩; rfl) (by decide) fun cdv A outer s H E hr ds Pd hR G H0 r L Dn rt => by
    obtain ⟨c, n, hc, hn, rfl, hP⟩ := hR
    have hr1 := hr.mono (show 1 ≤ 2 by decide)
    refine sr_ret (Pd := Pd) (xr_tuple (Pa := fun d => ∃ ks : List (Nat × Nat), (∀ k, k ∈ ks → KindOk c k) ∧ ks.length ≤ n ∧ d = .list (ks.map encK)) M.tuple (xr_lc (Pv := fun vals => vals.length ≤ n) (Pe := fun _ e => ∃ k, KindOk c k ∧ e = encK k) 3 scLDKinds.nd (by decide)
      (xrng_1 (Pa := Tk (n + 1)) M.range (xr_call C hr1 rfl (xa1 (xe_addN (j := 1) (xe_var 2) xe_int)) (rtk (by omega) (by omega))) ?_) (blkOk_by (N := ["_law_row", "_law_company_here", "_law_most", "_law_turn"]) (sc := defScope sLDKinds) (by decide +kernel))
      (fun _ _ _ _ _ d => tr_nil) (fun _ _ _ _ _ d _ => xr_call C2 hr rfl (xa1 (xe_var 1)) ⟨c, hc, rfl, fun k hk => ⟨k, hk, rfl⟩⟩) ?_ ?_ ?_) ?_) rt
    · rintro d ⟨t, ht, rfl⟩
      exact ⟨t, rfl, by omega, by rw [List.length_map, rng_len]; omega⟩
    · rintro d e ⟨k, _, rfl⟩; rfl
    · intro vals h; omega
    · intro vals S out hv hS hF
      obtain ⟨ks, h1, h2, rfl⟩ := f2_kinds hF
      exact ⟨ks, h1, by rw [h2]; exact Nat.le_trans hS.length_le hv, rfl⟩
    · rintro d ⟨ks, h1, h2, rfl⟩
      exact ⟨_, rfl, hP ks h1 h2⟩
end
end DL
set_option Elab.async false
set_option linter.all false
set_option maxRecDepth 100000
set_option maxHeartbeats 4000000
/-! What the drawn company needs of dicts with tuple keys. -/
namespace DL
open PySem PySem.Spec PyProof.Rows L2
def tupI (ns : List Int) : D := .tuple (ns.map .int)
/-! ### {(..): True} -/
def tDispT (tk tv : TE) : TE := fun σ H Q => ∀ p, H p = none → tk σ (upd H p (.dT [])) fun x H1 => tv σ H1 fun y H2 => ∃ (b : Addr) (ks : List Key), x = .ref b ∧ H2 b = some (.tup (ks.map kV)) ∧ H2 p = some (.dT []) ∧ Q (.ref p) (upd H2 p (.dT [(ks, y)]))
theorem pe_dispT {X : Cx} {pos : Pos} {k v : Expr} {tk tv : TE} (hu : X.A.units + 1 < cLine) (hk : PE X k tk) (hv : PE X v tv) : PE X (.Dict [some k] [v] pos) (tDispT tk tv) := by
  refine ⟨fun pins s σ H Q I q => ?_⟩
  have hn := I.hok.fresh (Nat.le_refl s.heap.objs.size)
  have I1 := I.laid (a := s.heap.objs.size) (o := .dT []) (h' := s.heap.push { cls := .type "dict", data := .dict #[] }) (t' := s.toks) (fun _ _ q => Heap.get?_push_of_some _ q) (Nat.le_refl _) (dt_empty s.heap I.big)
  show wpAny _ X.A (eval (.Dict [some k] [v] pos) X.env) _ _ s
  rw [arm_eval_Dict, zip_pairTrees [some k] [v] X.env pos rfl rfl, dictDisplay_pairs (pairTrees [some k] [v] X.env pos) (by intro z; cases z) (by show 1 < 17; decide)]
  refine wpAny_bind (wpAny_standAt (wpAny_bind (wpAny_subDictH (knd := tupleKind (mixKind X.prog X.w)) (Q := fun d s' => wpAny (model X.prog X.w) X.A (pure (Value.ref d)) _ X.xe s') ?_ (by show 1 ≤ 15; decide) (pairTrees_cons_walk (thn (hk.run pins _ σ _ _ I1 (q _ hn)) fun u s1 hh1 => ?_)))))
  · show X.A.units < cLine
    omega
  · obtain ⟨x, H1, I1', r1, q1⟩ := hh1
    refine thn (hv.run pins s1 σ H1 _ I1' q1) fun u2 s2 hh2 => ?_
    obtain ⟨y, H2, I2, r2, b, ks, rfl, hb, hp, q2⟩ := hh2
    refine pairTrees_nil_walk ?_
    cases r1
    obtain ⟨z, hd, xs, rel, dd⟩ := dt_of I2.hok hp
    cases rel
    refine ⟨[(ks, b, u2)], ⟨rfl, rfl, key_of I2.hok hb, trivial⟩, dd, fun h' tk' dd' hs => wpAny_pure ⟨.ref s.heap.objs.size, _, ?_, rfl, q2⟩⟩
    obtain ⟨o, es, ep, h1, h2, h3, h4, _, h5⟩ := dd'
    refine d_write I2 (by rw [hp]; exact True.intro) hs ⟨o, h1⟩ ⟨by show 1 ≤ sizeLine; decide, hd, [(ks, b, u2)], .cons ⟨rfl, ?_, r2⟩ .nil, o, es, ep, h1, h2, h3, h4, h5⟩
    rw [upd_ne (ne_of hb hp (fun z => nomatch z))]
    exact hb
/-! ### sorted(d) -/
section
variable {X : Cx}
def KeyE (H : Hp) (v : Value) (d : D) : Prop := ∃ (b : Addr) (ns : List Int), v = .ref b ∧ d = tupI ns ∧ H b = some (.tup (ns.map V.int))
theorem key_each {H : Hp} : ∀ {kss : List (List Int)} {ks : List (List Key × Addr × Value)}, KT H (kvT kss) ks → PySem.W.EachIs (KeyE H) (ks.map fun x => Value.ref x.2.1) (kss.map tupI)
  | [], _, r => by cases r; exact .nil
  | k :: kss, _, r => by
    cases r with
    | cons h t =>
      refine .cons ⟨_, k, rfl, rfl, ?_⟩ (key_each t)
      have := h.2.1
      rw [kV_inl] at this
      exact this
theorem of_keys {K : PySem.W.Frag} {H S : Hp} (hT : ∀ b zs, H b = some (.tup zs) → S b = some (.tup zs)) : ∀ {us : List Value} {ds : List D}, PySem.W.EachIs (KeyE H) us ds → ∃ ws, Vals ws us ∧ DpAll K S ws ds
  | _, _, .nil => ⟨[], .nil, .nil⟩
  | _, _, .cons ⟨b, ns, e1, e2, h⟩ t => by
    obtain ⟨ws, g1, g2⟩ := of_keys hT t
    subst e1 e2
    exact ⟨.ref b :: ws, .cons rfl g1, .cons (.tup (.inl (.inl (hT b _ h))) (dp_ints ns)) g2⟩
theorem call_sortedDT (hcalm : X.calm = true) (hu : X.A.units + 64 < cLine) : CallR X (.builtin "sorted") (fun xs H Q => ∃ (a : Addr) (kss : List (List Int)) (es : List D) (S : Hp), xs = [.ref a] ∧ H a = some (.dT (kvT kss)) ∧ (∀ b zs, H b = some (.tup zs) → S b = some (.tup zs)) ∧ Srt (kss.map tupI) es ∧ kss.length ≤ 1000 ∧
    ∀ (p : Addr) (ws : List V), DpAll X.K S ws es → H p = none → Q (.ref p) (upd H p (.lst ws))) := by
  intro pins s σ H xs us Q I r q
  obtain ⟨a, kss, es, S, rfl, hd, hT, sr, hl, q⟩ := q
  obtain ⟨u, rfl, rx⟩ := r.one
  cases rx
  obtain ⟨z, hs, ks, pr, o, es', ep, ho, hx, hdt, he, hn⟩ := (show ObjOk X.prog X.w H s.heap a (.dT (kvT kss)) from I.hok a _ hd)
  have l1 : es'.size = ks.length := size_of_entries he
  have l2 : (kvT kss).length = ks.length := Paired.length pr
  rw [kvT_len] at l2
  have hE := key_each pr
  have nl : es'.size ≤ sizeLine := by rw [l1, ← l2, sizeLine_eq]; omega
  refine Calls.call_function_entry PyProof.Rows.kind_sorted PyProof.Rows.plain_sorted PyProof.Rows.entry_sorted (PyProof.Rows.args_sorted1 _) ?_
  unfold Builtin.«sorted»
  refine wpAny_bind (m := checkCount "sorted" 1 1 _) (wpAny_pure ?_)
  refine wpAny_bind (PySem.W.kdu_collect (A := X.A.in1) (kdl_raw hs hx hdt) (I.ok.hd hcalm) ho nl fun h' tk acc hk hacc => ?_)
  have ea : acc.toList = ks.map fun x => Value.ref x.2.1 := by
    have hl : acc.toList.length = ks.length := by rw [Array.length_toList, hacc.1]; exact l1
    apply List.ext_getElem?
    intro j
    rw [List.getElem?_map]
    cases hj : acc.toList[j]? with
    | none =>
      have h1 := List.getElem?_eq_none_iff.mp hj
      rw [List.getElem?_eq_none (by omega)]
      all_goals rfl
    | some v =>
      obtain ⟨en, hen, hv⟩ := hacc.2 j v (by rw [← Array.getElem?_toList]; exact hj)
      have qe := entry_at he j
      rw [hen] at qe
      cases hb : ks[j]? with
      | none =>
        rw [hb] at qe
        exact nomatch (show some en = none from qe)
      | some b =>
        rw [hb] at qe
        have e2 : en = entryOfKey (tupleKind (mixKind X.prog X.w)) b := Option.some.inj qe
        rw [hv, e2]
        all_goals rfl
  rw [← ea] at hE
  have hal : acc.toList.length ≤ 1000 := by rw [ea, List.length_map, ← l2]; exact hl
  have I1 : Inv X pins σ H { s with heap := h', toks := tk } := I.kept hk
  refine wpAny_bind (wpAny_newList ?_ (by rw [sizeLine_eq]; omega))
  have hoL : (h'.push (seqObj "list" acc.toList.toArray 0)).get? h'.objs.size = some (seqObj "list" acc.toList.toArray 0) := Heap.get?_push_size _ rfl
  show wpAny _ _ _ _ _ { s with heap := h'.push (seqObj "list" acc.toList.toArray 0), toks := tk }
  have er : PySem.W.EachIs (fun v b => ∃ as, Reads (h'.push (seqObj "list" acc.toList.toArray 0)) v (_root_.id b) as ∧ h'.objs.size ∉ as) acc.toList (kss.map tupI) := hE.mono fun v d hvd => by
    obtain ⟨b, ns, rfl, rfl, hb⟩ := hvd
    obtain ⟨its, rv, pl, _⟩ := I1.tuple (a := b) (xs := ns.map V.int) (.inl (.inl hb))
    exact ⟨[], PyProof.Rows.Reads.keeps (fun _ _ => Heap.get?_push_of_some _) (reads_tuple_ints pl (Vals.ints rv)), by simp⟩
  refine wpAny_bind (wpAny_holding (PySem.W.list_sort_data (R := KeyE H) (enc := _root_.id) (bs := kss.map tupI) (s := { s with heap := h'.push (seqObj "list" acc.toList.toArray 0), toks := tk }) hoL hE er (by rw [List.map_id]; exact sr.al) (by rw [List.map_id]; exact sr.so) (by rw [List.length_map, sizeLine_eq]; omega) (fun b hb => by
    have := sr.dep b hb
    show X.A.units + 1 + 1 + b.depth < cLine
    omega) fun out hlo eo => ?_))
  rw [sorted_is sr.perm sr.inc] at eo
  obtain ⟨ws, g1, g2⟩ := of_keys (K := X.K) hT eo
  obtain ⟨e', he'⟩ := PyProof.Rows.sortedHeap_at (vs := acc.toList) (out := List.toArray out) hoL
  have hlen : ws.length ≤ sizeLine := by
    rw [DpAll.length g2, sr.perm.length_eq, List.length_map, sizeLine_eq]
    omega
  refine wpAny_pure ⟨_, rfl, .ref h'.objs.size, upd H h'.objs.size (.lst ws), I1.laid (t' := tk) (fun b u e => ?_) (Nat.le_refl _) (show ObjOk X.prog X.w _ _ _ (.lst ws) from ⟨hlen, out, e', g1, he'⟩), rfl, q _ _ g2 (I1.hok.fresh (Nat.le_refl _))⟩
  have hb : b < h'.objs.size := Heap.lt_size e
  rw [PyProof.Rows.sortedHeap_old (Nat.ne_of_lt hb) (by rw [size_push']; exact Nat.lt_succ_of_lt hb)]
  exact Heap.get?_push_of_some _ e
end
end DL
set_option Elab.async false
set_option linter.all false
set_option maxRecDepth 100000
set_option maxHeartbeats 4000000
/-! The drawn company. -/
namespace DL
open PySem PySem.Spec PyProof.Rows L2
/-- a fresh tuple of ints that may be drawn -/
def XNR (X : Cx) (i : Nat) (L : List Int) (ρ : Rho) (e : Expr) (Pn : List Int → Prop) : Prop := ∀ (G : List Addr) (r : Addr) (σ : L2.St) (H : Hp), r ∈ G → EnvOk X.K G H σ ρ → σ[i]? = some (some (.ref r)) → RowAt X.K G H r L →
  ∀ Q : VK, (∀ p ns H', Pn ns → H p = none → SB r H H' → RowAt X.K G H' r L → H' p = some (.tup (ns.map V.int)) → Q (.ref p) H') → cE X e σ H Q
section
variable {X : Cx} {i : Nat} {L : List Int} {ρ : Rho} {e a b c tg iter ix : Expr} {es : List Expr} {pos p pr : Pos} {x y : D} {ds : List D} {Pd Pa Pb : D → Prop} {Pn : List Int → Prop}
theorem xnr_of {ns : List Int} (h : XNT X ρ e ns) (hp : Pn ns) : XNR X i L ρ e Pn := fun G r σ H m en sl row Q q => h G σ H en row.1.live _ fun p H' hn s e' => q p ns H' hp hn (SB.of s) (row.same s) e'
theorem xnr_pair {j : Int} {k : Nat} (ha : XR X i L ρ a Pa) (hb : XE X ρ b (.int j)) (hp : ∀ d, Pa d → ∃ x : Int, d = .int x ∧ Pn [x, j]) (hs1 : starEach (a :: [b]) X.env = (false, eval a X.env) :: starEach [b] X.env := by rfl) (hs2 : starEach (b :: []) X.env = (false, eval b X.env) :: starEach [] X.env := by rfl) : XNR X i L ρ (.Tuple [a, b] k pos) Pn := fun G r σ H m en sl row Q q =>
  cE_of (pe_tup (pa_cons pE (pa_cons pE pa_nil hs2) hs1)) (ha G r σ H m en sl row _ fun u d H1 pd sb row1 rp => hb G σ H1 (en.mono (sb.hid m)) row1.1.live _ fun v H2 s2 r2 => by
    obtain ⟨x, rfl, pn⟩ := hp d pd
    rw [rp.i, r2.i]
    refine ⟨by simp; decide, fun t ht => q t [x, j] _ pn ?_ (sb.trans (SB.of (s2.trans (same_upd ht)))) (row1.same (s2.trans (same_upd ht))) upd_same⟩
    cases h : H t with
    | none => rfl
    | some o =>
      by_cases z : t = r
      · obtain ⟨_, _, _, _, _, w1, _⟩ := row1
        rw [z] at ht
        rw [s2 r _ w1] at ht; cases ht
      · rw [s2 t o (sb t o z h)] at ht; cases ht)
theorem wrng_3 {n m c0 : Int} {k : Nat} (mr : X.mg "range" = none) (h : XA X ρ [a, b, c] [.int n, .int m, .int c0]) (hk : RgC n m c0 k) (hg : Gl X "range" := by rfl)
    (hs : starEach [a, b, c] X.env = (false, eval a X.env) :: starEach [b, c] X.env := by rfl) (hpl : (backTo pos (starEach [b, c] X.env)).any (·.1) = false := by rfl) :
    ∀ (F : List Addr) (σ : L2.St) (H : Hp), EnvOk X.K F H σ ρ → Live F H → ∀ R : It → Hp → Prop, (∀ J H1, Same H H1 → Wk X.K J (fun _ => none) (((List.range k).map fun t : Nat => n + (t : Int) * c0).map .int) → R J H1) → cI X tg (.Call (.Name "range" p) [a, b, c] [] pos) σ H R := fun F σ H en li R gg => cI_of (pi_range3 hg mr pA hs hpl) (h F σ H en li _ fun vs H1 s1 r0 => by
  cases r0 with
  | cons r1 r0 => cases r0 with
    | cons r2 r0 => cases r0 with
      | cons r3 r0 =>
        cases r0
        rw [r1.i, r2.i, r3.i]
        refine ⟨n, m, c0, k, rfl, hk, gg _ H1 s1 fun H2 s2 => ⟨fun t d hd => ?_, ?_⟩⟩
        · rw [List.getElem?_map, List.getElem?_map] at hd
          by_cases ht : t < k
          · rw [List.getElem?_range ht] at hd
            cases hd
            refine ⟨ht, fun x H' y => ?_⟩
            obtain ⟨rfl, rfl⟩ := y
            exact ⟨Same.refl _, _, s2, fun a o q => .inl q, rp_i⟩
          · rw [List.getElem?_eq_none (by rw [List.length_range]; omega)] at hd; cases hd
        · rw [List.length_map, List.length_map, List.length_range]
          exact Nat.le_refl k)
end
section
variable {X : Cx} {G : List Addr} {H0 : Hp} {i : Nat} {r : Addr} {L : List Int} {ρ ρ' : Rho} {o : Own} {Dn : Ends} {e a b c tg iter ix : Expr} {sts ta tb body : List Stmt} {pos p pos2 p2 p3 p4 p5 p6 : Pos} {d : D} {Pd Pa Pb : D → Prop} {Pn : List Int → Prop} {kss : List (List Int)} {l : Addr}
/-- x, y = drawn, {} -/
theorem sr_parNT (j k : Nat) {n m : Str} {px py pt pt2 : Pos} {kt k2 : Nat} (hN : X.N.Nodup) (ha : XR X i L ρ a Pa) (h : ∀ d, Pa d → ∀ l, H0 l = none → SR X G H0 i r L ((ρ.set j (some d)).set k none) (.dT k l []) sts Dn) (hc : X.calm = true := by rfl) (hi : X.N[j]? = some n := by rfl) (hj : X.N[k]? = some m := by rfl) (hjk : j ≠ k := by decide)
    (hx : X.env.scope.names.lookup n = some .local := by rfl) (hy : X.env.scope.names.lookup m = some .local := by rfl) (hij : i ≠ j := by decide) (hik : i ≠ k := by decide) (hkl : k < ρ.length := by simp)
    (hw : swappedStores [.Tuple [.Name n px, .Name m py] kt pt] (.Tuple [a, .Dict [] [] p2] k2 pt2) X.env = pure (some [n, m]) := by rfl) (hs : swapsWithSole [.Tuple [.Name n px, .Name m py] kt pt] (.Tuple [a, .Dict [] [] p2] k2 pt2) pos.line X.env = pure false := by rfl)
    (hs1 : starEach (a :: [.Dict [] [] p2]) X.env = (false, eval a X.env) :: starEach [.Dict [] [] p2] X.env := by rfl) (hs2 : starEach (Expr.Dict [] [] p2 :: []) X.env = (false, eval (.Dict [] [] p2) X.env) :: starEach [] X.env := by rfl) :
    SR X G H0 i r L ρ .no (.Assign [.Tuple [.Name n px, .Name m py] kt pt] (.Tuple [a, .Dict [] [] p2] k2 pt2) pos :: sts) Dn := fun σ H s => cSs_cons (ps_par hc hN hi hj hjk hx hy (pa_cons pE (pa_cons pe_dnewT pa_nil hs2) hs1) hw hs) (ha _ r σ H s.m s.env s.sl s.row _ fun v d H1 pd sb row rp t ht => by
  have st := s.step sb row
  have ht0 : H0 t = none := by
    cases q : H0 t with
    | none => rfl
    | some u =>
      by_cases z : t = r
      · obtain ⟨_, _, _, _, _, w1, _⟩ := row
        rw [z, w1] at ht; cases ht
      · rw [st.same t u z (by simp [Own.ads]) q] at ht; cases ht
  have sD := same_upd (o := HO.dT []) ht
  have ntG : t ∉ G := row.1.live.out ht
  obtain ⟨nt1, ws1, p1, q1, s1, w1, w2, w3⟩ := id row
  have hn := hid_new (F := G) ht sD
  refine ⟨v, .ref t, rfl, h d pd t ht0 _ _ ⟨EnvOk.setN (EnvOk.set (EnvOk.mono st.env hn) (rp_mono hn rp)), fun x u n1 n2 q => sD x u (st.same x u n1 (by simp [Own.ads]) q), ⟨ntG, by rw [List.getElem?_set_self (by rw [List.length_set, st.env.len]; exact hkl)], upd_same⟩, s.mem, by rw [List.getElem?_set_ne (Ne.symm hik), List.getElem?_set_ne (Ne.symm hij)]; exact s.sl, ⟨fun x mx => ?_, ws1, p1, q1, s1, sD r _ w1, dpAll_mono hn w2, w3⟩⟩⟩
  rcases List.mem_cons.mp mx with e | mx
  · rw [e, upd_same]; exact ⟨_, rfl, fun _ z => nomatch z⟩
  · exact (nt1.same sD) x mx)
/-- x, y = drawn, drawn (ints) -/
theorem sr_par2R (j k : Nat) {n m : Str} {px py pt pt2 : Pos} {kt k2 : Nat} (hN : X.N.Nodup) (ha : XR X i L ρ a Pa) (hb : XR X i L ρ b Pb) (fa : ∀ d, Pa d → flatD d = true) (fb : ∀ d, Pb d → flatD d = true) (h : ∀ d e, Pa d → Pb e → SR X G H0 i r L ((ρ.set j (some d)).set k (some e)) o sts Dn) (ho1 : o.slot ≠ some j) (ho2 : o.slot ≠ some k)
    (hc : X.calm = true := by rfl) (hi : X.N[j]? = some n := by rfl) (hj : X.N[k]? = some m := by rfl) (hjk : j ≠ k := by decide)
    (hx : X.env.scope.names.lookup n = some .local := by rfl) (hy : X.env.scope.names.lookup m = some .local := by rfl) (hij : i ≠ j := by decide) (hik : i ≠ k := by decide)
    (hw : swappedStores [.Tuple [.Name n px, .Name m py] kt pt] (.Tuple [a, b] k2 pt2) X.env = pure (some [n, m]) := by rfl) (hs : swapsWithSole [.Tuple [.Name n px, .Name m py] kt pt] (.Tuple [a, b] k2 pt2) pos.line X.env = pure false := by rfl)
    (hs1 : starEach (a :: [b]) X.env = (false, eval a X.env) :: starEach [b] X.env := by rfl) (hs2 : starEach (b :: []) X.env = (false, eval b X.env) :: starEach [] X.env := by rfl) :
    SR X G H0 i r L ρ o (.Assign [.Tuple [.Name n px, .Name m py] kt pt] (.Tuple [a, b] k2 pt2) pos :: sts) Dn := fun σ H s => cSs_cons (ps_par hc hN hi hj hjk hx hy (pa_cons pE (pa_cons pE pa_nil hs2) hs1) hw hs) (ha _ r σ H s.m s.env s.sl s.row _ fun v d H1 pd sb row rp => by
  have st := s.step sb row
  exact hb _ r σ H1 st.m st.env st.sl st.row _ fun u e H2 pe sb2 row2 rp2 => ⟨v, u, rfl, h d e pd pe _ _ (((st.step sb2 row2).set (rp.flat (fa d pd)) ho1 hij).set (rp2.flat (fb e pe)) ho2 hik)⟩)
/-- d[(..)] = True -/
theorem sr_putT {j : Nat} {n : Str} {p1 : Pos} {kk : Nat} (hu : X.A.units + 1 < cLine) (he : XNR X i L ρ ix Pn) (h : ∀ ns, Pn ns → SR X G H0 i r L ρ (.dT j l (addL kss ns)) sts Dn) (hz : kss.length ≤ 100000) (hN : X.N[j]? = some n := by rfl) (hv : Vis X.env.scope n := by first | exact Or.inl rfl | exact Or.inr (Or.inl rfl) | exact Or.inr (Or.inr rfl))
    (hdb : (n == ("__debug__" : Str)) = false := by decide) (hcd : (n == ("__classdict__" : Str)) = false := by decide)
    (hs : swapsWith (.Constant (.bool true) kk p3) (some (.Subscript (.Name n p) ix p1)) pos.line X.env = pure false := by rfl) :
    SR X G H0 i r L ρ (.dT j l kss) (.Assign [.Subscript (.Name n p) ix p1] (.Constant (.bool true) kk p3) pos :: sts) Dn := fun σ H s => by
  refine cSs_cons (ps_dput hu (pe_var hN hv hdb hcd) pE pe_bl hs) ?_
  obtain ⟨g1, g2, g3⟩ := id s.own
  have nlr : l ≠ r := fun z => g1 (by rw [z]; exact s.mem)
  refine ⟨.ref l, g2, he _ r σ H s.m s.env s.sl s.row _ fun b ns H1 pn hb sb row eb => ?_⟩
  have hbl : l ≠ b := fun z => by rw [← z, g3] at hb; cases hb
  have st := s.step sb row
  obtain ⟨t1, t2, t3⟩ := id st.own
  refine ⟨l, _, rfl, DPut.t (k := ns.map Sum.inl) t3 (by rw [kV_inl]; exact eb) (by rw [kvT_len]; exact Nat.lt_of_le_of_lt hz (by decide)), ?_⟩
  rw [putK_T]
  have hid' : hid (l :: G) (upd H1 l (.dT (kvT (addL kss ns)))) = hid (l :: G) H1 := by
    funext a
    by_cases m : a ∈ l :: G
    · rw [hid_in m, hid_in m]
    · rw [hid_out m, hid_out m, upd_ne fun z => m (by simp [z])]
  obtain ⟨nt1, ws1, p1, q1, s1, w1, w2, w3⟩ := id st.row
  refine h ns pn _ _ ⟨?_, fun x u n1 n2 q => ?_, ⟨t1, t2, upd_same⟩, st.mem, st.sl, ⟨fun x mx => ?_, ws1, p1, q1, s1, by rw [upd_ne nlr.symm]; exact w1, by show DpAll _ (hid (l :: G) _) _ _; rw [hid']; exact w2, w3⟩⟩
  · have e1 : EnvOk X.K (l :: G) H1 σ ρ := st.env
    exact ⟨e1.len, fun i d q => by
      obtain ⟨u, g1, g2⟩ := e1.at_ i d q
      refine ⟨u, g1, ?_⟩
      show Rp X.K (hid (l :: G) (upd H1 l (.dT (kvT (addL kss ns))))) u d
      rw [hid']; exact g2⟩
  · rw [upd_ne (by simpa [Own.ads] using n2)]
    exact st.same x u n1 n2 q
  · by_cases z : x = l
    · rw [z, upd_same]; exact ⟨_, rfl, fun _ z => nomatch z⟩
    · rw [upd_ne z]; exact nt1 x mx
/-- d = {(..): True}, another own dict in its place -/
theorem sr_redisp {j : Nat} {n : Str} {kk : Nat} {ns : List Int} (hN : X.N.Nodup) (hu : X.A.units + 1 < cLine) (he : XNT X ρ ix ns) (h : ∀ l, H0 l = none → SR X G H0 i r L ρ (.dT j l [ns]) sts Dn) (hl0 : H0 l = none) (hρ : ρ[j]? = some none := by rfl) (hij : i ≠ j := by decide) (hi : X.N[j]? = some n := by rfl) (hx : Loc X.env.scope n := by first | exact Or.inl rfl | exact Or.inr rfl)
    (hs : swapsWith (.Dict [some ix] [.Constant (.bool true) kk p3] p2) (some (.Name n p)) pos.line X.env = pure false := by rfl) (hf : X.fn n = true ∨ X.env.scope.names.lookup n = some .local := by first | exact .inl rfl | exact .inr rfl) :
    SR X G H0 i r L ρ (.dT j l kss) (.Assign [.Name n p] (.Dict [some ix] [.Constant (.bool true) kk p3] p2) pos :: sts) Dn := fun σ H s => by
  obtain ⟨g1, g2, g3⟩ := id s.own
  refine cSs_cons (ps_set hN hi hx (pe_dispT hu pE pe_bl) hs hf) fun t ht => ?_
  have sD := same_upd (o := HO.dT []) ht
  obtain ⟨nt1, ws1, p1, q1, s1, w1, w2, w3⟩ := id s.row
  have ntl : t ≠ l := fun z => by rw [z, g3] at ht; cases ht
  have ntr : t ≠ r := fun z => by rw [z, w1] at ht; cases ht
  have ntG : t ∉ G := fun m => by
    obtain ⟨u, e, _⟩ := nt1 t (List.mem_append_right _ m)
    rw [e] at ht; cases ht
  have ht0 : H0 t = none := by
    cases q : H0 t with
    | none => rfl
    | some u => rw [s.same t u ntr (by simpa [Own.ads] using ntl) q] at ht; cases ht
  have e1 : EnvOk X.K (l :: G) (upd H t (.dT [])) σ ρ := EnvOk.same s.env sD
  refine he (l :: G) σ _ e1 (nt1.same sD).live _ fun b H2 hb s2 eb => ?_
  have ht2 : H2 t = some (.dT []) := s2 t _ upd_same
  refine ⟨b, ns.map Sum.inl, rfl, by rw [kV_inl]; exact eb, ht2, ?_⟩
  have ek : ([(ns.map Sum.inl, V.bl true)] : List (List Key × V)) = kvT [ns] := rfl
  rw [ek]
  have sH : ∀ a u, a ≠ t → H a = some u → (upd H2 t (.dT (kvT [ns]))) a = some u := fun a u na e => by rw [upd_ne na]; exact s2 a u (sD a u e)
  have hh : Same (hid (l :: G) H) (hid (t :: G) (upd H2 t (.dT (kvT [ns])))) := fun a u e => by
    obtain ⟨m, e⟩ := hid_some e
    have na : a ≠ t := fun z => by rw [z, ht] at e; cases e
    rw [hid_out (by simp at m; simp [na, m.2])]
    exact sH a u na e
  refine h t ht0 _ _ ⟨?_, fun x u n1 n2 q => ?_, ⟨ntG, by rw [List.getElem?_set_self (by rw [s.env.len]; exact (List.getElem?_eq_some_iff.mp hρ).1)], upd_same⟩, s.mem, by rw [List.getElem?_set_ne (Ne.symm hij)]; exact s.sl, ⟨fun x mx => ?_, ws1, p1, q1, s1, sH r _ (Ne.symm ntr) w1, dpAll_mono hh w2, w3⟩⟩
  · have e2 : EnvOk X.K (t :: G) (upd H2 t (.dT (kvT [ns]))) (σ.set j (some (.ref t))) (ρ.set j none) := EnvOk.setN (EnvOk.mono s.env hh)
    refine e2.weak (by rw [List.length_set]) fun k d q => ?_
    by_cases z : j = k
    · rw [← z, hρ] at q; cases q
    · rw [List.getElem?_set_ne z]; exact q
  · have n2' : x ≠ t := by simpa [Own.ads] using n2
    by_cases z : x = l
    · rw [z, hl0] at q; cases q
    · exact sH x u n2' (s.same x u n1 (by simpa [Own.ads] using z) q)
  · rcases List.mem_cons.mp mx with e | mx
    · rw [e, upd_same]; exact ⟨_, rfl, fun _ z => nomatch z⟩
    · obtain ⟨u, e, hu'⟩ := nt1 x (List.mem_append_right _ mx)
      exact ⟨u, sH x u (fun z => ntG (z ▸ mx)) e, hu'⟩
/-- return (n, tuple(sorted(d))) -/
theorem sr_retPairs {j : Nat} {nd : Str} {k2 : Nat} {x : Int} {es : List D} {pt ps : Pos} (hcal : X.calm = true) (hu : X.A.units + 64 < cLine) (mt : X.mg "tuple" = none) (ms : X.mg "sorted" = none) (ha : XE X ρ a (.int x)) (sr : Srt (kss.map tupI) es) (hkl : kss.length ≤ 1000) (hP : Pd (.tuple [.int x, .tuple es])) (rt : RtR X.K G H0 r L Pd Dn) (hl0 : H0 l = none)
    (hN : X.N[j]? = some nd := by rfl) (hv : Vis X.env.scope nd := by first | exact Or.inl rfl | exact Or.inr (Or.inl rfl) | exact Or.inr (Or.inr rfl)) (hdb : (nd == ("__debug__" : Str)) = false := by decide) (hcd : (nd == ("__classdict__" : Str)) = false := by decide) (hgt : Gl X "tuple" := by rfl) (hgs : Gl X "sorted" := by rfl)
    (hs1 : starEach (a :: [.Call (.Name "tuple" pt) [.Call (.Name "sorted" ps) [.Name nd p3] [] p4] [] p5]) X.env = (false, eval a X.env) :: starEach [.Call (.Name "tuple" pt) [.Call (.Name "sorted" ps) [.Name nd p3] [] p4] [] p5] X.env := by rfl)
    (hs2 : starEach (Expr.Call (.Name "tuple" pt) [.Call (.Name "sorted" ps) [.Name nd p3] [] p4] [] p5 :: []) X.env = (false, eval (.Call (.Name "tuple" pt) [.Call (.Name "sorted" ps) [.Name nd p3] [] p4] [] p5) X.env) :: starEach [] X.env := by rfl)
    (hs3 : starEach (Expr.Call (.Name "sorted" ps) [.Name nd p3] [] p4 :: []) X.env = (false, eval (.Call (.Name "sorted" ps) [.Name nd p3] [] p4) X.env) :: starEach [] X.env := by rfl)
    (hs4 : starEach (Expr.Name nd p3 :: []) X.env = (false, eval (.Name nd p3) X.env) :: starEach [] X.env := by rfl)
    (hpl1 : (backTo p5 (starEach [] X.env)).any (·.1) = false := by rfl) (hpl2 : (backTo p4 (starEach [] X.env)).any (·.1) = false := by rfl) :
    SR X G H0 i r L ρ (.dT j l kss) (.Return (some (.Tuple [a, .Call (.Name "tuple" pt) [.Call (.Name "sorted" ps) [.Name nd p3] [] p4] [] p5] k2 p6)) pos :: sts) Dn := fun σ H s => by
  refine cSs_cons (ps_ret (pe_tup (pa_cons pE (pa_cons (pe_callTy call_tuple_of hgt mt PyProof.Rows.boot_tuple (pa_cons (pe_callB (call_sortedDT hcal hu) hgs ms PyProof.Rows.boot_sorted (pa_cons (pe_var hN hv hdb hcd) pa_nil hs4) (by decide) (by decide) hs4 hpl2) pa_nil hs3) (by decide) (by decide) hs3 hpl1) pa_nil hs2) hs1))) ?_
  refine ha _ σ H s.env s.row.1.live _ fun u H1 s1 r1 => ?_
  have st := s.grow s1
  obtain ⟨g1, g2, g3⟩ := id st.own
  obtain ⟨nt1, ws1, p1, q1, ss1, w1, w2, w3⟩ := id st.row
  rw [r1.i]
  refine ⟨.ref l, g2, l, kss, es, hid (l :: G) H1, rfl, g3, fun b zs hb => ?_, sr, hkl, fun q ws dw hq => ?_⟩
  · rw [hid_out fun m => ?_]; exact hb
    obtain ⟨u, e, hu'⟩ := nt1 b m
    rw [hb] at e; cases e
    exact hu' _ rfl
  have s2 := same_upd (o := HO.lst ws) hq
  refine ⟨q, ws, rfl, .inl ⟨.inl (.inl upd_same), fun t ht => ⟨by simp; decide, fun z hz => ?_⟩⟩⟩
  have s3 := same_upd (o := HO.tup ws) ht
  have s4 := same_upd (o := HO.tup [V.int x, V.ref t]) hz
  have s234 : Same H1 (upd (upd (upd H1 q (.lst ws)) t (.tup ws)) z (.tup [.int x, .ref t])) := (s2.trans s3).trans s4
  have st4 := st.grow s234
  obtain ⟨nt4, ws4, p4', q4, ss4, x1, x2, x3⟩ := id st4.row
  have out : ∀ (a : Addr) (H' : Hp), Same H1 H' → H' a = none → a ∉ G := fun a H' sm hn m => by
    obtain ⟨u, e, _⟩ := nt1 a (List.mem_append_right _ m)
    rw [sm a u e] at hn; cases hn
  have tG : t ∉ G := out t _ s2 ht
  have zG : z ∉ G := out z _ (s2.trans s3) hz
  refine rt _ _ _ hP (fun y v n1 e => ?_) ⟨fun y my => nt4 y (List.mem_append_right _ my), ws4, p4', q4, ss4, x1, dpAll_mono (hid_sub fun _ m => List.mem_append_right _ m) x2, x3⟩ ?_
  · refine st4.same y v n1 (fun m => ?_) e
    rw [show y = l by simpa [Own.ads] using m, hl0] at e; cases e
  · refine .inl (.tup (.inl (.inl (by rw [hid_out zG]; exact upd_same))) (.cons (.int x) (.cons (.tup (.inl (.inl (by rw [hid_out tG]; exact s4 t _ upd_same))) ?_) .nil)))
    exact dpAll_mono (Same.trans (hid_sub fun _ m => List.mem_cons_of_mem _ m) (hid_mono s234)) dw
end
end DL
set_option Elab.async false
set_option linter.all false
set_option maxRecDepth 100000
set_option maxHeartbeats 4000000
namespace DL
open PySem PySem.Spec PyProof.Rows L2
/-! ### drawn pairs are a company -/
def prI (p : Nat × Nat) : List Int := [(p.1 : Int), (p.2 : Int)]
theorem prI_inj {p q : Nat × Nat} (h : prI p = prI q) : p = q := by
  unfold prI at h
  injection h with h1 h2
  injection h2 with h3 _
  exact Prod.ext (Int.ofNat.inj h1) (Int.ofNat.inj h3)
def addP (ps : List (Nat × Nat)) (p : Nat × Nat) : List (Nat × Nat) := if p ∈ ps then ps else ps ++ [p]
theorem addP_I (ps : List (Nat × Nat)) (p : Nat × Nat) : addL (ps.map prI) (prI p) = (addP ps p).map prI := by
  unfold addL addP
  by_cases h : p ∈ ps
  · rw [if_pos h, if_pos (List.mem_map.mpr ⟨p, h, rfl⟩)]
  · rw [if_neg h, if_neg, List.map_append]; rfl
    intro z
    obtain ⟨a, ha, e⟩ := List.mem_map.mp z
    exact h (prI_inj e ▸ ha)
structure GP (n : Nat) (ps : List (Nat × Nat)) (k : Nat) : Prop where
  lt : ∀ p, p ∈ ps → p.1 < p.2 ∧ p.2 < n
  nd : ps.Nodup
  len : ps.length ≤ k
theorem addP_mem {ps : List (Nat × Nat)} {p q : Nat × Nat} : q ∈ addP ps p ↔ q ∈ ps ∨ q = p := by
  unfold addP
  split
  · rename_i h; exact ⟨.inl, fun z => z.elim id fun e => e ▸ h⟩
  · rw [List.mem_append, List.mem_singleton]
theorem GP.add {n k : Nat} {ps : List (Nat × Nat)} (h : GP n ps k) {p : Nat × Nat} (h1 : p.1 < p.2) (h2 : p.2 < n) : GP n (addP ps p) (k + 1) := by
  refine ⟨fun q hq => ?_, ?_, ?_⟩
  · rcases addP_mem.mp hq with hq | rfl
    · exact h.lt q hq
    · exact ⟨h1, h2⟩
  · unfold addP
    split
    · exact h.nd
    · rename_i hp
      refine List.nodup_append.mpr ⟨h.nd, by simp, fun a ha b hb => ?_⟩
      rw [List.mem_singleton.mp hb]
      exact fun e => hp (e ▸ ha)
  · have := h.len
    unfold addP
    split
    · omega
    · rw [List.length_append]; show _ + 1 ≤ _; omega
def CovP (n : Nat) (ps : List (Nat × Nat)) : Prop := ∀ x, x < n → ∃ p, p ∈ ps ∧ (p.1 = x ∨ p.2 = x)
theorem CovP.add {n : Nat} {ps : List (Nat × Nat)} (h : CovP n ps) (p : Nat × Nat) : CovP n (addP ps p) := fun x hx => by
  obtain ⟨q, hq, e⟩ := h x hx
  exact ⟨q, addP_mem.mpr (.inl hq), e⟩
theorem pairs_facts : ∀ n : Nat, n < 5 → (pairsOf n).Nodup ∧ (pairsOf n).Pairwise (fun p q => p.1 < q.1 ∨ (p.1 = q.1 ∧ p.2 < q.2)) ∧ (pairsOf n).length ≤ 6 := by decide +kernel
theorem pairsOf_mem {n : Nat} {p : Nat × Nat} : p ∈ pairsOf n ↔ p.1 < p.2 ∧ p.2 < n := by
  unfold pairsOf
  rw [List.mem_flatMap]
  constructor
  · rintro ⟨i, hi, h⟩
    obtain ⟨j, hj, rfl⟩ := List.mem_map.mp h
    have h1 := List.mem_filter.mp hj
    exact ⟨by simpa using h1.2, List.mem_range.mp h1.1⟩
  · rintro ⟨h1, h2⟩
    exact ⟨p.1, List.mem_range.mpr (by omega), List.mem_map.mpr ⟨p.2, List.mem_filter.mpr ⟨List.mem_range.mpr h2, by simpa using h1⟩, rfl⟩⟩
theorem subsOf_mem : ∀ {S l : List (Nat × Nat)}, S.Sublist l → S ∈ subsOf l := fun h => by
  induction h with
  | slnil => simp [subsOf]
  | cons a _ ih => exact List.mem_append_right _ ih
  | cons_cons a _ ih => exact List.mem_append_left _ (List.mem_map.mpr ⟨_, ih, rfl⟩)
def coOf (n : Nat) (ps : List (Nat × Nat)) : Co := ⟨n, (pairsOf n).filter fun p => decide (p ∈ ps)⟩
theorem coOf_mem {n k : Nat} {ps : List (Nat × Nat)} (h2 : 2 ≤ n) (h4 : n ≤ 4) (g : GP n ps k) (c : CovP n ps) : coOf n ps ∈ comps := by
  have hn3 : n ∈ [2, 3, 4] := by
    have : n = 2 ∨ n = 3 ∨ n = 4 := by omega
    rcases this with rfl | rfl | rfl <;> simp
  unfold comps coOf
  refine List.mem_flatMap.mpr ⟨n, hn3, List.mem_map.mpr ⟨_, List.mem_filter.mpr ⟨subsOf_mem List.filter_sublist, ?_⟩, rfl⟩⟩
  unfold covered
  refine List.all_eq_true.mpr fun x hx => ?_
  obtain ⟨p, hp, e⟩ := c x (List.mem_range.mp hx)
  refine List.any_eq_true.mpr ⟨p, List.mem_filter.mpr ⟨pairsOf_mem.mpr (g.lt p hp), by simpa using hp⟩, ?_⟩
  rcases e with e | e <;> simp [e]
theorem coOf_srt {n k : Nat} {ps : List (Nat × Nat)} (h4 : n ≤ 4) (g : GP n ps k) (hk : k ≤ 100000) : Srt ((ps.map prI).map tupI) ((coOf n ps).ps.map encP) := by
  obtain ⟨f1, f2, f3⟩ := pairs_facts n (by omega)
  have e : (ps.map prI).map tupI = ps.map encP := by rw [List.map_map]; rfl
  rw [e]
  refine ⟨fun d hd d2 hd2 => ?_, .inl fun d hd => ?_, by rw [List.length_map]; exact Nat.le_trans g.len hk, fun d hd => ?_, ?_, ?_⟩
  · obtain ⟨p, _, rfl⟩ := List.mem_map.mp hd
    obtain ⟨q, _, rfl⟩ := List.mem_map.mp hd2
    simp [encP, PySem.W.alike, PySem.W.alikeAll]
  · obtain ⟨p, _, rfl⟩ := List.mem_map.mp hd
    exact ⟨_, _, rfl⟩
  · obtain ⟨p, _, rfl⟩ := List.mem_map.mp hd
    simp [encP, PyData.depth, PyData.depthAll]
  · refine List.Perm.map _ ((List.perm_ext_iff_of_nodup (f1.filter _) g.nd).mpr fun p => ?_)
    show p ∈ (pairsOf n).filter _ ↔ _
    rw [List.mem_filter]
    constructor
    · rintro ⟨_, h⟩; simpa using h
    · intro h; exact ⟨pairsOf_mem.mpr (g.lt p h), by simpa using h⟩
  · rw [List.pairwise_map]
    refine (f2.filter _).imp fun {p q} h => ?_
    unfold encP
    rw [PySem.W.dataLt_ii]
    refine decide_eq_true ?_
    omega
abbrev sLCompany : Stmt := topS 45
theorem scLCompany : FnScope ["_law_row", "_law_most", "_law_many", "_law_pairs_here", "_law_at", "_law_turn", "_law_one", "_law_other"] ["_law_row", "_law_most"] (defScope sLCompany) := ⟨rfl, rfl, rfl, by decide +kernel, rfl, by decide +kernel, by decide +kernel⟩
section
variable {P : Program} {w : World} {K : PySem.W.Frag} {mg : Str → Option Value} {base : Heap} {f : Addr} {fd : FuncData} {k : Nat}
def RlCompany (ds : List D) (Pd : D → Prop) : Prop := ∃ m : Nat, 2 ≤ m ∧ m ≤ 4 ∧ ds = [.int (m : Int)] ∧ ∀ c, c ∈ comps → Pd (encC c)
theorem ok_lCompany (F : Fun K "_law_company" "_law_company" sLCompany f fd) (M : Nm mg) (C : CalleeR P w K mg base 1 "_law_taken" Rtaken) : FnOk P w K mg base CX0 2 f fd ["_law_row", "_law_most"] (spRow K RlCompany) :=
  fn_r F scLCompany (by rintro _ _ ⟨m, _, _, rfl, _⟩; rfl) (by decide) fun cdv A outer s H E hr ds Pd hR G H0 r L Dn rt => by
    obtain ⟨m, hm2, hm4, rfl, hP⟩ := hR
    refine sr_parNT 2 3 (Pa := fun d => ∃ n : Nat, 2 ≤ n ∧ n ≤ 4 ∧ d = .int (n : Int)) scLCompany.nd (xr_op (Pb := Tk (m - 1)) op_add (xe_int (i := 2)) (xr_call C hr rfl (xa1 (xe_subN (j := 1) (xe_var 1) xe_int (by omega))) (rtk (by omega) (by omega))) (by
      rintro d ⟨t, ht, rfl⟩
      exact ⟨.int ((2 + t : Nat) : Int), by rw [Int.natCast_add]; exact rv_I0 fun _ => rp_i, 2 + t, by omega, by omega, rfl⟩)) (fun d hd l hl => ?_)
    obtain ⟨n, h2, h4, rfl⟩ := hd
    -- the first pairs
    refine sr_for (Pv := fun vals => vals = (rng 1 (n - 1)).map .int) 4 (fun vals k ρ o => ∃ ps, ρ = [none, some (.int (m : Int)), some (.int (n : Int)), none, none, none, none, none] ∧ o = .dT 3 l (ps.map prI) ∧ GP n ps k ∧ ∀ x, 1 ≤ x → x ≤ k → ∃ p, p ∈ ps ∧ p.2 = x) scLCompany.nd
      (xrng_of (wrng_2 (n := 1) (m := (n : Int)) M.range xe_int (xe_var 2) ⟨by decide, by decide, by omega, by omega⟩) (by congr 2; omega)) (fun vals hv => ⟨[], rfl, rfl, ⟨by simp, by simp, Nat.le_refl _⟩, fun x h1 h2 => by omega⟩) (by rintro vals k ρ o ⟨ps, rfl, rfl, _⟩; intro z; cases z) ?_ ?_
    · rintro vals k x ρ o rfl hx ⟨ps, rfl, rfl, g, hcov⟩
      have hk : k < n - 1 ∧ x = .int ((1 + k : Nat) : Int) := by
        rw [List.getElem?_map] at hx
        cases q : (rng 1 (n - 1))[k]? with
        | none => rw [q] at hx; cases hx
        | some y =>
          rw [q] at hx
          obtain ⟨h1, h2⟩ := rng_get q
          cases hx
          exact ⟨h1, by rw [h2, Int.natCast_add]; rfl⟩
      obtain ⟨hk, rfl⟩ := hk
      refine sr_putT (Pn := fun ns => ∃ t : Nat, t < 1 + k ∧ ns = prI (t, 1 + k)) (hu_of hr) (xnr_pair (Pa := Tk (1 + k)) (xr_call C hr rfl (xa1 (xe_var 4)) (rtk (by omega) (by omega))) (xe_var 4) (by rintro d ⟨t, ht, rfl⟩; exact ⟨_, rfl, t, ht, rfl⟩)) (fun ns hns => ?_) (by rw [List.length_map]; have := g.len; omega)
      obtain ⟨t, ht, rfl⟩ := hns
      refine sr_nil fun σ H s => ?_
      rw [addP_I] at s
      refine ⟨_, _, ⟨addP ps (t, 1 + k), rfl, rfl, g.add ht (by show 1 + k < n; omega), fun y h1 h3 => ?_⟩, RSt.forget (k := 4) s⟩
      by_cases e : y = 1 + k
      · exact ⟨(t, 1 + k), addP_mem.mpr (.inr rfl), e.symm⟩
      · obtain ⟨p, hp, ep⟩ := hcov y h1 (by omega)
        exact ⟨p, addP_mem.mpr (.inl hp), ep⟩
    · rintro vals ρ o rfl ⟨ps, rfl, rfl, g, hcov⟩
      rw [List.length_map, rng_len] at g hcov
      have cov : CovP n ps := fun x hx => by
        by_cases e : x = 0
        · obtain ⟨p, hp, ep⟩ := hcov 1 (Nat.le_refl _) (by omega)
          have := (g.lt p hp).1
          exact ⟨p, hp, .inl (by omega)⟩
        · obtain ⟨p, hp, ep⟩ := hcov x (by omega) (by omega)
          exact ⟨p, hp, .inr ep⟩
      -- more pairs
      refine sr_for (Pv := fun vals => vals.length ≤ 100) 5 (fun vals k ρ o => ∃ ps, ρ = [none, some (.int (m : Int)), some (.int (n : Int)), none, none, none, none, none] ∧ o = .dT 3 l (ps.map prI) ∧ GP n ps (n + k) ∧ CovP n ps) scLCompany.nd
        (xrng_1 (Pa := fun d => ∃ t : Nat, t ≤ 100 ∧ d = .int (t : Int)) M.range (xr_if (k := decide (2 < n)) (xt_gtN (j := 2) (xe_var 2) xe_int) (fun _ => xr_imp (Pa := Tk (2 * n)) (xr_call C hr rfl (xa1 (xe_mulN (i := 2) xe_int (xe_var 2) (by decide))) (rtk (by omega) (by omega))) (by rintro d ⟨t, ht, rfl⟩; exact ⟨t, by omega, rfl⟩)) (fun _ => xr_of (xe_int (i := 0)) ⟨0, by decide, rfl⟩)) (by
          rintro d ⟨t, ht, rfl⟩; exact ⟨t, rfl, by omega, by rw [List.length_map, rng_len]; exact ht⟩))
        (fun vals hv => ⟨ps, rfl, rfl, ⟨g.lt, g.nd, by have := g.len; omega⟩, cov⟩) (by rintro vals k ρ o ⟨ps, rfl, rfl, _⟩; intro z; cases z) ?_ ?_
      · rintro vals k x ρ o hv hx ⟨ps, rfl, rfl, g, cov⟩
        have hk := (List.getElem?_eq_some_iff.mp hx).1
        refine sr_par2R (Pa := Tk n) (Pb := Tk n) 6 7 scLCompany.nd (xr_call C hr rfl (xa1 (xe_var 2)) (rtk (by omega) (by omega))) (xr_call C hr rfl (xa1 (xe_var 2)) (rtk (by omega) (by omega))) (by rintro d ⟨t, _, rfl⟩; rfl) (by rintro d ⟨t, _, rfl⟩; rfl) (fun d e hd he => ?_) (by intro z; cases z) (by intro z; cases z)
        obtain ⟨a, ha, rfl⟩ := hd
        obtain ⟨b, hb, rfl⟩ := he
        refine sr_if (k := !decide ((a : Int) = (b : Int))) (xt_ne (xe_var 6) (xe_var 7)) (fun hne => ?_) fun hne => ?_
        · have hne' : a ≠ b := fun z => by rw [z] at hne; simp at hne
          refine sr_putT (Pn := fun ns => ns = prI (min a b, max a b)) (hu_of hr) (xnr_of (ns := prI (min a b, max a b)) (xnt_pair (xe_is (xe_minI (v := (a : Int)) (w := (b : Int)) rfl M.min (xe_var 6) (xe_var 7)) ?_) (xe_is (xe_maxI (v := (a : Int)) (w := (b : Int)) rfl M.max (xe_var 6) (xe_var 7)) ?_)) rfl) (fun ns hns => ?_) (by rw [List.length_map]; have := g.len; omega)
          · congr 1; show _ = ((min a b : Nat) : Int); split <;> omega
          · congr 1; show _ = ((max a b : Nat) : Int); split <;> omega
          · subst hns
            rw [addP_I]
            refine sr_nil fun σ H s => ?_
            refine cSs_of pss_nil ?_
            exact ⟨_, _, ⟨addP ps (min a b, max a b), rfl, rfl, g.add (by show min a b < max a b; omega) (by show max a b < n; omega), cov.add _⟩, RSt.forget (k := 5) (RSt.forget (k := 6) (ρ := [none, some (.int (m : Int)), some (.int (n : Int)), none, none, some x, none, none]) (RSt.forget (k := 7) (ρ := [none, some (.int (m : Int)), some (.int (n : Int)), none, none, some x, some (.int (a : Int)), none]) s))⟩
        · refine sr_nil fun σ H s => ?_
          refine cSs_of pss_nil ?_
          exact ⟨_, _, ⟨ps, rfl, rfl, ⟨g.lt, g.nd, by have := g.len; omega⟩, cov⟩, RSt.forget (k := 5) (RSt.forget (k := 6) (ρ := [none, some (.int (m : Int)), some (.int (n : Int)), none, none, some x, none, none]) (RSt.forget (k := 7) (ρ := [none, some (.int (m : Int)), some (.int (n : Int)), none, none, some x, some (.int (a : Int)), none]) s))⟩
      · rintro vals ρ o hv ⟨ps, rfl, rfl, g, cov⟩
        by_cases h3 : n = 4
        · subst h3
          refine sr_ifR (xtr_and (k := decide (3 < 4)) (xt_gtN (i := 4) (j := 3) (xe_var 2) xe_int) (xtr_eq (Pa := Tk 3) (j := 0) (xr_call C hr rfl (xa1 (xe_int (i := 3))) (rtk (by decide) (by decide))) xe_int (by rintro _ ⟨t, _, rfl⟩; exact ⟨_, rfl⟩))) ?_ ?_
          · refine sr_redisp (j := 3) (ns := prI (0, 1)) scLCompany.nd (hu_of hr) (xnt_pair xe_int xe_int) (fun l2 hl2 => ?_) hl
            refine sr_for (Pv := fun vals => vals = [.int 2]) 4 (fun vals k ρ o => ∃ ps, ρ = [none, some (.int (m : Int)), some (.int ((4 : Nat) : Int)), none, none, none, none, none] ∧ o = .dT 3 l2 (ps.map prI) ∧ GP 4 ps (1 + k) ∧ (0, 1) ∈ ps ∧ (1 ≤ k → (2, 3) ∈ ps)) scLCompany.nd
              (xrng_of (wrng_3 (n := 2) (m := 3) (c0 := 2) (k := 1) M.range (xa3 xe_int (xe_subN (i := 4) (j := 1) (xe_var 2) xe_int (by decide)) xe_int) ⟨by decide, by decide, by decide +kernel, by decide +kernel⟩) rfl) (fun vals hv => ⟨[(0, 1)], rfl, rfl, ⟨by simp, by simp, Nat.le_refl _⟩, by simp, fun z => by omega⟩) (by rintro vals k ρ o ⟨ps, rfl, rfl, _⟩; intro z; cases z) ?_ ?_
            · rintro vals k x ρ o rfl hx ⟨ps, rfl, rfl, g, h01, _⟩
              have hk := (List.getElem?_eq_some_iff.mp hx).1
              have hk0 : k = 0 := by simpa using hk
              subst hk0
              cases hx
              refine sr_putT (Pn := fun ns => ns = prI (2, 3)) (hu_of hr) (xnr_of (ns := prI (2, 3)) (xnt_pair (xe_var 4) (xe_addN (i := 2) (j := 1) (xe_var 4) xe_int)) rfl) (fun ns hns => ?_) (by rw [List.length_map]; have := g.len; omega)
              subst hns
              rw [addP_I]
              refine sr_nil fun σ H s => ?_
              exact ⟨_, _, ⟨addP ps (2, 3), rfl, rfl, g.add (by decide) (by decide), addP_mem.mpr (.inl h01), fun _ => addP_mem.mpr (.inr rfl)⟩, RSt.forget (k := 4) s⟩
            · rintro vals ρ o rfl ⟨ps, rfl, rfl, g, h01, h23⟩
              have h23 := h23 (Nat.le_refl _)
              refine sr_putT (Pn := fun ns => ∃ t : Nat, t < 3 ∧ ns = prI (t, 3)) (hu_of hr) (xnr_pair (Pa := Tk 3) (xr_call C hr rfl (xa1 (xe_subN (i := 4) (j := 1) (xe_var 2) xe_int (by decide))) (rtk (by decide) (by decide))) (xe_subN (i := 4) (j := 1) (xe_var 2) xe_int (by decide)) (by rintro d ⟨t, ht, rfl⟩; exact ⟨_, rfl, t, ht, rfl⟩)) (fun ns hns => ?_) (by rw [List.length_map]; have : ps.length ≤ 1 + 1 := g.len; omega)
              obtain ⟨t, ht, rfl⟩ := hns
              rw [addP_I]
              have g2 := g.add (p := (t, 3)) ht (by show 3 < 4; decide)
              have c2 : CovP 4 (addP ps (t, 3)) := fun x hx => by
                have : x = 0 ∨ x = 1 ∨ x = 2 ∨ x = 3 := by omega
                rcases this with rfl | rfl | rfl | rfl
                · exact ⟨_, addP_mem.mpr (.inl h01), .inl rfl⟩
                · exact ⟨_, addP_mem.mpr (.inl h01), .inr rfl⟩
                · exact ⟨_, addP_mem.mpr (.inl h23), .inl rfl⟩
                · exact ⟨_, addP_mem.mpr (.inl h23), .inr rfl⟩
              refine sr_k ?_
              exact sr_retPairs rfl hr.units M.tuple M.sorted (xe_var 2) (coOf_srt (n := 4) (Nat.le_refl _) g2 (by show 1 + 1 + 1 ≤ 100000; decide)) (by rw [List.length_map]; exact Nat.le_trans g2.len (by show 1 + 1 + 1 ≤ 1000; decide)) (hP _ (coOf_mem (by decide) (Nat.le_refl _) g2 c2)) rt hl2
          · refine sr_k ?_
            exact sr_retPairs rfl hr.units M.tuple M.sorted (xe_var 2) (coOf_srt (n := 4) (Nat.le_refl _) g (by omega)) (by rw [List.length_map]; exact Nat.le_trans g.len (by omega)) (hP _ (coOf_mem (by decide) (Nat.le_refl _) g cov)) rt hl
        · refine sr_if (k := false) (xt_is (xw_t (xw_and (k := decide (3 < n)) (l := false) (xt_gtN (j := 3) (xe_var 2) xe_int) (fun z => by have := of_decide_eq_true z; omega))) (by simp)) (fun z => nomatch z) (fun _ => sr_k ?_)
          exact sr_retPairs rfl hr.units M.tuple M.sorted (xe_var 2) (coOf_srt h4 g (by omega)) (by rw [List.length_map]; exact Nat.le_trans g.len (by omega)) (hP _ (coOf_mem h2 h4 g cov)) rt hl
end
end DL
set_option Elab.async false
set_option linter.all false
set_option maxRecDepth 100000
set_option maxHeartbeats 4000000
/-! sorted(set(texts)). -/
namespace DL
open PySem PySem.Spec PyProof.Rows L2
def txtOf (e : Int × Value) : Str := match e.2 with | .str k _ => k | _ => Str.empty
def TxtE (w : World) (e : Int × Value) : Prop := ∃ k tk, e.2 = Value.str k tk ∧ e.1 = hashStr w k
/-- at a: a set of texts, S its members -/
structure TSt (w : World) (h : Heap) (a : Addr) (S : Str → Prop) (es : Array (Int × Value)) (ep : Nat) (t : SetTable) : Prop where
  ob : ∃ o, h.get? a = some o ∧ o.ExactSet ∧ o.data = .set es ep t
  good : ∀ e ∈ es.toList, TxtE w e
  nd : (es.toList.map txtOf).Nodup
  mem : ∀ k, k ∈ es.toList.map txtOf ↔ S k
  room : es.size < scanBound
  fits : t.fits es.size = true
  ris : Ris t.place.toList
  led : w.params.followText "set-order" = true ∨ t.led = true
section
variable {P : Program} {w : World} {A : Around} {E : Value → Shared → Prop} {s : Shared} {h h' : Heap} {a : Addr} {S S' : Str → Prop} {es : Array (Int × Value)} {ep : Nat} {t : SetTable}
theorem TSt.keep (R : TSt w h a S es ep t) (k : ∀ o, h.get? a = some o → h'.get? a = some o) : TSt w h' a S es ep t :=
  let ⟨o, ho, r⟩ := R.ob; { R with ob := ⟨o, k o ho, r⟩ }
theorem txt_elems {l : List (Int × Value)} (g : ∀ e ∈ l, TxtE w e) : ElemsOf (strKind P w) l := fun e he => by
  obtain ⟨k, tk, h1, h2⟩ := g e he
  exact ⟨⟨k, by rw [h1]; show Value.isStrOf k (.str k tk) = true; simp [Value.isStrOf], h2⟩, by rw [h1] <;> rfl⟩
theorem txt_is {e : Int × Value} (g : TxtE w e) (k : Str) : (strKind P w).is k e.2 = true ↔ txtOf e = k := by
  obtain ⟨k0, tk, h1, _⟩ := g
  unfold txtOf
  rw [h1]
  show (Value.isStrOf k (.str k0 tk) = true) ↔ k0 = k
  simp [Value.isStrOf]
theorem txt_mem {l : List (Int × Value)} (g : ∀ e ∈ l, TxtE w e) (k : Str) : k ∈ l.map txtOf ↔ ∃ e ∈ l, (strKind P w).is k e.2 = true := by
  rw [List.mem_map]
  exact ⟨fun ⟨e, he, q⟩ => ⟨e, he, (txt_is (g e he) k).2 q⟩, fun ⟨e, he, q⟩ => ⟨e, he, (txt_is (g e he) k).1 q⟩⟩
/-- the room grows where it must -/
theorem txt_store {g : Bool → Sem Unit} (hg : ∀ (b : Bool) (s₁ : Shared) (Q' : Unit → Shared → Prop), Q' () s₁ → wpAny (model P w) A (g b) Q' E s₁) {o : Obj} (ho : s.heap.get? a = some o) (hex : o.ExactSet) (hd : o.data = .set es ep t)
    {es1 : Array (Int × Value)} {t2 : SetTable} (g1 : ∀ e ∈ es1.toList, TxtE w e) (nd1 : (es1.toList.map txtOf).Nodup) (m1 : ∀ k, k ∈ es1.toList.map txtOf ↔ S' k)
    (hb1 : es1.size < scanBound) (hf2 : t2.fits es1.size = true) (hr : Ris t2.place.toList) (hl : w.params.followText "set-order" = true ∨ t2.led = true) {wasDummy : Bool} {R : Option Bool → Shared → Prop}
    (hR : ∀ h' es' ep' t', Heap.SameBut a s.heap h' → TSt w h' a S' es' ep' t' → es'.size = es1.size → R (some true) { s with heap := h' }) :
    wpAny (model P w) A (do
        storeSet a es1 t2
        if (!wasDummy && t2.tooFull) = true then do
            g (relayAll t2 es1 (SetTable.grown es1.size)).2.2
            storeSet a (relayAll t2 es1 (SetTable.grown es1.size)).1 (relayAll t2 es1 (SetTable.grown es1.size)).2.1
            pure (some true)
          else pure (some true)) R E s := by
  have ho1 := store_at (es' := es1) (t' := t2) ho hd
  have sb1 := Heap.SameBut.update s.heap a (Obj.putSet es1 t2)
  refine wpAny_bind (wpAny_storeSet_of ho hd ?_ (fits_of_scanBound hb1))
  split
  · have pm := relayAll_perm t2 es1 (SetTable.grown es1.size)
    have hf3 := relayAll_fits t2 es1 (SetTable.grown es1.size)
    have hr3 := relayAll_ris t2 es1 (SetTable.grown es1.size)
    have hl3 := relayAll_led t2 es1 (SetTable.grown es1.size)
    generalize relayAll t2 es1 (SetTable.grown es1.size) = Z at pm hf3 hr3 hl3 ⊢
    obtain ⟨es2, t3, gave⟩ := Z
    dsimp only at pm hf3 hr3 hl3 ⊢
    have hsz : es2.size = es1.size := by rw [← Array.length_toList, pm.length_eq, Array.length_toList]
    refine wpAny_bind (hg _ _ _ (wpAny_bind (wpAny_storeSet_of ho1 rfl ?_ (fits_of_scanBound (by omega)))))
    refine wpAny_pure (hR _ es2 _ t3 (sb1.trans (Heap.SameBut.update _ a _)) ⟨⟨_, store_at (es' := es2) (t' := t3) ho1 rfl, hex, rfl⟩, fun e he => g1 e (pm.mem_iff.mp he), (pm.map txtOf).nodup_iff.mpr nd1, fun k => (pm.map txtOf).mem_iff.trans (m1 k), by omega, hf3, hr3, hl.imp id fun z => by rw [hl3]; exact z⟩ hsz)
  · exact wpAny_pure (hR _ es1 _ t2 sb1 ⟨⟨_, ho1, hex, rfl⟩, g1, nd1, m1, hb1, hf2, hr, hl⟩ rfl)
theorem txt_add {k : Str} {tk : Tok} {Q : Bool → Shared → Prop} (R : TSt w s.heap a S es ep t) (room : es.size + 1 < scanBound)
    (hQ : ∀ b h' es' ep' t', Heap.SameBut a s.heap h' → TSt w h' a (fun j => S j ∨ j = k) es' ep' t' → es'.size ≤ es.size + 1 → Q b { s with heap := h' }) :
    wpAny (model P w) A (setAddHashed a (.str k tk) ((strKind P w).hash k)) Q E s := by
  obtain ⟨o, ho, hex, hd⟩ := R.ob
  have hkey : (strKind P w).is k (.str k tk) = true := by show Value.isStrOf k (.str k tk) = true; simp [Value.isStrOf]
  have hsc : (Value.str k tk).scannable = true := rfl
  have hel : ElemsOf (strKind P w) es.toList := txt_elems R.good
  unfold setAddHashed setAddHashedIn
  refine wpAny_holding (wpAny_bind (wpAny_setState_of ho hd R.fits ?_))
  dsimp only
  rw [byScan_of hsc R.room hel]
  simp only [↓reduceIte]
  unfold setAddByScan
  refine wpAny_bind (wpAny_bind (wpAny_rule (wpAny_bind (wpAny_setScan_of hkey ho hd R.fits hel ?_))))
  cases hfi : List.findIdx? (fun e => (strKind P w).is k e.2) es.toList with
  | some j =>
    dsimp only
    obtain ⟨hj, pj, _⟩ := List.findIdx?_eq_some_iff_getElem.mp hfi
    have hSk : S k := (R.mem k).1 ((txt_mem (P := P) R.good k).2 ⟨es.toList[j], List.getElem_mem hj, pj⟩)
    exact wpAny_pure (wpAny_pure (hQ _ s.heap es ep t (Heap.SameBut.refl a s.heap) { R with mem := fun i => (R.mem i).trans ⟨.inl, fun z => z.elim id fun e => e ▸ hSk⟩ } (Nat.le_succ _)))
  | none =>
    dsimp only
    have hnk : k ∉ es.toList.map txtOf := fun z => by
      obtain ⟨e, he, q⟩ := (txt_mem (P := P) R.good k).1 z
      have c := List.findIdx?_eq_none_iff.mp hfi e he
      rw [q] at c
      cases c
    have hgw : ∀ (b : Bool) {s₁ : Shared} {Q' : Unit → Shared → Prop}, Q' () s₁ → wpAny (model P w) A (match b with | true => rule "set.scan.the-table-gave-way" | false => pure ()) Q' E s₁ :=
      fun b s₁ Q' q => by cases b <;> first | exact wpAny_pure q | exact wpAny_rule q
    have pm := layNew_perm t es ((strKind P w).hash k) (.str k tk)
    have hf1 := layNew_fits t es ((strKind P w).hash k) (.str k tk)
    have hr1 := layNew_ris t es ((strKind P w).hash k) (.str k tk) R.ris
    have hl1 := layNew_led t es ((strKind P w).hash k) (.str k tk)
    generalize layNew t es ((strKind P w).hash k) (.str k tk) = Z at pm hf1 hr1 hl1 ⊢
    obtain ⟨es1, t1, wasDummy, gave⟩ := Z
    dsimp only at pm hf1 hr1 hl1 ⊢
    rw [Array.toList_push] at pm
    have pc : es1.toList.Perm (((strKind P w).hash k, Value.str k tk) :: es.toList) := pm.trans (List.perm_append_singleton _ _)
    have pk : (es1.toList.map txtOf).Perm (k :: es.toList.map txtOf) := pc.map txtOf
    have g1 : ∀ e ∈ es1.toList, TxtE w e := fun e he => by
      rcases List.mem_cons.mp (pc.mem_iff.mp he) with z | z
      · rw [z]; exact ⟨k, tk, rfl, rfl⟩
      · exact R.good e z
    have nd1 : (es1.toList.map txtOf).Nodup := pk.nodup_iff.mpr (List.nodup_cons.mpr ⟨hnk, R.nd⟩)
    have m1 : ∀ i, i ∈ es1.toList.map txtOf ↔ (S i ∨ i = k) := fun i => by
      rw [pk.mem_iff, List.mem_cons, R.mem i]
      exact Or.comm
    have hsz : es1.size = es.size + 1 := by rw [← Array.length_toList, pc.length_eq, List.length_cons, Array.length_toList]
    have hb1 : es1.size < scanBound := by rw [hsz]; exact room
    have hled : w.params.followText "set-order" = true ∨ t1.led = true := R.led.imp id fun z => by rw [hl1]; exact z
    refine wpAny_bind (hgw _ ?_)
    split
    · refine wpAny_bind ?_
      rw [hashByValue_scannable 8 hsc]
      refine wpAny_pure ?_
      refine txt_store ?_ ho hex hd g1 nd1 m1 hb1 ?_ ?_ ?_ ?_
      · intro b s₁ Q' q; cases b <;> first | exact wpAny_pure q | exact wpAny_rule q
      · first | (split <;> first | exact hf1 | exact SetTable.fits_plain_off hf1) | exact hf1
      · first | (split <;> exact hr1) | exact hr1
      · first | (split <;> exact hled) | exact hled
      · intro h' es' ep' t' sb r hz; dsimp only; exact wpAny_pure (hQ _ h' es' ep' t' sb r (by omega))
    · refine wpAny_bind (wpAny_pure ?_)
      simp only [↓reduceIte]
      refine txt_store ?_ ho hex hd g1 nd1 m1 hb1 hf1 hr1 hled ?_
      · intro b s₁ Q' q; cases b <;> first | exact wpAny_pure q | exact wpAny_rule q
      · intro h' es' ep' t' sb r hz; dsimp only; exact wpAny_pure (hQ _ h' es' ep' t' sb r (by omega))
theorem txt_at : ∀ {us : List Value} {xs : List Str}, StrsAre us xs → ∀ (i : Nat) (v : Value), us[i]? = some v → ∃ x t, xs[i]? = some x ∧ v = .str x t
  | _, _, .nil, i, v, h => by simp at h
  | _, _, .cons n t hr, 0, v, h => by simp at h; exact ⟨n, t, rfl, h.symm⟩
  | _, _, .cons n t hr, i + 1, v, h => by
    simp only [List.getElem?_cons_succ] at h ⊢
    exact txt_at hr i v h
end
section
variable {P : Program} {w : World} {A : Around} {R : Result → Shared → Prop} {I : Addr} {fp wr : List Addr} {G : Array GenState → Array GenState → Prop} {n : Nat} {Pv : Nat → Value → Prop} {St : Nat → Shared → Prop}
theorem txt_loop (W : WalksS P w A.in1 I fp wr G n Pv St) (S : Addr) (hSf : S ∉ fp) (xs : List Str) (hsz : xs.length = n) (hn1 : n + 1 < scanBound) (hval : ∀ i v, Pv i v → ∃ x t, xs[i]? = some x ∧ v = .str x t) :
    ∀ (k i : Nat) (s : Shared) (es : Array (Int × Value)) (ep : Nat) (t : SetTable), n - i = k → i ≤ n → St i s → TSt w s.heap S (fun x => x ∈ xs.take i) es ep t → es.size ≤ i →
      (∀ s' es' ep' t', Moved (S :: wr) G s s' → TSt w s'.heap S (fun x => x ∈ xs) es' ep' t' → R (.ok (.ret .none)) s') →
      codeAny (model P w) A (.builtin "set.update.loop" ⟨[.ref S, .ref I], []⟩) R s := by
  have hSw : S ∉ wr := fun h => hSf (W.sub _ h)
  have hsub : ∀ b ∈ wr, b ∈ S :: wr := fun b hb => List.mem_cons_of_mem _ hb
  intro k
  induction k with
  | zero =>
    intro i s es ep t hk hi hst hS hz hR
    have hin : i = n := by omega
    subst hin
    refine codeAny_builtin PyProof.Rows.F.entry_set_update_loop ?_
    rw [Around.under_plainId PyProof.Rows.F.plain_set_update_loop _]
    show wpAny _ A.in1 (pyNext (.ref I) >>= _) _ _ s
    refine wpAny_bind (W.done s _ _ hst fun s' hm => ?_)
    show wpAny _ A.in1 (ret Value.none) _ _ s'
    rw [← hsz, List.take_length] at hS
    exact wpAny_pure (hR s' es ep t (hm.mono hsub) (hS.keep fun o ho => hm.heap S o hSw ho))
  | succ k ih =>
    intro i s es ep t hk hi hst hS hz hR
    have hlt : i < n := by omega
    refine codeAny_builtin PyProof.Rows.F.entry_set_update_loop ?_
    rw [Around.under_plainId PyProof.Rows.F.plain_set_update_loop _]
    show wpAny _ A.in1 (pyNext (.ref I) >>= _) _ _ s
    refine wpAny_bind (W.item i s _ _ hlt hst fun v s' hP hst' hm => ?_)
    obtain ⟨x, tk, hx, rfl⟩ := hval i v hP
    have hS' : TSt w s'.heap S (fun x => x ∈ xs.take i) es ep t := hS.keep fun o ho => hm.heap S o hSw ho
    show wpAny _ A.in1 (holding [Value.str x tk] (setAdd S (.str x tk)) >>= _) _ _ s'
    refine wpAny_bind (wpAny_holding ?_)
    unfold setAdd
    refine wpAny_holding ?_
    refine wpAny_bind ((PySem.strKind P w).pyHash (k := x) (by show Value.isStrOf x (.str x tk) = true; simp [Value.isStrOf]) ?_)
    refine txt_add (s := { s' with toks := s'.toks + 1 }) hS' (by omega) fun b h' es' ep' t' hsb hS2 hz2 => ?_
    have hSi : TSt w h' S (fun y => y ∈ xs.take (i + 1)) es' ep' t' := { hS2 with mem := fun y => (hS2.mem y).trans (by
      rw [List.take_add_one, hx]
      simp) }
    refine wpAny_pure ⟨plainId_quiet PyProof.Rows.F.plain_set_update_loop _, ih (i + 1) _ es' ep' t' (by omega) hlt (W.frame _ s' _ _ hst' (Nat.le_succ _) fun b hb o e => ?_) hSi (by omega) fun s'' es2 ep2 t2 hm'' hS'' => ?_⟩
    · rw [hsb.2 b (fun h : b = S => hSf (by rw [← h]; exact hb))]; exact e
    · refine hR s'' es2 ep2 t2 (Moved.trans W.gtrans ((hm.mono hsub).then_heap (Nat.le_succ _) fun b o hb e => ?_) hm'') hS''
      rw [hsb.2 b (fun h : b = S => hb (by rw [h]; exact List.mem_cons_self))]; exact e
end
section
variable {P : Program} {w : World} {A : Around} {E : Value → Shared → Prop} {s : Shared}
theorem txt_set {l : Addr} {items : Array Value} {xs : List Str} {Q : Value → Shared → Prop} (hh : A.handled = none) (hl : s.heap.IsList l items) (hi : StrsAre items.toList xs) (hn1 : xs.length + 1 < scanBound)
    (h : ∀ (h' : Heap) (tk : Nat) es ep t, TSt w h' s.heap.objs.size (fun x => x ∈ xs) es ep t → (∀ b o, s.heap.get? b = some o → h'.get? b = some o) → Q (.ref s.heap.objs.size) { s with heap := h', toks := tk }) :
    wpAny (model P w) A (call (.type "set") [.ref l]) Q E s := by
  have hsz : xs.length = items.size := by rw [← StrsAre.len_eq hi, Array.length_toList]
  obtain ⟨c, tl, hmro⟩ := PySem.F.called_set.mro
  have hmade := PySem.F.called_set.made
  have hsub := PySem.F.called_set.sub
  refine wpAny_call (codeAny_of_tree ?_)
  show wpAny _ _ (callAny (.type "set") _) _ _ _
  refine wpAny_pure ⟨Code.quiet_builtin _ (by decide +kernel), codeAny_builtin PySem.F.entry_type_call ?_⟩
  rw [Around.under_plain (weight_type_call_type "set" [.ref l] []) rfl]
  have h1 := PySem.F.called_set.notType
  have h2 := PySem.F.called_set.canCreate
  have hct := PySem.F.typeCall_set_1 (.ref l)
  repeat (any_goals (first | assumption | wp_step))
  refine codeAny_mono (code_set_led1 (.ref l) (E := E) (Q₁ := fun obj s₁ => obj = .ref s.heap.objs.size ∧ s₁ = { s with heap := s.heap.push { cls := .type "set", dict := none, data := .set #[] 0 (.fresh 0 0 (!w.params.followText "set-order")) } }) ⟨rfl, rfl⟩) fun r s₁ hr => ?_
  cases r with
  | error e => exact hr
  | ok fl =>
    cases fl with
    | ret obj =>
      obtain ⟨rfl, rfl⟩ := hr
      have hS : (s.heap.push { cls := .type "set", dict := none, data := .set #[] 0 (.fresh 0 0 (!w.params.followText "set-order")) }).get? s.heap.objs.size = some { cls := .type "set", dict := none, data := .set #[] 0 (.fresh 0 0 (!w.params.followText "set-order")) } := Heap.get?_push_size _ rfl
      have hT : Shared.TypeIs { s with heap := s.heap.push { cls := .type "set", dict := none, data := .set #[] 0 (.fresh 0 0 (!w.params.followText "set-order")) } } (.ref s.heap.objs.size) "set" := ⟨_, hS, rfl⟩
      have hli := PySem.F.called_set.init.lookup
      have hbi := PySem.F.called_set.init.bind (.ref s.heap.objs.size)
      repeat (any_goals (first | assumption | wp_step))
      refine codeAny_mono (codeAny_call_builtin (R := wants (fun r s₂ => r = .none ∧ ∃ h' tk es ep t, s₂ = { s with heap := h', toks := tk } ∧ TSt w h' s.heap.objs.size (fun x => x ∈ xs) es ep t ∧
          (∀ b o, s.heap.get? b = some o → h'.get? b = some o)) E) PySem.F.called_set.init.plain PySem.F.entry_set_init (check_set_init_1 hT ?_)) fun r₂ s₂ hr₂ => ?_
      · obtain ⟨ol, hol, hcl, nl, hdl⟩ := hl
        obtain ⟨ocls, odict, odata, oslots⟩ := ol
        simp only at hcl hdl
        subst hcl; subst hdl
        have hol' : (s.heap.push { cls := .type "set", dict := none, data := .set #[] 0 (.fresh 0 0 (!w.params.followText "set-order")) }).get? l = some { cls := .type "list", dict := odict, data := .seq items nl, slots := oslots } := Heap.get?_push_of_some _ hol
        have hsls := PySem.F.sub_list_set
        have hslf := PySem.F.sub_list_frozenset
        have hne : (Value.type "list" == Value.type "dict") = false := by decide
        have hl1 : (s.heap.push { cls := .type "set", dict := none, data := .set #[] 0 (.fresh 0 0 (!w.params.followText "set-order")) }).IsList l items := ⟨_, hol', rfl, nl, rfl⟩
        unfold Builtin.«set.__init__» noKeywords Builtin.Frozenset.updateFrom
        generalize hPI : pyIter = PI
        wp_walk
        subst hPI
        refine wpAny_pyIter_list hl1 ?_
        refine wpAny_bind (wpAny_runValue ?_)
        have hlS : l < s.heap.objs.size := Heap.lt_size hol
        have hh3 : A.in1.in1.in1.handled = none := by simp [hh]
        have hneI : l ≠ (s.heap.push { cls := .type "set", dict := none, data := .set #[] 0 (.fresh 0 0 (!w.params.followText "set-order")) }).objs.size := by
          rw [Heap.size_push]; exact Nat.ne_of_lt (Nat.lt_succ_of_lt hlS)
        have hSf : s.heap.objs.size ∉ [(s.heap.push { cls := .type "set", dict := none, data := .set #[] 0 (.fresh 0 0 (!w.params.followText "set-order")) }).objs.size, l] := by
          rw [Heap.size_push]; simp only [List.mem_cons, List.mem_singleton, List.not_mem_nil, or_false, not_or]
          exact ⟨Nat.ne_of_lt (Nat.lt_succ_self _), Nat.ne_of_gt hlS⟩
        have hval : ∀ (i : Nat) (v : Value), items[i]? = some v → ∃ x t, xs[i]? = some x ∧ v = .str x t := fun i v hv => txt_at hi i v (by rw [Array.getElem?_toList]; exact hv)
        have fresh : TSt w ((s.heap.push { cls := .type "set", dict := none, data := .set #[] 0 (.fresh 0 0 (!w.params.followText "set-order")) }).push { cls := .type "list_iterator", data := .fields #[.ref l, .int 0 0] }) s.heap.objs.size (fun x => x ∈ xs.take 0) #[] 0 (.fresh 0 0 (!w.params.followText "set-order")) := by
          refine ⟨⟨_, Heap.get?_push_of_some _ hS, ⟨rfl, rfl, rfl⟩, rfl⟩, fun e he => by simp at he, by simp, fun k => by simp, by decide, rfl, List.Pairwise.nil, ?_⟩
          show _ ∨ (!w.params.followText "set-order") = true
          cases w.params.followText "set-order"
          · exact .inr rfl
          · exact .inl rfl
        refine txt_loop ((Walks.list hh3 _ l hneI items).toS) s.heap.objs.size hSf xs hsz (by rw [← hsz]; exact hn1) hval (items.size - 0) 0 _ _ _ _ (by omega) (Nat.zero_le _) ⟨⟨_, Heap.get?_push_size _ rfl, rfl, rfl⟩, (hl1.push _)⟩ fresh (by simp) ?_
        intro s' es ep t hm hS'
        obtain ⟨h', g', d', tk', os'⟩ := s'
        have eg : g' = s.gens := hm.gens
        have ed : d' = s.drawn := hm.drawn
        have eo : os' = s.os := hm.os
        subst eg; subst ed; subst eo
        show wpAny _ _ _ _ _ _
        refine wpAny_pure ?_
        show wpAny _ _ (ret Value.none) _ _ _
        refine wpAny_pure ⟨rfl, h', tk', es, ep, t, rfl, hS', fun b o e => ?_⟩
        have hb := Heap.lt_size e
        have hb1 : b ≠ s.heap.objs.size := Nat.ne_of_lt hb
        have hb2 : b ≠ (s.heap.push { cls := .type "set", dict := none, data := .set #[] 0 (.fresh 0 0 (!w.params.followText "set-order")) }).objs.size := by
          rw [Heap.size_push]; exact Nat.ne_of_lt (Nat.lt_succ_of_lt hb)
        exact hm.heap b o (by simp only [List.mem_cons, List.mem_singleton, List.not_mem_nil, or_false, not_or]; exact ⟨hb1, hb2⟩) (Heap.get?_push_of_some _ (Heap.get?_push_of_some _ e))
      · cases r₂ with
        | error e => exact hr₂
        | ok fl₂ =>
          cases fl₂ with
          | ret r =>
            obtain ⟨rfl, h', tk, es, ep, t, rfl, hS', hk'⟩ := hr₂
            repeat (any_goals (first | assumption | wp_step))
            exact h _ _ _ _ _ hS' hk'
          | _ => exact hr₂.elim
    | _ => exact hr.elim
end
end DL
set_option Elab.async false
set_option linter.all false
set_option maxRecDepth 100000
set_option maxHeartbeats 4000000
namespace DL
open PySem PySem.Spec PyProof.Rows L2
def txtV (v : Value) : Str := match v with | .str k _ => k | _ => Str.empty
def TxtR (v : Value) (d : D) : Prop := ∃ k tk, v = Value.str k tk ∧ d = .str k
theorem txt_each : ∀ {vs : List Value}, (∀ v, v ∈ vs → ∃ k tk, v = Value.str k tk) → PySem.W.EachIs TxtR vs (vs.map fun v => .str (txtV v))
  | [], _ => .nil
  | v :: vs, h => .cons (by obtain ⟨k, tk, e⟩ := h v List.mem_cons_self; exact ⟨k, tk, e, by rw [e]; rfl⟩) (txt_each fun u hu => h u (List.mem_cons_of_mem _ hu))
theorem txt_vals : ∀ {vs : List Value} {ys : List Str}, PySem.W.EachIs TxtR vs (ys.map .str) → Vals (ys.map V.str) vs
  | _, [], h => by cases h; exact .nil
  | _, y :: ys, h => by
    cases h with
    | cons a b =>
      obtain ⟨k, tk, e, e2⟩ := a
      cases e2
      exact .cons ⟨tk, e⟩ (txt_vals b)
theorem strsAre_of' : ∀ {ys : List Str} {us : List Value}, Vals (ys.map V.str) us → StrsAre us ys
  | [], _, .nil => .nil
  | y :: ys, _, .cons r t => by
    obtain ⟨k, rfl⟩ := r
    exact .cons y k (strsAre_of' t)
section
variable {X : Cx}
/-- sorted(set(xs)), xs a list of texts -/
def tSS (K : PySem.W.Frag) (ta : TE) : TE := fun σ H Q => ta σ H fun x H1 => ∃ (l : Addr) (xs ys : List Str), x = .ref l ∧ SqL K H1 l (xs.map V.str) ∧ xs.length ≤ 1000 ∧ ys.Nodup ∧ (∀ k, k ∈ ys ↔ k ∈ xs) ∧ ((ys.map PyData.str).Pairwise fun a b => PySem.W.dataLt a b = true) ∧ ∀ p, H1 p = none → Q (.ref p) (upd H1 p (.lst (ys.map V.str)))
theorem pe_sortedSet {a : Expr} {ta : TE} {p p2 q pos : Pos} (hc : X.calm = true) (hu : X.A.units + 64 < cLine) (hg : Gl X "sorted") (hm : X.mg "sorted" = none) (hg2 : Gl X "set") (hm2 : X.mg "set" = none) (ha : PE X a ta)
    (na : starEach [a] X.env = (false, eval a X.env) :: starEach [] X.env := by rfl) (nb : starEach [.Call (.Name "set" p2) [a] [] q] X.env = (false, eval (.Call (.Name "set" p2) [a] [] q) X.env) :: starEach [] X.env := by rfl) : PE X (.Call (.Name "sorted" p) [.Call (.Name "set" p2) [a] [] q] [] pos) (tSS X.K ta) := by
  refine ⟨fun pins s σ H Q I h => ?_⟩
  refine Call_ (ld_blt I hg hm PyProof.Rows.boot_sorted ?_)
  refine PyProof.Rows.callWith_builtin1 (PyProof.Rows.args_cons ?_ nb) rfl rfl
  refine Call_ (ld_blt I hg2 hm2 boot_set ?_)
  refine PyProof.Rows.callWith_type1 (PyProof.Rows.args_cons (thn (ha.run pins s σ H _ I h) fun v s1 ⟨x, H1, I1, r1, q1⟩ => PyProof.Rows.args_nil ?_) na) na rfl
  obtain ⟨l, xs, ys, rfl, hq, hl, hyn, hym, hyp, q1⟩ := q1
  cases r1
  obtain ⟨its, r, pl, hz⟩ := I1.list hq
  refine txt_set (P := X.prog) (w := X.w) (I1.ok.hd hc) pl.isList (xs := xs) (by simpa using strsAre_of' r) (by unfold scanBound; omega) fun h' tk es ep t R hk => ?_
  refine PyProof.Rows.args_nil ?_
  have I2 : Inv X pins σ H1 { s1 with heap := h', toks := tk } := I1.kept hk
  obtain ⟨o, ho, hex, hd⟩ := R.ob
  refine Calls.call_function_entry PyProof.Rows.kind_sorted PyProof.Rows.plain_sorted PyProof.Rows.entry_sorted (PyProof.Rows.args_sorted1 _) ?_
  unfold Builtin.«sorted»
  refine wpAny_bind (m := checkCount "sorted" 1 1 _) (wpAny_pure ?_)
  refine wpAny_bind (collect_set (A := X.A.in1) (I1.ok.hd hc) ⟨o, ho, hex.1, hd⟩ R.fits R.room R.ris R.led fun s2 vs k1 hz2 g1 o1 pm => ?_)
  have hv : ∀ v, v ∈ vs → ∃ k tk, v = Value.str k tk := fun v hv => by
    obtain ⟨e, he, q⟩ := List.mem_map.mp (pm.mem_iff.mp hv)
    obtain ⟨k, tk, h1, _⟩ := R.good e he
    exact ⟨k, tk, by rw [← q]; exact h1⟩
  have pk : (vs.map txtV).Perm (es.toList.map txtOf) := by
    have := pm.map txtV
    rw [List.map_map] at this
    exact this
  have py : ys.Perm (vs.map txtV) := (List.perm_ext_iff_of_nodup hyn (pk.nodup_iff.mpr R.nd)).mpr fun k => by rw [hym k, pk.mem_iff, R.mem k]
  have hvl : vs.length < 4096 := by rw [pm.length_eq, List.length_map, Array.length_toList]; exact R.room
  have hE := txt_each hv
  have al : PySem.W.AllAlike (vs.map fun v => PyData.str (txtV v)) := fun d hd d2 hd2 => by
    obtain ⟨v, _, rfl⟩ := List.mem_map.mp hd
    obtain ⟨v2, _, rfl⟩ := List.mem_map.mp hd2
    simp [PySem.W.alike]
  have so : PySem.W.Sortable (vs.map fun v => PyData.str (txtV v)) := .inr fun d hd => by
    obtain ⟨v, _, rfl⟩ := List.mem_map.mp hd
    exact And.intro (fun z => by cases z) (fun xs z => by cases z)
  refine wpAny_bind (wpAny_newList ?_ (by rw [sizeLine_eq]; omega))
  have hoL : (s2.heap.push (seqObj "list" vs.toArray 0)).get? s2.heap.objs.size = some (seqObj "list" vs.toArray 0) := Heap.get?_push_size _ rfl
  have er : PySem.W.EachIs (fun v b => ∃ as, Reads (s2.heap.push (seqObj "list" vs.toArray 0)) v (_root_.id b) as ∧ s2.heap.objs.size ∉ as) vs (vs.map fun v => PyData.str (txtV v)) := hE.mono fun v d hvd => by
    obtain ⟨k, tk, rfl, rfl⟩ := hvd
    exact ⟨[], .str k tk, by simp⟩
  refine wpAny_bind (wpAny_holding (PySem.W.list_sort_data (R := TxtR) (enc := _root_.id) (bs := vs.map fun v => PyData.str (txtV v)) (s := { s2 with heap := s2.heap.push (seqObj "list" vs.toArray 0) }) hoL hE er (by rw [List.map_id]; exact al) (by rw [List.map_id]; exact so) (by rw [List.length_map, sizeLine_eq]; omega) (fun b hb => by
    obtain ⟨v, _, rfl⟩ := List.mem_map.mp hb
    show X.A.units + 1 + 1 + PyData.depth _ < cLine
    simp [PyData.depth]
    omega) fun out hlo eo => ?_))
  have eb : (vs.map fun v => PyData.str (txtV v)) = (vs.map txtV).map .str := by rw [List.map_map]; rfl
  rw [sorted_is (es := ys.map .str) (by rw [eb]; exact py.map _) hyp] at eo
  have rv := txt_vals eo
  obtain ⟨e', he'⟩ := PyProof.Rows.sortedHeap_at (vs := vs) (out := List.toArray out) hoL
  have hlen : (ys.map V.str).length ≤ sizeLine := by
    rw [List.length_map, py.length_eq, List.length_map, sizeLine_eq]
    omega
  refine wpAny_pure ⟨_, rfl, ?_⟩
  have hz3 : s1.heap.objs.size ≤ s2.heap.objs.size := Nat.le_trans (Nat.le_of_lt (Heap.lt_size ho)) hz2
  have hn : H1 s2.heap.objs.size = none := I1.hok.fresh hz3
  have kk : ∀ b u, h'.get? b = some u → (PyProof.Rows.sortedHeap (s2.heap.push (seqObj "list" vs.toArray 0)) s2.heap.objs.size vs (List.toArray out)).get? b = some u := fun b u e => by
    have e2 := k1 b u e
    have hb : b < s2.heap.objs.size := Heap.lt_size e2
    rw [PyProof.Rows.sortedHeap_old (Nat.ne_of_lt hb) (by rw [size_push']; exact Nat.lt_succ_of_lt hb)]
    exact Heap.get?_push_of_some _ e2
  have J : Inv X pins σ (upd H1 s2.heap.objs.size (.lst (ys.map V.str))) { s1 with heap := PyProof.Rows.sortedHeap (s2.heap.push (seqObj "list" vs.toArray 0)) s2.heap.objs.size vs (List.toArray out), gens := s2.gens, drawn := s2.drawn, toks := s2.toks } :=
    I1.call (ch := []) (Un.laid (fun b u e => kk b u (hk b u e)) hz3 hn) (I1.hok.laid (fun b u e => kk b u (hk b u e)) hz3 ⟨hlen, out, e', rv, he'⟩) (by rw [g1]; exact I1.bare) (fun _ z => nomatch z)
  have e : ({ s2 with heap := PyProof.Rows.sortedHeap (s2.heap.push (seqObj "list" vs.toArray 0)) s2.heap.objs.size vs (List.toArray out) } : Shared) = { s1 with heap := PyProof.Rows.sortedHeap (s2.heap.push (seqObj "list" vs.toArray 0)) s2.heap.objs.size vs (List.toArray out), gens := s2.gens, drawn := s2.drawn, toks := s2.toks } := by
    have o1' : s2.os = s1.os := o1
    rw [← o1']
  show EP X pins σ Q _ { s2 with heap := PyProof.Rows.sortedHeap (s2.heap.push (seqObj "list" vs.toArray 0)) s2.heap.objs.size vs (List.toArray out) }
  rw [e]
  exact ⟨.ref s2.heap.objs.size, _, J, rfl, q1 _ hn⟩
theorem xe_sortedSet {ρ : Rho} {a : Expr} {xs ys : List Str} {p p2 q pos : Pos} (hc : X.calm = true) (hu : X.A.units + 64 < cLine) (hm : X.mg "sorted" = none) (hm2 : X.mg "set" = none) (ha : XE X ρ a (.list (xs.map .str))) (hl : xs.length ≤ 1000) (h1 : ys.Nodup) (h2 : ∀ k, k ∈ ys ↔ k ∈ xs) (h3 : (ys.map PyData.str).Pairwise fun a b => PySem.W.dataLt a b = true)
    (hg : Gl X "sorted" := by rfl) (hg2 : Gl X "set" := by rfl) (na : starEach [a] X.env = (false, eval a X.env) :: starEach [] X.env := by rfl) (nb : starEach [.Call (.Name "set" p2) [a] [] q] X.env = (false, eval (.Call (.Name "set" p2) [a] [] q) X.env) :: starEach [] X.env := by rfl) : XE X ρ (.Call (.Name "sorted" p) [.Call (.Name "set" p2) [a] [] q] [] pos) (.list (ys.map .str)) :=
  xe_of (pe_sortedSet hc hu hg hm hg2 hm2 pE na nb) fun F σ H en li Q k => ha F σ H en li _ fun v H1 s1 r => by
    obtain ⟨l, ws, rfl, e1, e2⟩ := r.l
    rw [dpAll_strs e2] at e1
    refine ⟨l, xs, ys, rfl, Same.seq hid_le e1, hl, h1, h2, h3, fun t ht => k _ _ (s1.trans (same_upd ht)) ?_⟩
    exact .inl (.lst (.inl (.inl (by rw [hid_out ((li.mono s1).out ht)]; exact upd_same))) (dp_strs ys))
end
end DL
set_option Elab.async false
set_option linter.all false
set_option maxRecDepth 100000
set_option maxHeartbeats 4000000
/-! The law's loop over the two that may raise. -/
namespace DL
open PySem PySem.Spec PyProof.Rows L2
/-- a call of a local name that holds a def, which may raise -/
def tCallLS (i : Nat) (f : Addr) (sp : Sp) (E : L2.St → XK) (t : TA) : TE := fun σ H Q => σ[i]? = some (some (.ref f)) ∧ t σ H fun vs H1 => sp vs H1 Q (E σ)
section
variable {X : Cx} {CX : CXT} {k i : Nat} {f : Addr} {fd : FuncData} {ps : List Str} {sp : Sp} {E : L2.St → XK} {x : Str} {p pos : Pos} {e : Expr} {es : List Expr} {t : TA}
theorem pe_callLS (F : FnOk X.prog X.w X.K X.mg X.base CX k f fd ps sp) (hr : Room k X.A) (hN : X.N[i]? = some x) (hv : Vis X.env.scope x) (hk : PySem.W.keepIn X.K (.ref f) = true) (hb : Binds X.K fd ps []) (hx : ∀ σ, PassesAt CX X σ (E σ)) (ha : PA X (e :: es) t)
    (hdb : (x == ("__debug__" : Str)) = false := by decide) (hcd : (x == ("__classdict__" : Str)) = false := by decide)
    (he : starEach (e :: es) X.env = (false, eval e X.env) :: starEach es X.env := by rfl) (hpl : (backTo pos (starEach es X.env)).any (·.1) = false := by rfl) : PE X (.Call (.Name x p) (e :: es) [] pos) (tCallLS i f sp E t) := by
  refine ⟨fun pins s σ H Q I h => ?_⟩
  obtain ⟨hs, ht⟩ := h
  refine wpAny_Call_Name_kw (thn ((pe_var (pos := p) hN hv hdb hcd).run pins s σ H (fun v H1 => v = .ref f ∧ H1 = H) I ⟨.ref f, hs, rfl, rfl⟩) fun u s1 ⟨v, H1, I1, r1, q1⟩ => ?_)
  obtain ⟨rfl, rfl⟩ := q1
  cases r1
  refine PySem.W.callWith_K (h₀ := X.base) I.ok.mod.kin hk (thn (ha.run pos pins s1 σ _ _ I1 ht) fun us s2 ⟨vs, H2, I2, r, q⟩ => ⟨I2.kIn, ?_⟩) he hpl
  exact run_fnS F hr hb (hx σ) I2 r q
end
section
variable {K : PySem.W.Frag} {F : List Addr} {H0 H : Hp} {ρ ρ' : Rho} {σ : L2.St} {i : Nat} {l : Addr} {ds : List D} {v : V} {d : D} {vs : List V}
theorem Stt.app (s : Stt K F H0 ρ (.lst i l ds) σ H) (hv : H l = some (.lst vs)) (r : Dp K (hid (l :: F) H) v d) : Stt K F H0 ρ (.lst i l (ds ++ [d])) σ (upd H l (.lst (vs ++ [v]))) := by
  obtain ⟨h1, h2, vs', h3, h4⟩ := s.own
  rw [hv] at h3
  cases h3
  have hid' : hid (l :: F) (upd H l (.lst (vs ++ [v]))) = hid (l :: F) H := by
    funext a
    by_cases m : a ∈ l :: F
    · rw [hid_in m, hid_in m]
    · rw [hid_out m, hid_out m, upd_ne fun z => m (by simp [z])]
  refine ⟨?_, fun x u n q => ?_, fun a m => ?_, h1, h2, vs ++ [v], upd_same, ?_⟩
  · have e1 : EnvOk K (l :: F) H σ ρ := s.env
    exact ⟨e1.len, fun i d q => by
      obtain ⟨u, g1, g2⟩ := e1.at_ i d q
      refine ⟨u, g1, ?_⟩
      show Rp K (hid (l :: F) (upd H l (.lst (vs ++ [v])))) u d
      rw [hid']; exact g2⟩
  · rw [upd_ne (by simpa [Own.ads] using n)]
    exact s.same x u n q
  · rw [upd_ne (show a ≠ l from fun z => h1 (by rw [← z]; exact m))]
    exact s.live a m
  · rw [hid']
    exact DpAll.append h4 (DpAll.one r)
end
/-- what one of the two gives: its answer, or where the first clash is -/
def Outc (R : List D → D → Prop) (RX : List D → Int → Int → Prop) (ds : List D) (d : D) : Prop := (R ds d ∧ isDict d = false) ∨ ∃ i j : Int, RX ds i j ∧ d = .tuple [.int i, .int j]
section
variable {X : Cx} {F : List Addr} {H0 : Hp} {ρ : Rho} {Dn : Ends} {sts : List Stmt} {C fI f : Addr} {k : Nat} {R : List D → D → Prop} {RX : List D → Int → Int → Prop}
end
abbrev sLaw : Stmt := topS 56
abbrev lawN : List Str := ["_law_script", "_law_row", "_law_company_here", "_law_lots", "_law_kinds", "_law_pairs_here", "_law_found", "_law_work", "e", "_law_some", "_law_sets_here", "_law_whole", "_law_told", "_law_pair", "_law_lot"]
theorem scLaw : FnScope lawN ["_law_script"] (defScope sLaw) := ⟨rfl, rfl, rfl, by decide +kernel, rfl, by decide +kernel, by decide +kernel⟩
def forBody : Stmt → List Stmt
  | .For _ _ b .. => b
  | _ => []
abbrev workS : Stmt := (defBody sLaw).getD 9 (.Pass ⟨0, 0, 0, 0⟩)
section
variable {P : Program} {w : World} {K : PySem.W.Frag} {mg : Str → Option Value} {base : Heap} {f C fI g : Addr} {fd : FuncData} {k : Nat} {cdv : Value} {A : Around} {outer : List Env} {s0 : Shared} {Hs : Hp} {E : XK}
abbrev lawX (P : Program) (w : World) (K : PySem.W.Frag) (mg : Str → Option Value) (base : Heap) (f : Addr) (cdv : Value) (A : Around) (outer : List Env) (s0 : Shared) (Hs : Hp) (E : XK) : Cx := (cxOf CX0 P w K mg base lawN "law" (defScope sLaw) f cdv A outer s0 Hs E).nox
theorem try_turn {n : Str} {R : List D → D → Prop} {RX : List D → Int → Int → Prop} {F : List Addr} {H0 H : Hp} {ρ : Rho} {σ : L2.St} {l : Addr} {ds : List D} {x y d : D} {Dn : Ends} (N : NcC K mg C fI) (Cc : CalleeX P w K mg base C k n g R RX) (hr : Room k (A.deeper (envOfC "law" (defScope sLaw) s0.heap.objs.size f cdv)))
    (s : Stt K F H0 ρ (.lst 6 l ds) σ H) (h7 : σ[7]? = some (some (.ref g))) (hx : ρ[2]? = some (some x)) (hy : ρ[4]? = some (some y)) (h8 : ρ[8]? = some none) (ho : Outc R RX [x, y] d) (hz : ds.length < 100000)
    (q : ∀ σ' H', Stt K F H0 ρ (.lst 6 l (ds ++ [d])) σ' H' → Dn.nx σ' H') : cSs (lawX P w K mg base f cdv A outer s0 Hs E) (forBody workS) Dn σ H := by
  obtain ⟨fd, ps, G, hb⟩ := Cc.ex
  refine cSs_of (pss_one (ps_try_as (i := 8) (n := "e") (x := "NotCommuting") (c := .ref C) (Wout := fun _ _ _ _ => False) (ts := fun a cls d => tDrop (tBM K "list" rAppend (tVar 6) (tCons (tTup (tCons (tXf a cls d C "one" (tVar 8)) (tCons (tXf a cls d C "other" (tVar 8)) tNil))) tNil)))
    (tb := fun W => tDrop (tBM K "list" rAppend (tVar 6) (tCons (tCallLS 7 g (spDX K C R RX) (WE W) (tCons (tVar 2) (tCons (tVar 4) tNil))) tNil))) rfl rfl scLaw.nd rfl rfl ⟨rfl, by decide, .inl N.gC⟩ takes0
    (fun W pn xe tk _ => pss_one (ps_expr (pe_bm PySem.F.plainAttrs_list PySem.F.slot_list_append PySem.F.type_list_append mt_append (pv 6) (by exact (pa_cons (pe_callLS G hr rfl (.inl rfl) Cc.hk hb (fun σ => passAt tk σ) (pa_cons (pv 2) (pa_cons (pv 4) pa_nil))) pa_nil)))))
    (fun a oe cls d pn hz hf => pss_one (ps_expr (pe_bm PySem.F.plainAttrs_list PySem.F.slot_list_append PySem.F.type_list_append mt_append (pv 6) (by exact (pa_cons (pe_tup (pa_cons (pe_xf N.X N.n1 hz hf (pv 8)) (pa_cons (pe_xf N.X N.n2 hz hf (pv 8)) pa_nil))) pa_nil))))))) ?_
  obtain ⟨g1, g2, vs, g3, g4⟩ := s.own
  obtain ⟨v2, e2, r2⟩ := s.env.at_ 2 x hx
  obtain ⟨v4, e4, r4⟩ := s.env.at_ 4 y hy
  have hlen : vs.length < sizeLine := by rw [DpAll.length g4]; exact Nat.lt_of_lt_of_le hz (by decide)
  refine ⟨.ref l, g2, .inl ⟨rfl, vs, .inl (.inl g3)⟩, h7, v2, e2, v4, e4, [x, y], l :: F, .cons r2 (.cons r4 .nil), s.lives, ?_⟩
  rcases ho with ⟨hR, hd⟩ | ⟨i, j, hR, rfl⟩
  · exact .inl ⟨d, hR, fun v H' s1 r => ⟨l, vs, v, rfl, rfl, s1 l _ g3, hlen, q _ _ ((s.grow s1).app (s1 l _ g3) (r.dp hd))⟩⟩
  · refine .inr ⟨i, j, hR, fun dd H' s1 hd ⟨fs, f1, f2, f3⟩ => ⟨true, N.ex, fun _ a ha => ?_, fun z => nomatch z⟩⟩
    have l8 : 8 < σ.length := by rw [s.env.len]; exact (List.getElem?_eq_some_iff.mp h8).1
    have a8 : (σ.set 8 (some (V.ref a)))[8]? = some (some (.ref a)) := List.getElem?_set_self l8
    have a6 : (σ.set 8 (some (V.ref a)))[6]? = some (some (.ref l)) := by rw [List.getElem?_set_ne (by decide)]; exact g2
    refine ⟨.ref l, a6, .inl ⟨rfl, vs, .inl (.inl (s1 l _ g3))⟩, .ref a, a8, rfl, rfl, dd, fs, .int i, rfl, f1, f2, .ref a, a8, rfl, rfl, dd, fs, .int j, rfl, f1, f3, by show 2 ≤ sizeLine; decide, fun p hp => ?_⟩
    have s2 := s1.trans (same_upd (o := HO.tup [.int i, .int j]) hp)
    refine ⟨l, vs, .ref p, rfl, rfl, s2 l _ g3, hlen, q _ _ ?_⟩
    have st := (s.grow s2).app (v := .ref p) (d := .tuple [.int i, .int j]) (s2 l _ g3) (.tup (.inl (.inl (by
      rw [hid_out (fun m => ?_), upd_same]
      exact (s.lives.mono s1) p m hp))) (.cons (.int i) (.cons (.int j) .nil)))
    have env2 := EnvOk.setN (i := 8) (v := none) (EnvOk.setN (i := 8) (v := some (.ref a)) st.env)
    refine ⟨env2.weak (by rw [List.length_set, List.length_set]) fun k d hk => ?_, st.same, st.live, st.own.slots fun k hk => ?_⟩
    · by_cases z : 8 = k
      · rw [← z, h8] at hk; cases hk
      · rw [List.getElem?_set_ne z, List.getElem?_set_ne z]; exact hk
    · have : k = 6 := (Option.some.inj hk).symm
      subst this
      rw [List.getElem?_set_ne (by decide), List.getElem?_set_ne (by decide)]
theorem Stt.put {K : PySem.W.Frag} {F : List Addr} {H0 H : Hp} {ρ : Rho} {σ : L2.St} {o : Own} {j : Nat} {v : Option V} (s : Stt K F H0 ρ o σ H) (hρ : ρ[j]? = some none) (ho : o.slot ≠ some j) : Stt K F H0 ρ o (σ.set j v) H :=
  ⟨(EnvOk.setN (i := j) (v := v) s.env).weak (by rw [List.length_set]) fun k d hk => by
    by_cases z : j = k
    · rw [← z, hρ] at hk; cases hk
    · rw [List.getElem?_set_ne z]; exact hk, s.same, s.live, s.own.slots fun k hk => by rw [List.getElem?_set_ne fun z => ho (by rw [hk, z])]⟩
theorem sx_work {f1 f2 : Addr} {k1 k2 kl : Nat} {R1 R2 : List D → D → Prop} {RX : List D → Int → Int → Prop} {F : List Addr} {H0 : Hp} {ρ : Rho} {l : Addr} {x y d1 d2 : D} {Dn : Ends} {sts : List Stmt} (N : NcC K mg C fI) (C1 : CalleeX P w K mg base C k1 "greatest_lot" f1 R1 RX) (C2 : CalleeX P w K mg base C k2 "how_many_with" f2 R2 RX)
    (hr : Room kl (A.deeper (envOfC "law" (defScope sLaw) s0.heap.objs.size f cdv))) (h1 : k1 ≤ kl) (h2 : k2 ≤ kl) (hx : ρ[2]? = some (some x)) (hy : ρ[4]? = some (some y)) (h7 : ρ[7]? = some none) (h8 : ρ[8]? = some none) (o1 : Outc R1 RX [x, y] d1) (o2 : Outc R2 RX [x, y] d2)
    (h : SX (lawX P w K mg base f cdv A outer s0 Hs E) F H0 ρ (.lst 6 l [d1, d2]) sts Dn) : SX (lawX P w K mg base f cdv A outer s0 Hs E) F H0 ρ (.lst 6 l []) (workS :: sts) Dn := fun σ H s => by
  refine cSs_cons (ps_for (X := lawX P w K mg base f cdv A outer s0 Hs E) PassesOwn.never rfl (pi_list (pe_lst (pa_cons (pe_glob (v := .ref f1) rfl C1.hm rfl) (pa_cons (pe_glob (v := .ref f2) rfl C2.hm rfl) pa_nil)))) (pg_name (i := 7) scLaw.nd rfl (.inl rfl)) pSs (by intro _; rfl)) ?_
  refine ⟨by show 2 ≤ sizeLine; decide, fun p hp => ⟨p, rfl, ⟨_, .inl (.inl upd_same)⟩, ?_⟩⟩
  have s1 := same_upd (o := HO.lst [V.ref f1, V.ref f2]) hp
  obtain ⟨g1, g2, vs, g3, g4⟩ := id s.own
  have npl : p ≠ l := fun z => by rw [z, g3] at hp; cases hp
  have st := (s.grow s1).rebase
  have l7 : ∀ {σ' : L2.St} {H' : Hp} {o : Own}, Stt K F (upd H p (.lst [V.ref f1, V.ref f2])) ρ o σ' H' → 7 < σ'.length := fun s => by rw [s.env.len]; exact (List.getElem?_eq_some_iff.mp h7).1
  refine for_list (K := K) (a := p) (xs := [V.ref f1, V.ref f2]) (fun i σ' H' => Stt K F (upd H p (.lst [V.ref f1, V.ref f2])) ρ (.lst 6 l ([d1, d2].take i)) σ' H') st (fun i σ' H' _ s' => .inl (.inl (s'.same p _ (by simpa [Own.ads] using npl) upd_same))) (fun i v σ' H' hi s' => ?_) (fun σ' H' s' => ?_)
  · match i, hi with
    | 0, hi =>
      cases hi
      exact try_turn N C1 (hr.mono h1) (s'.put (j := 7) (v := some (.ref f1)) h7 (by intro z; cases z)) (List.getElem?_set_self (l7 s')) hx hy h8 o1 (by show 0 < 100000; decide) fun σ2 H2 s2 => s2
    | 1, hi =>
      cases hi
      exact try_turn N C2 (hr.mono h2) (s'.put (j := 7) (v := some (.ref f2)) h7 (by intro z; cases z)) (List.getElem?_set_self (l7 s')) hx hy h8 o2 (by show 1 < 100000; decide) fun σ2 H2 s2 => s2
    | i + 2, hi => cases hi
  · exact h σ' H' (s'.back fun a u na e => s1 a u (s.same a u na e))
end
end DL
set_option Elab.async false
set_option linter.all false
set_option maxRecDepth 100000
set_option maxHeartbeats 4000000
namespace DL
open PySem PySem.Spec PyProof.Rows L2
/-! ### lots, sorted -/
def lotLt : List Nat → List Nat → Bool
  | [], [] => false
  | [], _ :: _ => true
  | _ :: _, [] => false
  | x :: xs, y :: ys => if x = y then lotLt xs ys else decide (rk x < rk y)
def insL (x : List Nat) : List (List Nat) → List (List Nat)
  | [] => [x]
  | y :: r => if lotLt y x = true then y :: insL x r else x :: y :: r
def sLots (c : Co) : List (List Nat) := (lotsN c).foldr insL []
def holds (ks : List (Nat × Nat)) (l : List Nat) : Bool := (ks.filter fun k => !decide (k.1 ∈ l)).isEmpty
structure CF (c : Co) : Prop where
  s1 : Srt ((lotsN c).map lotD) ((sLots c).map lotD)
  s2 : Srt ((basesN c (rankN c / 2)).map fun b => lotD (isort rk b)) ((sLots c).map lotD)
  hd : (sLots c)[0]? = some (isort rk (firstN c))
  sz : 2 * (isort rk (firstN c)).length = 2 <<< (c.n - rankN c / 2)
  cnt : (sLots c).length = prodN (rankN c / 2)
  len : (sLots c).length ≤ 100
  lt : ∀ l, l ∈ sLots c → (∀ m, m ∈ l → m < 16) ∧ l.length ≤ 16
  sg : ∀ a, a < 16 → ∀ b, b < 16 → signN c a b = btw c a b
structure KF (c : Co) (ks : List (Nat × Nat)) : Prop where
  u : ∃ u, (∀ i, i < u → szN c <<< i < (baseN c ks).length) ∧ (baseN c ks).length ≤ szN c <<< u ∧ u ≤ rankN c / 2 ∧ prodN (rankN c / 2 - u) = ((sLots c).filter (holds ks)).length
  nd : (growN c (ks.map (·.1))).Nodup
  lt : ∀ m, m ∈ growN c (ks.map (·.1)) → m < 1 <<< c.n
  sz : 2 * (growN c (ks.map (·.1))).length = 2 <<< (c.n - rankN c / 2)
  co : ∀ a, a ∈ growN c (ks.map (·.1)) → ∀ b, b ∈ growN c (ks.map (·.1)) → btw c a b = 0
  mem : isort rk (growN c (ks.map (·.1))) ∈ sLots c
  has : ∀ k, k ∈ ks → k.1 ∈ growN c (ks.map (·.1))
/-! ### the first clash -/
def fP (c : Co) (ks : List (Nat × Nat)) (p : Nat × Nat) : Bool := signN c (ks.getD p.1 (0, 0)).1 (ks.getD p.2 (0, 0)).1 == 1
def clD : List (Nat × Nat) → D
  | [] => .none
  | p :: _ => encP p
theorem pairsL_lex : ∀ n, n < 4 → (pairsL n).Pairwise (fun p q => p.1 < q.1 ∨ (p.1 = q.1 ∧ p.2 < q.2)) := by decide +kernel
theorem pairsL_mem {n : Nat} {p : Nat × Nat} : p ∈ pairsL n ↔ p.1 < p.2 ∧ p.2 < n := by
  unfold pairsL
  rw [List.mem_flatMap]
  constructor
  · rintro ⟨i, hi, h⟩
    obtain ⟨j, hj, rfl⟩ := List.mem_map.mp h
    have h1 := List.mem_range.mp hi
    have h2 := List.mem_range.mp hj
    exact ⟨by show i < i + 1 + j; omega, by show i + 1 + j < n; omega⟩
  · rintro ⟨h1, h2⟩
    exact ⟨p.1, List.mem_range.mpr (by omega), List.mem_map.mpr ⟨p.2 - (p.1 + 1), List.mem_range.mpr (by omega), Prod.ext rfl (by show p.1 + 1 + (p.2 - (p.1 + 1)) = p.2; omega)⟩⟩
theorem clash_fact {c : Co} {ks : List (Nat × Nat)} (hsg : ∀ a, a < 16 → ∀ b, b < 16 → signN c a b = btw c a b) (hk : ∀ k, k ∈ ks → k.1 < 16) (hl : ks.length < 4) : Clash c ks (clD ((pairsL ks.length).filter (fP c ks))) := by
  have g16 : ∀ i, (ks.getD i (0, 0)).1 < 16 := fun i => by
    by_cases h : i < ks.length
    · rw [List.getD_eq_getElem?_getD, List.getElem?_eq_getElem h]; exact hk _ (List.getElem_mem h)
    · rw [List.getD_eq_getElem?_getD, List.getElem?_eq_none (by omega)]; show 0 < 16; decide
  have ef : ∀ p, fP c ks p = cl c ks p.1 p.2 := fun p => by unfold fP cl; rw [hsg _ (g16 _) _ (g16 _)]
  have mf : ∀ p, p ∈ (pairsL ks.length).filter (fP c ks) ↔ (p.1 < p.2 ∧ p.2 < ks.length) ∧ cl c ks p.1 p.2 = true := fun p => by rw [List.mem_filter, pairsL_mem, ef]
  have lx := (pairsL_lex ks.length hl).filter (fP c ks)
  cases h : (pairsL ks.length).filter (fP c ks) with
  | nil =>
    refine .no fun i j h1 h2 => ?_
    cases q : cl c ks i j with
    | false => rfl
    | true =>
      have := (mf (i, j)).mpr ⟨⟨h1, h2⟩, q⟩
      rw [h] at this; cases this
  | cons p r =>
    rw [h] at lx
    have hp := (mf p).mp (by rw [h]; exact List.mem_cons_self)
    refine .yes p.1 p.2 hp.1.1 hp.1.2 hp.2 fun i j h1 h2 h3 => ?_
    cases q : cl c ks i j with
    | false => rfl
    | true =>
      have hm := (mf (i, j)).mpr ⟨⟨h1, h2⟩, q⟩
      rw [h] at hm
      rcases List.mem_cons.mp hm with e | hm
      · have e1 : i = p.1 := congrArg Prod.fst e
        have e2 : j = p.2 := congrArg Prod.snd e
        omega
      · have := (List.pairwise_cons.mp lx).1 _ hm
        have h3' : i < p.1 ∨ (i = p.1 ∧ j < p.2) := h3
        simp only at this
        omega
theorem eqv_nilG (ds : List D) : PyData.eqv (.list ds) (.list []) = ds.isEmpty := by
  cases ds with
  | nil => simp [PyData.eqv, PyData.eqvAll]
  | cons a l => simp [PyData.eqv, PyData.eqvAll]
/-! ### the law -/
def spLaw (K : PySem.W.Frag) : Sp := fun vs H Q _ => ∃ (a : Addr) (ns : List Int), vs = [.ref a] ∧ SqL K H a (ns.map V.int) ∧ ∀ H', Q (.bl true) H'
section
variable {X : Cx} {F : List Addr} {H0 : Hp} {i : Nat} {r : Addr} {L : List Int} {ρ ρ' : Rho} {Dn : Ends} {sts : List Stmt} {p q s : Int}
theorem sx_toR (h : SR X [r] H0 i r L ρ .no sts Dn) (hp : 0 ≤ p) (hq : 0 ≤ q) (hq2 : q < 2147483647) : SX X [] H0 ρ (.lst i r (rowD L p q s)) sts Dn := fun σ H st => by
  obtain ⟨h1, h2, vs, h3, h4⟩ := st.own
  refine h σ H ⟨st.env, fun x u n1 _ e => st.same x u (by simpa [Own.ads] using n1) e, trivial, List.mem_cons_self, h2, fun a m => ?_, vs, p, q, s, h3, h4, hp, hq, hq2⟩
  rw [List.mem_singleton.mp m]; exact ⟨_, h3, fun _ z => nomatch z⟩
theorem sr_toX (hr : H0 r = none) (h : SX X [r] H0 ρ .no sts Dn) : SR X [r] H0 i r L ρ .no sts Dn := fun σ H st =>
  h σ H ⟨st.env, fun x u _ e => st.same x u (fun z => by rw [z, hr] at e; cases e) (by simp [Own.ads]) e, st.row.1.live, trivial⟩
end
end DL
set_option Elab.async false
set_option linter.all false
set_option maxRecDepth 100000
set_option maxHeartbeats 8000000
namespace DL
open PySem PySem.Spec PyProof.Rows L2
theorem alk_str {m : Nat} (n : Nat) (h : m < 16) : Alk n (.str (lt m)) := .str n _ (lt_lay m h)
theorem alk_lot {l : List Nat} (n : Nat) (h : (∀ m, m ∈ l → m < 16) ∧ l.length ≤ 16) : Alk (n + 1) (lotD l) := .tup n _ (fun d hd => by
  obtain ⟨m, hm, rfl⟩ := List.mem_map.mp hd
  exact alk_str n (h.1 m hm)) (by unfold ltD; rw [List.length_map]; omega)
theorem alk_pair (n : Nat) (i j : Int) : Alk (n + 1) (.tuple [.int i, .int j]) := .tup n _ (fun d hd => by
  rcases List.mem_cons.mp hd with e | hd
  · rw [e]; exact .int n i
  · rw [List.mem_singleton.mp hd]; exact .int n j) (by show 2 ≤ 1000; decide)
theorem alk_clD (n : Nat) (ps : List (Nat × Nat)) : Alk (n + 1) (clD ps) := by
  cases ps with
  | nil => exact .non _
  | cons p r => exact alk_pair n _ _
theorem getD_at {ks : List (Nat × Nat)} {i : Nat} (h : i < ks.length) : ks[i]? = some (ks.getD i (0, 0)) := get_getD ks i (0, 0) h
theorem at_hd (p : Nat × Nat) (rest : List (Nat × Nat)) : atI ((p :: rest).map encP) 0 = some (encP p) := atI_map (i := 0) (xs := p :: rest) rfl
theorem lt_dec {a b : Nat} (ha : a < 16) (hb : b < 16) : (lt a = lt b) = (a = b) := propext ⟨lt_inj a ha b hb, fun e => by rw [e]⟩
theorem lt_in_map {a : Nat} {l : List Nat} (ha : a < 16) (hl : ∀ m, m ∈ l → m < 16) : decide (lt a ∈ l.map lt) = decide (a ∈ l) := by
  refine decide_eq_decide.mpr ⟨fun h => ?_, fun h => List.mem_map.mpr ⟨a, h, rfl⟩⟩
  obtain ⟨b, hb, e⟩ := List.mem_map.mp h
  rw [← lt_inj b (hl b hb) a ha e]; exact hb
theorem ltD_map (l : List Nat) : ltD l = (l.map lt).map .str := by unfold ltD; rw [List.map_map]; rfl
theorem lot_lay {l : List Nat} (h : ∀ m, m ∈ l → m < 16) : (lotD l).canLay0 = true ∧ (lotD l).depth ≤ 60 := by
  refine ⟨layAll fun d hd => (ltD_shaped h d hd).1, ?_⟩
  have := depAll (ds := ltD l) (n := 1) fun d hd => by
    obtain ⟨m, _, rfl⟩ := List.mem_map.mp hd
    simp [PyData.depth]
  show (PyData.tuple (ltD l)).depth ≤ 60
  simp [PyData.depth]
  omega
section
variable {P : Program} {w : World} {K : PySem.W.Frag} {mg : Str → Option Value} {base : Heap} {f C fI fG fM : Addr} {fd : FuncData} {k : Nat}
structure LawCal (P : Program) (w : World) (K : PySem.W.Frag) (mg : Str → Option Value) (base : Heap) (C fI fG fM : Addr) : Prop where
  nm : Nm mg
  nc : NcC K mg C fI
  taken : CalleeR P w K mg base 1 "_law_taken" Rtaken
  company : CalleeR P w K mg base 2 "_law_company" RlCompany
  pick : CalleeR P w K mg base 2 "_law_pick" Rpick
  kinds : CalleeR P w K mg base 3 "_law_drawn_kinds" RdKinds
  lots : Callee P w K mg base 3 "_law_lots_of" RlLots
  alike : ∀ n, Callee P w K mg base (n + 1) "_law_alike" (RlAlike n)
  pairs : Callee P w K mg base 1 "_law_pairs" RlPairs
  sign : Callee P w K mg base 2 "_law_sign" RlSign
  size : Callee P w K mg base 4 "greatest_size" RgSize
  count : Callee P w K mg base 4 "count_greatest" RgCount
  glots : Callee P w K mg base 5 "greatest_lots" RgLots
  first : Callee P w K mg base 4 "first_lot" RfirstLot
  clash : Callee P w K mg base 5 "clash" RclashOf
  isg : Callee P w K mg base 4 "is_greatest" RisGreatest
  glot : CalleeX P w K mg base C 6 "greatest_lot" fG RgLot XneedComm
  many : CalleeX P w K mg base C 6 "how_many_with" fM RhowMany XneedComm
theorem ok_law (F : Fun K "law" "law" sLaw f fd) (Z : LawCal P w K mg base C fI fG fM) (hCF : ∀ c, c ∈ comps → CF c) (hKF : ∀ c ks, c ∈ comps → (∀ k, k ∈ ks → KindOk c k) → ks.length ≤ 3 → Clash c ks .none → KF c ks) :
    FnOk P w K mg base CX0 7 f fd ["_law_script"] (spLaw K) := by
  refine F.ok scLaw (fun vs H Q E h => ?_) fun cdv A outer s H vs Q E hr h => ?_
  · obtain ⟨a, ns, rfl, _⟩ := h; rfl
  obtain ⟨a, L, rfl, hS, hQ⟩ := h
  refine ⟨_, pSs, ?_⟩
  have M := Z.nm
  have hr1 := hr.mono (show 1 ≤ 6 by decide)
  have hr2 := hr.mono (show 2 ≤ 6 by decide)
  have hr3 := hr.mono (show 3 ≤ 6 by decide)
  have hr4 := hr.mono (show 4 ≤ 6 by decide)
  have hr5 := hr.mono (show 5 ≤ 6 by decide)
  have body : SX (lawX P w K mg base f cdv A outer s H E) [] H [some (.list (L.map .int)), none, none, none, none, none, none, none, none, none, none, none, none, none, none] .no (defBody sLaw) { nx := fun _ H' => Q .non H', rt := Q } := by
    refine sx_own 1 scLaw.nd (ds := rowD L 0 7623 0) (xn_lst (xa_cons (xe_var 0) (xa_cons (xe_int (i := 0)) (xa_cons (xe_int (i := 7623)) (xa_cons (xe_int (i := 0)) xa_nil)))) (hl := by show 4 ≤ 1000; decide)) fun r hr0 => ?_
    refine sx_toR ?_ (by decide) (by decide) (by decide)
    refine sr_set (Pd := fun d => ∃ c, c ∈ comps ∧ d = encC c) 2 scLaw.nd (xr_callR (Pb := fun d => ∃ m : Nat, 2 ≤ m ∧ m ≤ 4 ∧ d = .int (m : Int)) Z.company hr2 rfl (xr_call Z.pick hr2 rfl (xa1 (xe_lst (ds := [.int 2, .int 3, .int 4]) (xa3 xe_int xe_int xe_int))) ⟨[.int 2, .int 3, .int 4], by simp, by simp, rfl, fun d hd => by
        simp at hd
        rcases hd with rfl | rfl | rfl
        · exact ⟨2, by decide, by decide, rfl⟩
        · exact ⟨3, by decide, by decide, rfl⟩
        · exact ⟨4, by decide, by decide, rfl⟩⟩) (by
      rintro d ⟨m, h1, h2, rfl⟩
      exact ⟨m, h1, h2, rfl, fun c hc => ⟨c, hc, rfl⟩⟩)) (fun d hd => ?_)
    obtain ⟨c, hc, rfl⟩ := hd
    have cf := hCF c hc
    have g := good_of hc
    have n4 := g.n4
    have hpow := pow16 g
    refine sr_set (Pd := fun d => d = .list ((sLots c).map lotD)) 3 scLaw.nd (xr_of (xe_sorted hr.units M.sorted (xe_call Z.lots hr3 (xa1 (xe_var 2)) ⟨c, hc, rfl, rfl⟩) cf.s1) rfl) (fun d hd => ?_)
    subst hd
    have h0 : (sLots c)[0]? = some (isort rk (firstN c)) := cf.hd
    have hmem0 := List.mem_of_getElem? h0
    have lt0 := cf.lt _ hmem0
    have at0 : atI ((sLots c).map lotD) 0 = some (lotD (isort rk (firstN c))) := atI_map (i := 0) h0
    have hl100 := cf.len
    refine sr_if (k := false) (xt_is (xt_not (xt_val (xe_call (Z.alike 1) hr2 (xa2 (xe_lst (ds := [.int ((2 <<< (c.n - rankN c / 2) : Nat) : Int), .int (prodN (rankN c / 2) : Int)]) (xa2 (xe_call Z.size hr4 (xa1 (xe_var 2)) ⟨c, hc, rfl, rfl⟩) (xe_call Z.count hr4 (xa1 (xe_var 2)) ⟨c, hc, rfl, rfl⟩)))
      (xe_lst (ds := [.int ((2 <<< (c.n - rankN c / 2) : Nat) : Int), .int (prodN (rankN c / 2) : Int)]) (xa2 (xe_is (xe_mulN (i := 2) (j := (isort rk (firstN c)).length) xe_int (xe_is (xe_lenT (ds := ltD (isort rk (firstN c))) M.len (xe_ixL (xe_var 3) xe_int at0)) (by unfold ltD; rw [List.length_map])) (by decide)) (by rw [cf.sz])) (xe_is (xe_lenL M.len (xe_var 3)) (by rw [List.length_map, cf.cnt])))))
      ⟨_, .list 0 _ (fun d hd => by
        rcases List.mem_cons.mp hd with e | hd
        · rw [e]; exact .int 0 _
        · rw [List.mem_singleton.mp hd]; exact .int 0 _) (by show 2 ≤ 1000; decide), rfl, rfl⟩))) rfl) (fun z => nomatch z) (fun _ => sr_k ?_)
    refine sr_if (k := false) (xt_is (xt_not (xt_val (xe_call (Z.alike 3) hr4 (xa2 (xe_lst (ds := [.list ((sLots c).map lotD), lotD (isort rk (firstN c))]) (xa2 (xe_call Z.glots hr5 (xa1 (xe_var 2)) ⟨c, _, hc, cf.s2, rfl, rfl⟩) (xe_call Z.first hr4 (xa1 (xe_var 2)) ⟨c, hc, rfl, rfl⟩)))
      (xe_lst (ds := [.list ((sLots c).map lotD), lotD (isort rk (firstN c))]) (xa2 (xe_var 3) (xe_ixL (xe_var 3) xe_int at0))))
      ⟨_, .list 2 _ (fun d hd => by
        rcases List.mem_cons.mp hd with e | hd
        · rw [e]; exact .list 1 _ (fun x hx => by
            obtain ⟨l, hl, rfl⟩ := List.mem_map.mp hx
            exact alk_lot 0 (cf.lt l hl)) (by rw [List.length_map]; omega)
        · rw [List.mem_singleton.mp hd]; exact alk_lot 1 lt0) (by show 2 ≤ 1000; decide), rfl, rfl⟩))) rfl) (fun z => nomatch z) (fun _ => sr_k ?_)
    refine sr_set (Pd := fun d => ∃ ks : List (Nat × Nat), (∀ k, k ∈ ks → KindOk c k) ∧ ks.length ≤ 3 ∧ d = .tuple (ks.map encK)) 4 scLaw.nd (xr_call Z.kinds hr3 rfl (xa2 (xe_var 2) (xe_int (i := 3))) ⟨c, 3, hc, by decide, rfl, fun ks h1 h2 => ⟨ks, h1, h2, rfl⟩⟩) (fun d hd => ?_)
    obtain ⟨ks, hk, hkl, rfl⟩ := hd
    have k16 : ∀ k, k ∈ ks → k.1 < 16 := fun k h => (hk k h).l16 g
    refine sr_toX hr0 ?_
    have hcl := clash_fact cf.sg k16 (show ks.length < 4 by omega)
    refine sx_setLc (ds := ((pairsL ks.length).filter (fP c ks)).map encP) 5 (xlc_lcif (xs := pairsL ks.length) (enc := encP) (f := fP c ks) (h := encP) 13 scLaw.nd (xi_list (xe_call Z.pairs hr1 (xa1 (xe_is (xe_lenT M.len (xe_var 4)) (by rw [List.length_map]))) ⟨ks.length, by omega, rfl, rfl⟩)) (blkOk_by (N := lawN) (sc := defScope sLaw) (by decide +kernel))
      (fun _ _ _ _ _ p hp => ?_) (fun _ _ _ _ _ p hp _ => xe_var 13) ?_) ?_ (ho := by intro z; cases z)
    · have hp' := pairsL_mem.mp hp
      have q1 : p.1 < ks.length := by omega
      have e1 := getD_at q1
      have e2 := getD_at hp'.2
      exact xt_eqN (j := 1) (xe_call Z.sign hr2 (xa3 (xe_var 2)
        (xe_ixT (d := .str (lt (ks.getD p.1 (0, 0)).1)) (xe_ixT (d := encK (ks.getD p.1 (0, 0))) (xe_var 4) (xe_ixT (d := .int (p.1 : Int)) (xe_var 13) xe_int rfl) (atI_map e1)) xe_int rfl)
        (xe_ixT (d := .str (lt (ks.getD p.2 (0, 0)).1)) (xe_ixT (d := encK (ks.getD p.2 (0, 0))) (xe_var 4) (xe_ixT (d := .int (p.2 : Int)) (xe_var 13) xe_int rfl) (atI_map e2)) xe_int rfl))
        ⟨c, _, _, hc, k16 _ (List.mem_of_getElem? e1), k16 _ (List.mem_of_getElem? e2), rfl, rfl⟩) xe_int
    · have : ks.length = 0 ∨ ks.length = 1 ∨ ks.length = 2 ∨ ks.length = 3 := by omega
      rcases this with e | e | e | e <;> rw [e] <;> decide
    generalize hps : (pairsL ks.length).filter (fP c ks) = ps at hcl
    have psh : SeqAt.shaped (.list (ps.map encP)) = true := shaped_list fun d hd => by
      obtain ⟨p, _, rfl⟩ := List.mem_map.mp hd
      exact encP_shaped p
    have tNe : ∀ {ρ : Rho} {pos p p2 : Pos}, ρ[5]? = some (some (.list (ps.map encP))) → XT (lawX P w K mg base f cdv A outer s H E) ρ (.Compare (.Name "_law_pairs_here" p) [.NotEq] [.List [] p2] pos) (!ps.isEmpty) := fun h => xt_is (xt_neD hr.units (xe_var 5 (h := h)) (xe_lst xa_nil) psh (shaped_list (by simp))) (by rw [eqv_nilG]; cases ps <;> rfl)
    refine sx_unless (xt_is (xt_not (xt_val (xe_call (Z.alike 1) hr2 (xa2 (xe_call Z.clash hr5 (xa2 (xe_var 2) (xe_var 4)) ⟨c, ks, hc, hk, by omega, rfl, hcl⟩) (xe_if (k := !ps.isEmpty) (tNe rfl) (fun hne => ?_) (fun hne => ?_))) ⟨clD ps, alk_clD 0 ps, rfl, rfl⟩))) rfl) ?_
    · cases ps with
      | nil => cases hne
      | cons p rest => exact xe_ixL (d := encP p) (xe_var 5) (xe_int (i := 0)) (at_hd p rest)
    · cases ps with
      | nil => exact xe_non
      | cons p rest => cases hne
    refine sx_own 6 scLaw.nd (xn_lst xa_nil) fun l hl => ?_
    have hargs : ArgsK c ks [encC c, .tuple (ks.map encK)] := ⟨hc, hk, by omega, rfl⟩
    cases ps with
    | cons p rest =>
      have hX : XneedComm [encC c, .tuple (ks.map encK)] (p.1 : Int) (p.2 : Int) := ⟨c, ks, hargs, hcl⟩
      refine sx_work Z.nc Z.glot Z.many hr (by decide) (by decide) rfl rfl rfl rfl (.inr ⟨_, _, hX, rfl⟩) (.inr ⟨_, _, hX, rfl⟩) ?_
      refine sx_drop (fun a m => by simp [Own.ads] at m; rw [m]; exact hl) ?_
      refine sx_if (k := true) (tNe rfl) (fun _ => ?_) (fun z => nomatch z)
      refine sx_ret (d := .bool true) (xe_call (Z.alike 2) hr3 (xa2 (xe_var 6) (xe_lst (ds := [encP p, encP p]) (xa2 (xe_ixL (d := encP p) (xe_var 5) (xe_int (i := 0)) (at_hd p rest)) (xe_ixL (d := encP p) (xe_var 5) (xe_int (i := 0)) (at_hd p rest))))) ⟨_, .list 1 _ (fun d hd => ?_) (by show 2 ≤ 1000; decide), rfl, rfl⟩) (fun a m => by cases m) fun v H' _ rv => ?_
      · rcases List.mem_cons.mp hd with e | hd
        · rw [e]; exact alk_pair 0 _ _
        · rw [List.mem_singleton.mp hd]; exact alk_pair 0 _ _
      · show Q v H'
        rw [rv.b]; exact hQ H'
    | nil =>
      have kf := hKF c ks hc hk hkl hcl
      obtain ⟨u, u1, u2, u3, u4⟩ := kf.u
      obtain ⟨_, kfnd, kflt, kfsz, kfco, kfmem, kfhas⟩ := kf
      generalize hLs : growN c (ks.map (·.1)) = Ls at kfnd kflt kfsz kfco kfmem kfhas
      have ln16 : ∀ m, m ∈ Ls → m < 16 := fun m h => by have := kflt m h; omega
      have kn16 : ∀ k, k ∈ kindsOf Ls → k.1 < 16 := fun k h => ln16 _ (kindsOf_mem.mp h).1
      have iso16 : ∀ m, m ∈ isort rk Ls → m < 16 := fun m h => ln16 m ((isort_mem rk).mp h)
      have lln := nodup_len 16 Ls kfnd ln16
      have kll := kindsOf_len Ls
      refine sx_work (d1 := .list ((kindsOf Ls).map encK)) (d2 := .int (prodN (rankN c / 2 - u) : Int)) Z.nc Z.glot Z.many hr (by decide) (by decide) rfl rfl rfl rfl (.inl ⟨⟨c, ks, hargs, hcl, by rw [hLs]⟩, rfl⟩) (.inl ⟨⟨c, ks, u, hargs, hcl, u1, u2, u3, rfl⟩, rfl⟩) ?_
      refine sx_drop (fun a m => by simp [Own.ads] at m; rw [m]; exact hl) ?_
      refine sx_unless (tNe rfl) ?_
      have lay : ∀ l, l ∈ (sLots c).filter (holds ks) → (∀ m, m ∈ l → m < 16) ∧ l.length ≤ 16 := fun l hl => cf.lt l (List.mem_filter.mp hl).1
      refine sx_setLc (ds := ((sLots c).filter (holds ks)).map lotD) 9 (xlc_lcif (xs := sLots c) (enc := lotD) (f := holds ks) (h := lotD) 14 scLaw.nd (xi_list (xe_var 3)) (blkOk_by (N := lawN) (sc := defScope sLaw) (by decide +kernel))
        (fun _ _ _ _ _ l hl => ?_) (fun _ _ _ _ _ l hl _ => xe_var 14) (by omega)) ?_ (ho := by intro z; cases z)
      · have hl16 := (cf.lt l hl).1
        refine xt_is (xt_eqD hr.units (xn_e (xn_lcif (xs := ks) (enc := encK) (f := fun k => !decide (k.1 ∈ l)) (h := encK) 12 scLaw.nd (xi_tup (xe_var 4)) (blkOk_by (N := lawN) (by kernel_rfl))
          (fun _ _ _ _ _ k hk' => xt_is (xt_notInTS (i := lt k.1) (ns := l.map lt) (xe_ixT (d := .str (lt k.1)) (xe_var 12) xe_int rfl) (xe_is (xe_var 14) (by unfold lotD; rw [ltD_map]))) (by rw [lt_in_map (k16 k hk') hl16])) (fun _ _ _ _ _ k hk' _ => xe_var 12) (by omega))) (xe_lst xa_nil) (shaped_list fun d hd => ?_) (shaped_list (by simp))) (by rw [eqv_nilG, List.isEmpty_map]; rfl)
        obtain ⟨k, hk', rfl⟩ := List.mem_map.mp hd
        exact ⟨encK_lay (k16 k (List.mem_filter.mp hk').1), encK_depth k⟩
      · have fnd : ∀ {ρ : Rho}, ρ[6]? = some (some (.list [.list ((kindsOf Ls).map encK), .int (prodN (rankN c / 2 - u) : Int)])) → ∀ {p p2 p3 : Pos} {kk : Nat}, XE (lawX P w K mg base f cdv A outer s H E) ρ (.Subscript (.Name "_law_found" p) (.Constant (.int 0) kk p2) p3) (.list ((kindsOf Ls).map encK)) := fun h => xe_ixL (xe_var 6 (h := h)) xe_int rfl
        refine sx_unless (xt_is (xw_t (xw_or (xt_not (xt_val (xe_call (Z.alike 0) hr1 (xa2 (xe_ixL (d := .int (prodN (rankN c / 2 - u) : Int)) (xe_var 6) (xe_int (i := 1)) rfl) (xe_is (xe_lenL M.len (xe_var 9)) (by rw [List.length_map, ← u4]))) ⟨_, .int 0 _, rfl, rfl⟩)))
          fun _ => xw_or1 (xt_cmp (x := .bool true) (y := .bool true) (k := false) op_isnot_bl (xe_call Z.isg hr4 (xa2 (xe_var 2) (fnd rfl)) ⟨c, Ls, hc, kfnd, kflt, kfsz, kfco, rfl, rfl⟩) xe_bl (nomark _) fun F H li a b r1 r2 Q k => ⟨true, true, r1.b, r2.b, k _ H (Same.refl H) rp_b⟩))) rfl) ?_
        have ts := texts_srt kfnd ln16
        have inj : ∀ a, a ∈ isort rk Ls → ∀ b, b ∈ isort rk Ls → lt a = lt b → a = b := fun a ha b hb e => lt_inj a (iso16 a ha) b (iso16 b hb) e
        have isn : (isort rk Ls).Nodup := (isort_perm rk Ls).nodup_iff.mpr kfnd
        refine sx_set (d := .list (ltD (isort rk Ls))) 10 scLaw.nd (xe_is (xe_sortedSet (xs := (kindsOf Ls).map fun k => lt k.1) (ys := (isort rk Ls).map lt) rfl hr.units M.sorted M.set (xe_is (xn_e (xn_lc (xs := kindsOf Ls) (enc := encK) (h := fun k => .str (lt k.1)) 12 scLaw.nd (xi_list (fnd rfl)) (blkOk_by (N := lawN) (sc := defScope sLaw) (by decide +kernel))
          (fun _ _ _ _ _ k hk' => xe_ixT (d := .str (lt k.1)) (xe_var 12) xe_int rfl) (by omega))) (by rw [List.map_map]; rfl)) (by rw [List.length_map]; omega) (List.Pairwise.map lt (fun a b h => h) (List.Pairwise.imp_of_mem (fun {a b} ha hb hne e => hne (inj a ha b hb e)) isn)) (fun t => ?_) (by rw [← ltD_map]; exact ts.inc)) (by rw [ltD_map])) ?_ (ho := by intro z; cases z)
        · rw [List.mem_map, List.mem_map]
          constructor
          · rintro ⟨m, hm, rfl⟩
            exact ⟨(m, 0), kindsOf_mem.mpr ⟨(isort_mem rk).mp hm, by show 0 < 2; decide⟩, rfl⟩
          · rintro ⟨k, hk', rfl⟩
            exact ⟨k.1, (isort_mem rk).mpr (kindsOf_mem.mp hk').1, rfl⟩
        refine sx_set (d := .list []) 11 scLaw.nd (xe_lst xa_nil) ?_ (ho := by intro z; cases z)
        refine sx_for (xs := isort rk Ls) (enc := fun m => .str (lt m)) 12 (fun i => [some (.list (L.map .int)), none, some (encC c), some (.list ((sLots c).map lotD)), some (.tuple (ks.map encK)), some (.list (([] : List (Nat × Nat)).map encP)), some (.list [.list ((kindsOf Ls).map encK), .int (prodN (rankN c / 2 - u) : Int)]), none, none, some (.list (((sLots c).filter (holds ks)).map lotD)), some (.list (ltD (isort rk Ls))), some (.list ((withSigns ((isort rk Ls).take i)).map encK)), none, none, none]) (fun _ => .no) scLaw.nd
          (xi_list (xe_is (xe_var 10) rfl)) (fun σ H H1 s => s) (fun _ => rfl) (fun _ => by intro h; cases h) (fun i m H1 hx _ => ?_) ?_
        · have hi := (List.getElem?_eq_some_iff.mp hx).1
          have ht : (isort rk Ls).take (i + 1) = (isort rk Ls).take i ++ [m] := by rw [List.take_add_one, hx]; rfl
          have il : (isort rk Ls).length ≤ 16 := by rw [isort_len]; exact lln
          refine sx_set (d := .list ((withSigns ((isort rk Ls).take (i + 1))).map encK)) 11 scLaw.nd (xe_is (xe_cat (xe_var 11) (xe_lst (ds := [encK (m, 0), encK (m, 1)]) (xa2 (xe_tup (xa2 (xe_var 12) xe_int)) (xe_tup (xa2 (xe_var 12) xe_int)))) (by rw [List.length_map, withSigns_len, List.length_take]; show 2 * _ + 2 ≤ _; omega)) (by rw [ht, withSigns_snoc, List.map_append]; rfl)) ?_ (ho := by intro z; cases z)
          exact sx_nil fun σ H s => Stt.forget (k := 12) s
        · rw [List.take_length]
          have hin : ((((sLots c).filter (holds ks)).map lotD).any fun z => PyData.eqv z (lotD (isort rk Ls))) = true := List.any_eq_true.mpr ⟨lotD (isort rk Ls), List.mem_map.mpr ⟨_, List.mem_filter.mpr ⟨kfmem, ?_⟩, rfl⟩, eqv_self _ (lot_lay iso16).1⟩
          · have ksh : SeqAt.shaped (.list ((kindsOf Ls).map encK)) = true := shaped_list fun d hd => by
              obtain ⟨k, hk', rfl⟩ := List.mem_map.mp hd
              exact ⟨encK_lay (kn16 k hk'), encK_depth k⟩
            refine sx_ret (d := .bool true) (xe_is (xe_and (xe_inD (units65' hr) (xe_tuple M.tuple (xe_var 10)) (xe_var 9) (shaped_tup (ltD_shaped iso16)) (shaped_list fun d hd => ?_)) fun _ => xe_one (xe_eqD hr.units (fnd rfl) (xe_var 11) ksh ksh)) ?_) (fun a m => by cases m) fun v H' _ rv => ?_
            · obtain ⟨l, hl', rfl⟩ := List.mem_map.mp hd
              exact lot_lay (lay l hl').1
            · have e1 : (((((sLots c).filter (holds ks)).map lotD).any fun z => PyData.eqv z (.tuple (ltD (isort rk Ls)))) && PyData.eqv (.list ((kindsOf Ls).map encK)) (.list ((kindsOf Ls).map encK))) = true := by
                rw [eqv_self _ (SeqAt.canLay_of_shaped ksh), Bool.and_true]
                exact hin
              exact congrArg PyData.bool e1
            · show Q v H'
              rw [rv.b]; exact hQ H'
          · unfold holds
            rw [List.isEmpty_iff, List.filter_eq_nil_iff]
            intro k hk'
            have := kfhas k hk'
            simp [(isort_mem rk).mpr this]
  exact body _ _ ⟨rpAll_env (N := lawN) (.cons (.inl (.lst hS (dp_ints L))) .nil) (by show 1 ≤ 15; decide), fun _ _ _ z => z, Live.nil, trivial⟩
end
end DL
set_option Elab.async false
set_option linter.all false
set_option maxRecDepth 100000
set_option maxHeartbeats 8000000
namespace DL
open PySem PySem.Spec PyProof.Rows L2
/-! ### the order of the lots -/
theorem alike_lot : ∀ (a b : List Nat), PySem.W.alikeAll (ltD a) (ltD b) = true
  | [], _ => by simp [ltD, PySem.W.alikeAll]
  | _ :: _, [] => by simp [ltD, PySem.W.alikeAll]
  | x :: a, y :: b => by
    have := alike_lot a b
    unfold ltD at this ⊢
    simp [PySem.W.alikeAll, PySem.W.alike, this]
theorem dataLt_lot : ∀ (a b : List Nat), (∀ m, m ∈ a → m < 16) → (∀ m, m ∈ b → m < 16) → PyProof.Rows.lexLt PyProof.Rows.itemOrd (PySem.W.keyToksAll (ltD a)) (PySem.W.keyToksAll (ltD b)) = lotLt a b
  | [], [], _, _ => PyProof.Rows.lex_irrefl _
  | [], y :: b, _, _ => by
    show PyProof.Rows.lexLt PyProof.Rows.itemOrd (PySem.W.keyToksAll []) (PySem.W.keyToksAll (.str (lt y) :: ltD b)) = true
    rw [PySem.W.toks_all_cons]
    simp only [PySem.W.keyToksAll]
    rw [PyProof.Rows.lex_diff (O := PyProof.Rows.itemOrd) (by simp)]
    rfl
  | x :: a, [], _, _ => by
    show PyProof.Rows.lexLt PyProof.Rows.itemOrd (PySem.W.keyToksAll (.str (lt x) :: ltD a)) (PySem.W.keyToksAll []) = false
    rw [PySem.W.toks_all_cons]
    simp only [PySem.W.keyToksAll]
    rw [PyProof.Rows.lex_diff (O := PyProof.Rows.itemOrd) (by simp)]
    rfl
  | x :: a, y :: b, ha, hb => by
    have hx := ha x List.mem_cons_self
    have hy := hb y List.mem_cons_self
    have al : PySem.W.alike (.str (lt x)) (.str (lt y)) = true := by simp [PySem.W.alike]
    show PyProof.Rows.lexLt PyProof.Rows.itemOrd (PySem.W.keyToksAll (.str (lt x) :: ltD a)) (PySem.W.keyToksAll (.str (lt y) :: ltD b)) = (if x = y then lotLt a b else decide (rk x < rk y))
    by_cases e : x = y
    · rw [if_pos e, PySem.W.dataLt_all_yes al (by rw [lt_eqv hx hy]; simpa using e)]
      exact dataLt_lot a b (fun m h => ha m (List.mem_cons_of_mem _ h)) fun m h => hb m (List.mem_cons_of_mem _ h)
    · rw [if_neg e, PySem.W.dataLt_all_no al (by rw [lt_eqv hx hy]; simpa using e)]
      exact lt_data hx hy
theorem lots_srt {ls es : List (List Nat)} (hp : es.Perm ls) (hl : ∀ l, l ∈ ls → (∀ m, m ∈ l → m < 16) ∧ l ≠ []) (hn : ls.length ≤ 100000) (hs : es.Pairwise fun a b => lotLt a b = true) : Srt (ls.map lotD) (es.map lotD) where
  al := fun d hd e he => by
    obtain ⟨a, _, rfl⟩ := List.mem_map.mp hd
    obtain ⟨b, _, rfl⟩ := List.mem_map.mp he
    show PySem.W.alike (.tuple _) (.tuple _) = true
    simp only [PySem.W.alike]
    exact alike_lot a b
  so := .inl fun d hd => by
    obtain ⟨a, ha, rfl⟩ := List.mem_map.mp hd
    cases a with
    | nil => exact absurd rfl (hl _ ha).2
    | cons x a => exact ⟨_, _, rfl⟩
  len := by rw [List.length_map]; exact hn
  dep := fun d hd => by
    obtain ⟨a, ha, rfl⟩ := List.mem_map.mp hd
    exact (lot_lay (hl a ha).1).2
  perm := hp.map _
  inc := by
    rw [List.pairwise_map]
    refine List.Pairwise.imp_of_mem (fun {a b} ha hb h => ?_) hs
    show PySem.W.dataLt (.tuple (ltD a)) (.tuple (ltD b)) = true
    rw [PySem.W.dataLt_tuple, dataLt_lot a b (hl a (hp.mem_iff.mp ha)).1 (hl b (hp.mem_iff.mp hb)).1]
    exact h
end DL
set_option Elab.async false
set_option linter.all false
set_option maxRecDepth 100000
set_option maxHeartbeats 8000000
/-! The table of the 46 companies and what is checked of it. -/
namespace DL
open PySem PySem.Spec PyProof.Rows L2
def tabL : List (Co × Nat × List (List Nat)) := [(⟨2, [(0, 1)]⟩, 46317306857738082862469103516831068052211018119399612759927046864133556011008, [[0, 1], [0, 3], [0, 2]]),
  (⟨3, [(0, 1), (0, 2), (1, 2)]⟩, 415731892902116031235317226193945285505038003375645635389340997543264256, [[0, 1, 7, 6], [0, 3, 7, 4], [0, 7, 5, 2]]),
  (⟨3, [(0, 1), (0, 2)]⟩, 27244781754741510783624810033931054442893213238517191028966112101700556554240, [[0, 1, 7, 6], [0, 3, 5, 6], [0, 2, 6, 4]]),
  (⟨3, [(0, 1), (1, 2)]⟩, 40868211914268377300007928707990202161900355988603886864294066719097965248512, [[0, 1, 5, 4], [0, 3, 5, 6], [0, 7, 5, 2]]),
  (⟨3, [(0, 2), (1, 2)]⟩, 46317168277903300191988749902421029803018014604945819433105387963409100701696, [[0, 1, 3, 2], [0, 3, 7, 4], [0, 3, 5, 6]]),
  (⟨4, [(0, 1), (0, 2), (0, 3), (1, 2), (1, 3), (2, 3)]⟩, 47759054062597270089381078109191717913453159594323849155846896143069322412032, [[0, 1, 7, 6], [0, 1, 11, 10], [0, 1, 13, 12], [0, 3, 7, 4], [0, 3, 15, 12], [0, 3, 11, 8], [0, 7, 5, 2], [0, 15, 5, 10], [0, 15, 9, 6], [0, 11, 9, 2], [0, 5, 13, 8], [0, 13, 9, 4], [0, 2, 14, 12], [0, 6, 14, 8], [0, 14, 10, 4]]),
  (⟨4, [(0, 1), (0, 2), (0, 3), (1, 2), (1, 3)]⟩, 46317270191203566746007611482745672713865796015884930271379185324838868484096, [[0, 1, 7, 11, 13, 6, 10, 12], [0, 3, 7, 15, 11, 4, 12, 8], [0, 7, 11, 5, 9, 2, 14, 12]]),
  (⟨4, [(0, 1), (0, 2), (0, 3), (1, 2), (2, 3)]⟩, 40868231325429962283218275338826327500715963122549087983663778767570325995520, [[0, 1, 7, 11, 13, 6, 10, 12], [0, 3, 7, 13, 9, 14, 10, 4], [0, 7, 15, 5, 13, 2, 10, 8]]),
  (⟨4, [(0, 1), (0, 2), (0, 3), (1, 2)]⟩, 38747995438212730750553357446137362579283890799040140374985277206115999547392, [[0, 1, 7, 6], [0, 1, 11, 10], [0, 1, 13, 12], [0, 3, 7, 4], [0, 3, 13, 14], [0, 3, 9, 10], [0, 7, 5, 2], [0, 15, 11, 4], [0, 15, 13, 2], [0, 15, 9, 6], [0, 11, 5, 14], [0, 5, 9, 12], [0, 2, 10, 8], [0, 6, 14, 8], [0, 4, 12, 8]]),
  (⟨4, [(0, 1), (0, 2), (0, 3), (1, 3), (2, 3)]⟩, 38747995436534300734470606277369286430490946674443048640804748969180328099840, [[0, 1, 7, 11, 13, 6, 10, 12], [0, 3, 11, 5, 13, 6, 14, 8], [0, 15, 11, 13, 9, 2, 6, 4]]),
  (⟨4, [(0, 1), (0, 2), (0, 3), (1, 3)]⟩, 40868231327108392299151610472257039502202595015204939615079003829745531748352, [[0, 1, 7, 6], [0, 1, 11, 10], [0, 1, 13, 12], [0, 3, 11, 8], [0, 3, 5, 6], [0, 3, 13, 14], [0, 7, 15, 8], [0, 7, 9, 14], [0, 15, 5, 10], [0, 15, 13, 2], [0, 11, 9, 2], [0, 5, 9, 12], [0, 2, 6, 4], [0, 14, 10, 4], [0, 4, 12, 8]]),
  (⟨4, [(0, 1), (0, 2), (0, 3), (2, 3)]⟩, 46317270192210641146933342737195551136882107432834306907883456544597035712512, [[0, 1, 7, 6], [0, 1, 11, 10], [0, 1, 13, 12], [0, 3, 15, 12], [0, 3, 5, 6], [0, 3, 9, 10], [0, 7, 15, 8], [0, 7, 9, 14], [0, 15, 11, 4], [0, 11, 5, 14], [0, 5, 13, 8], [0, 13, 9, 4], [0, 2, 6, 4], [0, 2, 14, 12], [0, 2, 10, 8]]),
  (⟨4, [(0, 1), (0, 2), (0, 3)]⟩, 47759054061590195688604762890079203637744406541547292124529610338360931123200, [[0, 1, 7, 11, 13, 6, 10, 12], [0, 3, 15, 5, 9, 6, 10, 12], [0, 2, 6, 14, 10, 4, 12, 8]]),
  (⟨4, [(0, 1), (0, 2), (1, 2), (1, 3), (2, 3)]⟩, 27244781755037693067446312606981567075388873508037911939695823695531394990080, [[0, 1, 7, 15, 9, 6, 14, 8], [0, 3, 7, 13, 9, 14, 10, 4], [0, 7, 11, 5, 9, 2, 14, 12]]),
  (⟨4, [(0, 1), (0, 2), (1, 2), (1, 3)]⟩, 23428502091402602604743345583087835817803497651634073122273293629065910812672, [[0, 1, 7, 6], [0, 1, 15, 14], [0, 1, 9, 8], [0, 3, 7, 4], [0, 3, 13, 14], [0, 3, 9, 10], [0, 7, 5, 2], [0, 15, 11, 4], [0, 15, 5, 10], [0, 11, 13, 6], [0, 11, 9, 2], [0, 5, 13, 8], [0, 2, 14, 12], [0, 6, 10, 12], [0, 4, 12, 8]]),
  (⟨4, [(0, 1), (0, 2), (1, 2), (2, 3)]⟩, 7209093522210262891449371013696316863117201154458014054239110665130796122112, [[0, 1, 7, 6], [0, 1, 15, 14], [0, 1, 9, 8], [0, 3, 7, 4], [0, 3, 15, 12], [0, 3, 11, 8], [0, 7, 5, 2], [0, 15, 13, 2], [0, 11, 5, 14], [0, 11, 13, 6], [0, 5, 9, 12], [0, 13, 9, 4], [0, 2, 10, 8], [0, 6, 10, 12], [0, 14, 10, 4]]),
  (⟨4, [(0, 1), (0, 2), (1, 3), (2, 3)]⟩, 415731399255870539569598556878085491222509709384368276155867646513643520, [[0, 1, 7, 15, 9, 6, 14, 8], [0, 3, 15, 5, 9, 6, 10, 12], [0, 15, 11, 13, 9, 2, 6, 4]]),
  (⟨4, [(0, 1), (0, 2), (1, 3)]⟩, 7209093522703909136892762362709956914281403636407897662847340635139327393792, [[0, 1, 7, 6], [0, 1, 15, 14], [0, 1, 9, 8], [0, 3, 15, 12], [0, 3, 5, 6], [0, 3, 9, 10], [0, 7, 11, 12], [0, 7, 13, 10], [0, 15, 13, 2], [0, 11, 5, 14], [0, 11, 9, 2], [0, 5, 13, 8], [0, 2, 6, 4], [0, 14, 10, 4], [0, 4, 12, 8]]),
  (⟨4, [(0, 1), (0, 2), (2, 3)]⟩, 23428502091698784888613122525794024258930484099730481204175690966528557842432, [[0, 1, 7, 6], [0, 1, 15, 14], [0, 1, 9, 8], [0, 3, 11, 8], [0, 3, 5, 6], [0, 3, 13, 14], [0, 7, 11, 12], [0, 7, 13, 10], [0, 15, 11, 4], [0, 15, 5, 10], [0, 5, 9, 12], [0, 13, 9, 4], [0, 2, 6, 4], [0, 2, 14, 12], [0, 2, 10, 8]]),
  (⟨4, [(0, 1), (0, 3), (1, 2), (1, 3), (2, 3)]⟩, 23428392094820192091174126389772062855866720785748517610947838199904368066560, [[0, 1, 15, 11, 5, 14, 10, 4], [0, 3, 11, 5, 13, 6, 14, 8], [0, 7, 11, 5, 9, 2, 14, 12]]),
  (⟨4, [(0, 1), (0, 3), (1, 2), (1, 3)]⟩, 27244891751620103580768412422195240099534761263746220734088776837195241357312, [[0, 1, 15, 14], [0, 1, 11, 10], [0, 1, 5, 4], [0, 3, 11, 8], [0, 3, 5, 6], [0, 3, 13, 14], [0, 7, 15, 8], [0, 7, 5, 2], [0, 7, 13, 10], [0, 15, 9, 6], [0, 11, 9, 2], [0, 13, 9, 4], [0, 2, 14, 12], [0, 6, 10, 12], [0, 4, 12, 8]]),
  (⟨4, [(0, 1), (0, 3), (1, 2), (2, 3)]⟩, 357498408106191523514405457612064760730718269272954597714331293606215680, [[0, 1, 15, 11, 5, 14, 10, 4], [0, 3, 15, 5, 9, 6, 10, 12], [0, 7, 15, 5, 13, 2, 10, 8]]),
  (⟨4, [(0, 1), (0, 3), (1, 2)]⟩, 7209151755695058815811114213044487144527318549612002462358583058755004137472, [[0, 1, 15, 14], [0, 1, 11, 10], [0, 1, 5, 4], [0, 3, 15, 12], [0, 3, 5, 6], [0, 3, 9, 10], [0, 7, 11, 12], [0, 7, 5, 2], [0, 7, 9, 14], [0, 15, 13, 2], [0, 11, 13, 6], [0, 13, 9, 4], [0, 2, 10, 8], [0, 6, 14, 8], [0, 4, 12, 8]]),
  (⟨4, [(0, 1), (0, 3), (1, 3), (2, 3)]⟩, 7209151756188715306243112365979744176649341031073238540968424340492817006592, [[0, 1, 15, 14], [0, 1, 11, 10], [0, 1, 5, 4], [0, 3, 7, 4], [0, 3, 15, 12], [0, 3, 11, 8], [0, 7, 13, 10], [0, 7, 9, 14], [0, 15, 13, 2], [0, 11, 9, 2], [0, 5, 13, 8], [0, 5, 9, 12], [0, 2, 6, 4], [0, 6, 14, 8], [0, 6, 10, 12]]),
  (⟨4, [(0, 1), (0, 3), (2, 3)]⟩, 27244891751323904222471614944146215124988123563212048119307008918718272765952, [[0, 1, 15, 14], [0, 1, 11, 10], [0, 1, 5, 4], [0, 3, 7, 4], [0, 3, 13, 14], [0, 3, 9, 10], [0, 7, 15, 8], [0, 7, 11, 12], [0, 15, 9, 6], [0, 11, 13, 6], [0, 5, 13, 8], [0, 5, 9, 12], [0, 2, 6, 4], [0, 2, 14, 12], [0, 2, 10, 8]]),
  (⟨4, [(0, 1), (1, 2), (1, 3), (2, 3)]⟩, 46317306856731059683553273655991996359805310216270355916092294388144270999552, [[0, 1, 5, 4], [0, 1, 13, 12], [0, 1, 9, 8], [0, 3, 15, 12], [0, 3, 5, 6], [0, 3, 9, 10], [0, 7, 15, 8], [0, 7, 5, 2], [0, 7, 13, 10], [0, 15, 11, 4], [0, 11, 13, 6], [0, 11, 9, 2], [0, 2, 14, 12], [0, 6, 14, 8], [0, 14, 10, 4]]),
  (⟨4, [(0, 1), (1, 2), (1, 3)]⟩, 47759017397069777152082535314047494205306403759506446065378986238382126661632, [[0, 1, 5, 13, 9, 4, 12, 8], [0, 3, 15, 5, 9, 6, 10, 12], [0, 7, 11, 5, 9, 2, 14, 12]]),
  (⟨4, [(0, 1), (1, 2), (2, 3)]⟩, 38748014849374315733909681789393899517216024112956231614585888741788599713792, [[0, 1, 5, 4], [0, 1, 13, 12], [0, 1, 9, 8], [0, 3, 11, 8], [0, 3, 5, 6], [0, 3, 13, 14], [0, 7, 11, 12], [0, 7, 5, 2], [0, 7, 9, 14], [0, 15, 11, 4], [0, 15, 13, 2], [0, 15, 9, 6], [0, 2, 10, 8], [0, 6, 10, 12], [0, 14, 10, 4]]),
  (⟨4, [(0, 1), (1, 3), (2, 3)]⟩, 40868211915946776582492568415986044433151802667791101362673813902525255647232, [[0, 1, 5, 4], [0, 1, 13, 12], [0, 1, 9, 8], [0, 3, 7, 4], [0, 3, 13, 14], [0, 3, 9, 10], [0, 7, 15, 8], [0, 7, 11, 12], [0, 15, 5, 10], [0, 15, 13, 2], [0, 11, 5, 14], [0, 11, 9, 2], [0, 2, 6, 4], [0, 6, 14, 8], [0, 6, 10, 12]]),
  (⟨4, [(0, 1), (2, 3)]⟩, 47759017396062753973214979822864098321531523587131311212147840787252868022272, [[0, 1, 5, 4], [0, 1, 13, 12], [0, 1, 9, 8], [0, 3, 7, 4], [0, 3, 15, 12], [0, 3, 11, 8], [0, 7, 13, 10], [0, 7, 9, 14], [0, 15, 5, 10], [0, 15, 9, 6], [0, 11, 5, 14], [0, 11, 13, 6], [0, 2, 6, 4], [0, 2, 14, 12], [0, 2, 10, 8]]),
  (⟨4, [(0, 2), (0, 3), (1, 2), (1, 3), (2, 3)]⟩, 7208736024295833678967348018507436329297168138647966594732356395271690649600, [[0, 1, 3, 15, 13, 2, 14, 12], [0, 3, 7, 13, 9, 14, 10, 4], [0, 3, 11, 5, 13, 6, 14, 8]]),
  (⟨4, [(0, 2), (0, 3), (1, 2), (1, 3)]⟩, 109998260816625588834291177829381934744031256184852621467976993520746496, [[0, 1, 3, 15, 13, 2, 14, 12], [0, 3, 7, 15, 11, 4, 12, 8], [0, 3, 15, 5, 9, 6, 10, 12]]),
  (⟨4, [(0, 2), (0, 3), (1, 2), (2, 3)]⟩, 27245139249343434746066379335704530394010933737262168873488518826523641249792, [[0, 1, 3, 2], [0, 1, 15, 14], [0, 1, 13, 12], [0, 3, 7, 4], [0, 3, 5, 6], [0, 7, 15, 8], [0, 7, 11, 12], [0, 15, 9, 6], [0, 11, 5, 14], [0, 11, 9, 2], [0, 5, 13, 8], [0, 13, 9, 4], [0, 2, 10, 8], [0, 6, 10, 12], [0, 14, 10, 4]]),
  (⟨4, [(0, 2), (0, 3), (1, 2)]⟩, 23428807821899892214858921481025353473065622499245605291792576735492195745792, [[0, 1, 3, 2], [0, 1, 15, 14], [0, 1, 13, 12], [0, 3, 7, 4], [0, 3, 5, 6], [0, 7, 13, 10], [0, 7, 9, 14], [0, 15, 11, 4], [0, 15, 5, 10], [0, 11, 13, 6], [0, 11, 9, 2], [0, 5, 9, 12], [0, 2, 10, 8], [0, 6, 14, 8], [0, 4, 12, 8]]),
  (⟨4, [(0, 2), (0, 3), (1, 3), (2, 3)]⟩, 23428807822906925638004782733084670045782060561996351406890744026085695946752, [[0, 1, 3, 2], [0, 1, 15, 14], [0, 1, 13, 12], [0, 3, 11, 8], [0, 3, 9, 10], [0, 7, 11, 12], [0, 7, 5, 2], [0, 7, 9, 14], [0, 15, 11, 4], [0, 15, 5, 10], [0, 5, 13, 8], [0, 13, 9, 4], [0, 2, 6, 4], [0, 6, 14, 8], [0, 6, 10, 12]]),
  (⟨4, [(0, 2), (0, 3), (1, 3)]⟩, 27245139248336401322968790933247130728847597609754173065901046996395598282752, [[0, 1, 3, 2], [0, 1, 15, 14], [0, 1, 13, 12], [0, 3, 11, 8], [0, 3, 9, 10], [0, 7, 15, 8], [0, 7, 5, 2], [0, 7, 13, 10], [0, 15, 9, 6], [0, 11, 5, 14], [0, 11, 13, 6], [0, 5, 9, 12], [0, 2, 6, 4], [0, 14, 10, 4], [0, 4, 12, 8]]),
  (⟨4, [(0, 2), (1, 2), (1, 3), (2, 3)]⟩, 40868350497415661804731423564844928916719149527645306553753959048574713987072, [[0, 1, 3, 2], [0, 1, 11, 10], [0, 1, 9, 8], [0, 3, 7, 4], [0, 3, 5, 6], [0, 7, 15, 8], [0, 7, 11, 12], [0, 15, 5, 10], [0, 15, 13, 2], [0, 11, 13, 6], [0, 5, 9, 12], [0, 13, 9, 4], [0, 2, 14, 12], [0, 6, 14, 8], [0, 14, 10, 4]]),
  (⟨4, [(0, 2), (1, 2), (1, 3)]⟩, 38748097354647793184899044154572852398222426854755620693757907473090107932672, [[0, 1, 3, 2], [0, 1, 11, 10], [0, 1, 9, 8], [0, 3, 7, 4], [0, 3, 5, 6], [0, 7, 13, 10], [0, 7, 9, 14], [0, 15, 11, 4], [0, 15, 13, 2], [0, 15, 9, 6], [0, 11, 5, 14], [0, 5, 13, 8], [0, 2, 14, 12], [0, 6, 10, 12], [0, 4, 12, 8]]),
  (⟨4, [(0, 2), (1, 2), (2, 3)]⟩, 47758934894220258101729886149639033712650064461454131968474969648898396651520, [[0, 1, 3, 11, 9, 2, 10, 8], [0, 3, 7, 13, 9, 14, 10, 4], [0, 3, 15, 5, 9, 6, 10, 12]]),
  (⟨4, [(0, 2), (1, 3), (2, 3)]⟩, 46317168278199496135691621645257554918244124108228005099117826351787532091392, [[0, 1, 3, 2], [0, 1, 11, 10], [0, 1, 9, 8], [0, 3, 15, 12], [0, 3, 13, 14], [0, 7, 15, 8], [0, 7, 5, 2], [0, 7, 13, 10], [0, 15, 11, 4], [0, 11, 5, 14], [0, 5, 9, 12], [0, 13, 9, 4], [0, 2, 6, 4], [0, 6, 14, 8], [0, 6, 10, 12]]),
  (⟨4, [(0, 2), (1, 3)]⟩, 47758934893924062158176435002117040092568497630997252033787331798189963476992, [[0, 1, 3, 2], [0, 1, 11, 10], [0, 1, 9, 8], [0, 3, 15, 12], [0, 3, 13, 14], [0, 7, 11, 12], [0, 7, 5, 2], [0, 7, 9, 14], [0, 15, 5, 10], [0, 15, 9, 6], [0, 11, 13, 6], [0, 5, 13, 8], [0, 2, 6, 4], [0, 14, 10, 4], [0, 4, 12, 8]]),
  (⟨4, [(0, 3), (1, 2), (1, 3), (2, 3)]⟩, 38748134020175251974151535825677448310596511174659672322418981926256469082112, [[0, 1, 3, 2], [0, 1, 7, 6], [0, 1, 5, 4], [0, 3, 11, 8], [0, 3, 9, 10], [0, 7, 11, 12], [0, 7, 13, 10], [0, 15, 11, 4], [0, 15, 13, 2], [0, 15, 9, 6], [0, 5, 13, 8], [0, 5, 9, 12], [0, 2, 14, 12], [0, 6, 14, 8], [0, 14, 10, 4]]),
  (⟨4, [(0, 3), (1, 2), (1, 3)]⟩, 40868313831888203015624906566168296547668046309358535763386510883391707021312, [[0, 1, 3, 2], [0, 1, 7, 6], [0, 1, 5, 4], [0, 3, 11, 8], [0, 3, 9, 10], [0, 7, 15, 8], [0, 7, 9, 14], [0, 15, 5, 10], [0, 15, 13, 2], [0, 11, 5, 14], [0, 11, 13, 6], [0, 13, 9, 4], [0, 2, 14, 12], [0, 6, 10, 12], [0, 4, 12, 8]]),
  (⟨4, [(0, 3), (1, 2), (2, 3)]⟩, 46317187689064905664664868546056737531783714447764944762170109869023110889472, [[0, 1, 3, 2], [0, 1, 7, 6], [0, 1, 5, 4], [0, 3, 15, 12], [0, 3, 13, 14], [0, 7, 15, 8], [0, 7, 9, 14], [0, 15, 11, 4], [0, 11, 13, 6], [0, 11, 9, 2], [0, 5, 13, 8], [0, 5, 9, 12], [0, 2, 10, 8], [0, 6, 10, 12], [0, 14, 10, 4]]),
  (⟨4, [(0, 3), (1, 2)]⟩, 47758915483058652629300889924143904114798786457834842901517979108472281628672, [[0, 1, 3, 2], [0, 1, 7, 6], [0, 1, 5, 4], [0, 3, 15, 12], [0, 3, 13, 14], [0, 7, 11, 12], [0, 7, 13, 10], [0, 15, 5, 10], [0, 15, 9, 6], [0, 11, 5, 14], [0, 11, 9, 2], [0, 13, 9, 4], [0, 2, 10, 8], [0, 6, 14, 8], [0, 4, 12, 8]]),
  (⟨4, [(0, 3), (1, 3), (2, 3)]⟩, 47758915482762466930736042540528064351217435338219749769013598752039438909440, [[0, 1, 3, 7, 5, 2, 6, 4], [0, 3, 15, 5, 9, 6, 10, 12], [0, 3, 11, 5, 13, 6, 14, 8]])]

theorem tab_comps : tabL.map (·.1) = comps := by decide +kernel
def bt (T s m : Nat) : Nat := (T >>> (16 * m + s)) &&& 1
theorem tab_bt : (tabL.all fun e => (List.range 256).all fun i => ((e.2.1 >>> i) &&& 1) == btw e.1 (i % 16) (i / 16) && signN e.1 (i % 16) (i / 16) == btw e.1 (i % 16) (i / 16)) = true := by decide +kernel
structure TabE (c : Co) (T : Nat) (ls : List (List Nat)) : Prop where
  mem : (c, T, ls) ∈ tabL
  bt : ∀ a, a < 16 → ∀ b, b < 16 → bt T a b = btw c a b
  sg : ∀ a, a < 16 → ∀ b, b < 16 → signN c a b = btw c a b
theorem tab_of {c : Co} (h : c ∈ comps) : ∃ T ls, TabE c T ls := by
  rw [← tab_comps] at h
  obtain ⟨⟨c', T, ls⟩, hm, rfl⟩ := List.mem_map.mp h
  have hb := List.all_eq_true.mp tab_bt _ hm
  have key : ∀ a, a < 16 → ∀ b, b < 16 → bt T a b = btw c' a b ∧ signN c' a b = btw c' a b := fun a ha b hb' => by
    have := List.all_eq_true.mp hb (16 * b + a) (List.mem_range.mpr (by omega))
    rw [show (16 * b + a) % 16 = a by omega, show (16 * b + a) / 16 = b by omega] at this
    simp only [Bool.and_eq_true, beq_iff_eq] at this
    exact this
  exact ⟨T, ls, hm, fun a ha b hb => (key a ha b hb).1, fun a ha b hb => (key a ha b hb).2⟩
/-! ### lots by the table -/
def lotStepT (T : Nat) (m : Nat) (lot : List Nat) : List (List Nat) := if (lot.all fun s => bt T s m != 1) = true then [lot, lot ++ [m]] else [lot]
def lotsAllT (T n : Nat) : List (List Nat) := (ordM n).foldl (fun lots m => lots.flatMap (lotStepT T m)) [[]]
def lotsT (T n : Nat) : List (List Nat) := (lotsAllT T n).filter fun l => l.length == mostL (lotsAllT T n)
theorem lotStep_T {c : Co} {T : Nat} {ls : List (List Nat)} (t : TabE c T ls) {m : Nat} {lot : List Nat} (hm : m < 16) (hl : ∀ s, s ∈ lot → s < 16) : lotStep c m lot = lotStepT T m lot := by
  unfold lotStep lotStepT
  have e : (lot.filter fun s => signN c s m == 1).isEmpty = lot.all fun s => bt T s m != 1 := by
    rw [Bool.eq_iff_iff, List.isEmpty_iff, List.filter_eq_nil_iff, List.all_eq_true]
    refine forall_congr' fun s => forall_congr' fun hs => ?_
    rw [t.sg s (hl s hs) m hm, t.bt s (hl s hs) m hm]
    simp
  rw [e]
theorem lotsFold_T {c : Co} {T : Nat} {ls : List (List Nat)} (t : TabE c T ls) : ∀ (l : List Nat) {lots : List (List Nat)} {i : Nat}, LOk lots i → (∀ m, m ∈ l → m < 16) → l.foldl (lotsStep c) lots = l.foldl (fun lots m => lots.flatMap (lotStepT T m)) lots
  | [], _, _, _, _ => rfl
  | m :: l, lots, i, h, hl => by
    have hm := hl m List.mem_cons_self
    have e : lotsStep c lots m = lots.flatMap (lotStepT T m) := by
      unfold lotsStep
      have go : ∀ xs : List (List Nat), (∀ x, x ∈ xs → ∀ s, s ∈ x → s < 16) → xs.flatMap (lotStep c m) = xs.flatMap (lotStepT T m) := fun xs => by
        induction xs with
        | nil => intro _; rfl
        | cons x xs ih =>
          intro hx
          rw [List.flatMap_cons, List.flatMap_cons, lotStep_T t hm (hx x List.mem_cons_self), ih fun y hy => hx y (List.mem_cons_of_mem _ hy)]
      exact go lots h.lt
    rw [List.foldl_cons, List.foldl_cons, ← e]
    exact lotsFold_T t l (lotsStep_ok (c := c) h hm) fun x hx => hl x (List.mem_cons_of_mem _ hx)
theorem lots_T {c : Co} {T : Nat} {ls : List (List Nat)} (hc : c ∈ comps) (t : TabE c T ls) : lotsAll c = lotsAllT T c.n ∧ lotsN c = lotsT T c.n := by
  have hpow := pow16 (good_of hc)
  have e : lotsAll c = lotsAllT T c.n := lotsFold_T t (ordM c.n) lok0 fun m hm => ordM_lt hpow hm
  refine ⟨e, ?_⟩
  unfold lotsN lotsT
  rw [e]
theorem tab_lots : (tabL.all fun e => (lotsT e.2.1 e.1.n).foldr insL [] == e.2.2) = true := by decide +kernel
theorem insL_perm (x : List Nat) : ∀ l : List (List Nat), (insL x l).Perm (x :: l)
  | [] => .refl _
  | y :: r => by
    unfold insL
    split
    · exact ((insL_perm x r).cons y).trans (.swap x y r)
    · exact .refl _
theorem foldr_insL_perm : ∀ l : List (List Nat), (l.foldr insL []).Perm l
  | [] => .refl _
  | x :: r => (insL_perm x _).trans ((foldr_insL_perm r).cons x)
theorem sLots_T {c : Co} {T : Nat} {ls : List (List Nat)} (hc : c ∈ comps) (t : TabE c T ls) : sLots c = ls := by
  unfold sLots
  rw [(lots_T hc t).2]
  have := List.all_eq_true.mp tab_lots _ t.mem
  simpa using this
/-! ### what is checked of each company -/
theorem tab_cf : (tabL.all fun e => decide (e.2.2.Pairwise fun a b => lotLt a b = true) && e.2.2.all (fun l => l.all (fun m => decide (m < 16)) && !l.isEmpty && decide (l.length ≤ 16)) && decide (e.2.2.length ≤ 100) && e.2.2[0]? == some (isort rk (firstN e.1)) && decide (2 * (isort rk (firstN e.1)).length = 2 <<< (e.1.n - rankN e.1 / 2)) && decide (e.2.2.length = prodN (rankN e.1 / 2))) = true := by decide +kernel
theorem tab_bases : (tabL.all fun e => ((basesN e.1 (rankN e.1 / 2)).map (isort rk)).isPerm e.2.2) = true := by decide +kernel
theorem cf_of {c : Co} (hc : c ∈ comps) : CF c := by
  obtain ⟨T, ls, t⟩ := tab_of hc
  have es := sLots_T hc t
  have h1 := List.all_eq_true.mp tab_cf _ t.mem
  have h2 := List.all_eq_true.mp tab_bases _ t.mem
  simp only [Bool.and_eq_true, decide_eq_true_eq, beq_iff_eq] at h1
  obtain ⟨⟨⟨⟨⟨a1, a2⟩, a3⟩, a4⟩, a5⟩, a6⟩ := h1
  have a2' : ∀ l, l ∈ ls → ((∀ m, m ∈ l → m < 16) ∧ l ≠ []) ∧ l.length ≤ 16 := fun l hl => by
    have := List.all_eq_true.mp a2 l hl
    simp only [Bool.and_eq_true, decide_eq_true_eq, List.all_eq_true, Bool.not_eq_true', List.isEmpty_eq_false_iff] at this
    exact ⟨this.1, this.2⟩
  have pm : ls.Perm (lotsN c) := by rw [← es]; exact foldr_insL_perm _
  have pb : ((basesN c (rankN c / 2)).map (isort rk)).Perm ls := List.isPerm_iff.mp h2
  refine ⟨?_, ?_, by rw [es]; exact a4, a5, by rw [es]; exact a6, by rw [es]; exact a3, fun l hl => ?_, t.sg⟩
  · rw [es]
    exact lots_srt pm (fun l hl => (a2' l (pm.mem_iff.mpr hl)).1) (by rw [← pm.length_eq]; omega) a1
  · rw [es]
    have e : ((basesN c (rankN c / 2)).map fun b => lotD (isort rk b)) = ((basesN c (rankN c / 2)).map (isort rk)).map lotD := by rw [List.map_map]; rfl
    rw [e]
    exact lots_srt pb.symm (fun l hl => (a2' l (pb.mem_iff.mp hl)).1) (by rw [pb.length_eq]; omega) a1
  · rw [es] at hl
    exact ⟨(a2' l hl).1.1, (a2' l hl).2⟩
end DL
set_option Elab.async false
set_option linter.all false
set_option maxRecDepth 100000
set_option maxHeartbeats 8000000
/-! Kinds that commute: what the greatest lot and the count are. -/
namespace DL
open PySem PySem.Spec PyProof.Rows L2
theorem tab_lin : (tabL.all fun e => (List.range 16).all fun m => bt e.2.1 m 0 == 0 && (List.range 16).all fun a => (List.range 16).all fun b => !(bt e.2.1 m a == 0 && bt e.2.1 m b == 0) || bt e.2.1 m (a ^^^ b) == 0) = true := by decide +kernel
structure Lin (T : Nat) : Prop where
  z : ∀ m, m < 16 → bt T m 0 = 0
  x : ∀ m, m < 16 → ∀ a, a < 16 → ∀ b, b < 16 → bt T m a = 0 → bt T m b = 0 → bt T m (a ^^^ b) = 0
theorem lin_of {c : Co} {T : Nat} {ls : List (List Nat)} (t : TabE c T ls) : Lin T := by
  have h := List.all_eq_true.mp tab_lin _ t.mem
  refine ⟨fun m hm => ?_, fun m hm a ha b hb h1 h2 => ?_⟩
  · have := List.all_eq_true.mp h m (List.mem_range.mpr hm)
    simp only [Bool.and_eq_true, beq_iff_eq] at this
    exact this.1
  · have := List.all_eq_true.mp h m (List.mem_range.mpr hm)
    simp only [Bool.and_eq_true] at this
    have := List.all_eq_true.mp (List.all_eq_true.mp this.2 a (List.mem_range.mpr ha)) b (List.mem_range.mpr hb)
    simpa [h1, h2] using this
theorem btw_sym (c : Co) (a b : Nat) : btw c a b = btw c b a := by unfold btw; rw [Nat.add_comm]
theorem btw_self (c : Co) (a : Nat) : btw c a a = 0 := by unfold btw; omega
theorem btw_lt (c : Co) (a b : Nat) : btw c a b < 2 := by unfold btw; omega
theorem spanStep_mem {f : List Nat} {m x : Nat} : x ∈ spanStep f m ↔ x ∈ f ∨ (m ∉ f ∧ ∃ a, a ∈ f ∧ x = a ^^^ m) := by
  unfold spanStep
  split
  · rename_i h
    exact ⟨.inl, fun z => z.elim id fun z => absurd h z.1⟩
  · rename_i h
    rw [adds_mem, adds_mem, List.mem_map]
    constructor
    · rintro (h1 | h1 | ⟨a, ha, e⟩)
      · exact .inl h1
      · cases h1
      · exact .inr ⟨h, a, ha, e.symm⟩
    · rintro (h1 | ⟨_, a, ha, e⟩)
      · exact .inl h1
      · exact .inr (.inr ⟨a, ha, e.symm⟩)
theorem spanStep_self {f : List Nat} {m : Nat} (h : 0 ∈ f) : m ∈ spanStep f m := spanStep_mem.mpr (by
  by_cases q : m ∈ f
  · exact .inl q
  · exact .inr ⟨q, 0, h, by rw [Nat.zero_xor]⟩)
theorem fold_sub : ∀ (ms : List Nat) {f : List Nat} {x : Nat}, x ∈ f → x ∈ ms.foldl spanStep f
  | [], _, _, h => h
  | m :: ms, _, _, h => fold_sub ms (spanStep_mem.mpr (.inl h))
theorem fold_has : ∀ (ms : List Nat) {f : List Nat} {x : Nat}, 0 ∈ f → x ∈ ms → x ∈ ms.foldl spanStep f
  | m :: ms, f, x, h, hx => by
    rcases List.mem_cons.mp hx with e | hx
    · rw [e]; exact fold_sub ms (spanStep_self h)
    · exact fold_has ms (spanStep_mem.mpr (.inl h)) hx
/-- a set closed under sums holds the span -/
theorem fold_in {S : Nat → Prop} (hx : ∀ a b, S a → S b → S (a ^^^ b)) : ∀ (ms : List Nat) {f : List Nat}, (∀ x, x ∈ f → S x) → (∀ m, m ∈ ms → S m) → ∀ x, x ∈ ms.foldl spanStep f → S x
  | [], _, hf, _, x, h => hf x h
  | m :: ms, f, hf, hm, x, h => fold_in hx ms (f := spanStep f m) (fun y hy => by
    rcases spanStep_mem.mp hy with q | ⟨_, a, ha, e⟩
    · exact hf y q
    · rw [e]; exact hx a m (hf a ha) (hm m List.mem_cons_self)) (fun y hy => hm y (List.mem_cons_of_mem _ hy)) x h
/-! ### grown, by states -/
def comm (T : Nat) (f : List Nat) (m : Nat) : Bool := f.all fun o => bt T m o == 0
def gStep (T : Nat) (f : List Nat) (m : Nat) : List Nat := if (!decide (m ∈ f) && comm T f m) = true then spanStep f m else f
def gFold (T n : Nat) (f : List Nat) : List Nat := (List.range (1 <<< n)).foldl (gStep T) f
theorem comm_span {T : Nat} (l : Lin T) {sm : List Nat} {m : Nat} (hs : ∀ o, o ∈ sm → o < 16) (hm : m < 16) : comm T sm m = comm T (spanN sm) m := by
  rw [Bool.eq_iff_iff]
  unfold comm
  rw [List.all_eq_true, List.all_eq_true]
  simp only [beq_iff_eq]
  constructor
  · intro h
    have key := fold_in (S := fun x => x < 16 ∧ bt T m x = 0) (fun a b ha hb => ⟨xor_16 ha.1 hb.1, l.x m hm a ha.1 b hb.1 ha.2 hb.2⟩) sm (f := [0]) (fun x hx => by rw [List.mem_singleton.mp hx]; exact ⟨by decide, l.z m hm⟩) fun o ho => ⟨hs o ho, h o ho⟩
    exact fun o ho => (key o ho).2
  · exact fun h o ho => h o (fold_has sm (by simp) ho)
theorem grown_state {c : Co} {T : Nat} {ls : List (List Nat)} (t : TabE c T ls) : ∀ (l : List Nat) {sm : List Nat}, (∀ o, o ∈ sm → o < 16) → (∀ m, m ∈ l → m < 16) → spanN (l.foldl (grownStep c) sm) = l.foldl (gStep T) (spanN sm)
  | [], _, _, _ => rfl
  | m :: l, sm, hs, hl => by
    have hm := hl m List.mem_cons_self
    have e1 : (sm.all fun o => btw c m o == 0) = comm T (spanN sm) m := by
      rw [← comm_span (lin_of t) hs hm]
      unfold comm
      rw [Bool.eq_iff_iff, List.all_eq_true, List.all_eq_true]
      refine forall_congr' fun o => forall_congr' fun ho => ?_
      rw [t.bt m hm o (hs o ho)]
    have e2 : spanN (grownStep c sm m) = gStep T (spanN sm) m := by
      unfold grownStep gStep
      rw [e1]
      split
      · unfold spanN; rw [List.foldl_append]; rfl
      · rfl
    have hs2 : ∀ o, o ∈ grownStep c sm m → o < 16 := fun o ho => by
      unfold grownStep at ho
      split at ho
      · rcases List.mem_append.mp ho with ho | ho
        · exact hs o ho
        · rw [List.mem_singleton.mp ho]; exact hm
      · exact hs o ho
    rw [List.foldl_cons, List.foldl_cons, ← e2]
    exact grown_state t l hs2 fun x hx => hl x (List.mem_cons_of_mem _ hx)
theorem gFold_sub {T : Nat} : ∀ (l : List Nat) {f : List Nat} {x : Nat}, x ∈ f → x ∈ l.foldl (gStep T) f
  | [], _, _, h => h
  | m :: l, f, x, h => gFold_sub l (by
    unfold gStep
    split
    · exact spanStep_mem.mpr (.inl h)
    · exact h)
/-! ### all ways to add commuting masks, few at a time -/
def chk (T n : Nat) (Pf : List Nat → Bool) : Nat → List Nat → Bool
  | 0, f => Pf f
  | d + 1, f => Pf f && (List.range (1 <<< n)).all fun m => decide (m ∈ f) || !(comm T f m) || chk T n Pf d (spanStep f m)
theorem chk_P {T n : Nat} {Pf : List Nat → Bool} : ∀ {d : Nat} {f : List Nat}, chk T n Pf d f = true → Pf f = true
  | 0, _, h => h
  | d + 1, _, h => by unfold chk at h; exact (Bool.and_eq_true_iff.mp h).1
theorem chk_mono {T n : Nat} {Pf : List Nat → Bool} : ∀ {d : Nat} {f : List Nat}, chk T n Pf (d + 1) f = true → chk T n Pf d f = true
  | 0, _, h => chk_P h
  | d + 1, f, h => by
    unfold chk at h ⊢
    rw [Bool.and_eq_true] at h ⊢
    refine ⟨h.1, List.all_eq_true.mpr fun m hm => ?_⟩
    have := List.all_eq_true.mp h.2 m hm
    rw [Bool.or_eq_true] at this ⊢
    exact this.imp id fun z => chk_mono z
theorem chk_run {T n : Nat} {Pf : List Nat → Bool} (l : Lin T) (hn : 1 <<< n ≤ 16) : ∀ (ms : List Nat) {d : Nat} {f : List Nat}, chk T n Pf d f = true → ms.length ≤ d → (∀ m, m ∈ ms → m < 1 <<< n) → (∀ x, x ∈ f → x < 16) → (∀ m, m ∈ ms → ∀ o, o ∈ f → bt T m o = 0) → (∀ a, a ∈ ms → ∀ b, b ∈ ms → bt T a b = 0) → Pf (ms.foldl spanStep f) = true
  | [], _, _, h, _, _, _, _, _ => chk_P h
  | m :: ms, 0, _, _, hd, _, _, _, _ => by simp at hd
  | m :: ms, d + 1, f, h, hd, hm, hf, hc, hp => by
    have hmn := hm m List.mem_cons_self
    have m16 : m < 16 := by omega
    have rest := fun x (hx : x ∈ ms) => hm x (List.mem_cons_of_mem _ hx)
    rw [List.foldl_cons]
    by_cases q : m ∈ f
    · have e : spanStep f m = f := by unfold spanStep; rw [if_pos q]
      rw [e]
      exact chk_run l hn ms (chk_mono h) (by simpa using hd) rest hf (fun x hx => hc x (List.mem_cons_of_mem _ hx)) fun a ha b hb => hp a (List.mem_cons_of_mem _ ha) b (List.mem_cons_of_mem _ hb)
    · unfold chk at h
      have h2 := List.all_eq_true.mp (Bool.and_eq_true_iff.mp h).2 m (List.mem_range.mpr hmn)
      have cm : comm T f m = true := by
        unfold comm
        rw [List.all_eq_true]
        intro o ho
        rw [hc m List.mem_cons_self o ho]; rfl
      rw [decide_eq_false q, cm] at h2
      have h3 : chk T n Pf d (spanStep f m) = true := by simpa using h2
      refine chk_run l hn ms h3 (by simpa using hd) rest (fun x hx => ?_) (fun x hx o ho => ?_) fun a ha b hb => hp a (List.mem_cons_of_mem _ ha) b (List.mem_cons_of_mem _ hb)
      · rcases spanStep_mem.mp hx with z | ⟨_, a, ha, e⟩
        · exact hf x z
        · rw [e]; exact xor_16 (hf a ha) m16
      · have x16 : x < 16 := by have := rest x hx; omega
        rcases spanStep_mem.mp ho with z | ⟨_, a, ha, e⟩
        · exact hc x (List.mem_cons_of_mem _ hx) o z
        · rw [e]; exact l.x x x16 a (hf a ha) m m16 (hc x (List.mem_cons_of_mem _ hx) a ha) (hp x (List.mem_cons_of_mem _ hx) m List.mem_cons_self)
def P1 (T n len : Nat) (f : List Nat) : Bool := let g := gFold T n f; decide (g.length = len) && (g.all fun a => decide (a < 1 <<< n)) && g.all fun a => g.all fun b => bt T a b == 0
def P2 (sz r2 : Nat) (ls : List (List Nat)) (f : List Nat) : Bool := (List.range 5).any fun u => decide (f.length = sz <<< u) && decide (u ≤ r2) && decide (prodN (r2 - u) = (ls.filter fun l => f.all fun x => decide (x ∈ l)).length)
theorem tab_sil : (tabL.all fun e => ((spanN (silentN e.1)).all fun o => decide (o < 16) && (List.range 16).all fun m => bt e.2.1 m o == 0 || decide (1 <<< e.1.n ≤ m)) && decide (0 < szN e.1) && e.2.2.all fun l => decide (0 ∈ l) && (silentN e.1).all (fun o => decide (o ∈ l)) && l.all fun a => l.all fun b => decide ((a ^^^ b) ∈ l)) = true := by decide +kernel
end DL
set_option Elab.async false
set_option linter.all false
set_option maxRecDepth 100000
set_option maxHeartbeats 8000000
/-! The same, with a subspace held in the bits of one number. -/
namespace DL
open PySem PySem.Spec PyProof.Rows L2
def bit (B x : Nat) : Bool := Nat.beq (Nat.land (Nat.shiftRight B x) 1) 1
theorem bit_eq (B x : Nat) : bit B x = B.testBit x := by
  show Nat.beq ((B >>> x) &&& 1) 1 = _
  unfold Nat.testBit
  rw [Nat.and_comm]
  have h : 1 &&& (B >>> x) = 0 ∨ 1 &&& (B >>> x) = 1 := by rw [Nat.and_comm, Nat.and_one_is_mod]; omega
  rcases h with h | h <;> rw [h] <;> rfl
def sw1 (B : Nat) : Nat := Nat.lor (Nat.shiftLeft (Nat.land B 21845) 1) (Nat.land (Nat.shiftRight B 1) 21845)
def sw2 (B : Nat) : Nat := Nat.lor (Nat.shiftLeft (Nat.land B 13107) 2) (Nat.land (Nat.shiftRight B 2) 13107)
def sw4 (B : Nat) : Nat := Nat.lor (Nat.shiftLeft (Nat.land B 3855) 4) (Nat.land (Nat.shiftRight B 4) 3855)
def sw8 (B : Nat) : Nat := Nat.lor (Nat.shiftLeft (Nat.land B 255) 8) (Nat.land (Nat.shiftRight B 8) 255)
def tr (B : Nat) (m : Nat) : Nat :=
  let B1 := bif bit m 0 then sw1 B else B
  let B2 := bif bit m 1 then sw2 B1 else B1
  let B3 := bif bit m 2 then sw4 B2 else B2
  bif bit m 3 then sw8 B3 else B3
theorem sw1_bit (B : Nat) : ∀ x, x < 16 → (sw1 B).testBit x = B.testBit (x ^^^ 1) := fun x hx => by
  show (((B &&& 21845) <<< 1) ||| ((B >>> 1) &&& 21845)).testBit x = _
  rw [Nat.testBit_or, Nat.testBit_and, Nat.testBit_shiftLeft, Nat.testBit_and, Nat.testBit_shiftRight]
  match x, hx with
  | 0, _ => show (false && (B.testBit 0 && true) || B.testBit 1 && true) = B.testBit 1; cases B.testBit 0 <;> cases B.testBit 1 <;> rfl
  | 1, _ => show (true && (B.testBit 0 && true) || B.testBit 2 && false) = B.testBit 0; cases B.testBit 0 <;> cases B.testBit 2 <;> rfl
  | 2, _ => show (true && (B.testBit 1 && false) || B.testBit 3 && true) = B.testBit 3; cases B.testBit 1 <;> cases B.testBit 3 <;> rfl
  | 3, _ => show (true && (B.testBit 2 && true) || B.testBit 4 && false) = B.testBit 2; cases B.testBit 2 <;> cases B.testBit 4 <;> rfl
  | 4, _ => show (true && (B.testBit 3 && false) || B.testBit 5 && true) = B.testBit 5; cases B.testBit 3 <;> cases B.testBit 5 <;> rfl
  | 5, _ => show (true && (B.testBit 4 && true) || B.testBit 6 && false) = B.testBit 4; cases B.testBit 4 <;> cases B.testBit 6 <;> rfl
  | 6, _ => show (true && (B.testBit 5 && false) || B.testBit 7 && true) = B.testBit 7; cases B.testBit 5 <;> cases B.testBit 7 <;> rfl
  | 7, _ => show (true && (B.testBit 6 && true) || B.testBit 8 && false) = B.testBit 6; cases B.testBit 6 <;> cases B.testBit 8 <;> rfl
  | 8, _ => show (true && (B.testBit 7 && false) || B.testBit 9 && true) = B.testBit 9; cases B.testBit 7 <;> cases B.testBit 9 <;> rfl
  | 9, _ => show (true && (B.testBit 8 && true) || B.testBit 10 && false) = B.testBit 8; cases B.testBit 8 <;> cases B.testBit 10 <;> rfl
  | 10, _ => show (true && (B.testBit 9 && false) || B.testBit 11 && true) = B.testBit 11; cases B.testBit 9 <;> cases B.testBit 11 <;> rfl
  | 11, _ => show (true && (B.testBit 10 && true) || B.testBit 12 && false) = B.testBit 10; cases B.testBit 10 <;> cases B.testBit 12 <;> rfl
  | 12, _ => show (true && (B.testBit 11 && false) || B.testBit 13 && true) = B.testBit 13; cases B.testBit 11 <;> cases B.testBit 13 <;> rfl
  | 13, _ => show (true && (B.testBit 12 && true) || B.testBit 14 && false) = B.testBit 12; cases B.testBit 12 <;> cases B.testBit 14 <;> rfl
  | 14, _ => show (true && (B.testBit 13 && false) || B.testBit 15 && true) = B.testBit 15; cases B.testBit 13 <;> cases B.testBit 15 <;> rfl
  | 15, _ => show (true && (B.testBit 14 && true) || B.testBit 16 && false) = B.testBit 14; cases B.testBit 14 <;> cases B.testBit 16 <;> rfl
  | n + 16, h => omega
theorem sw2_bit (B : Nat) : ∀ x, x < 16 → (sw2 B).testBit x = B.testBit (x ^^^ 2) := fun x hx => by
  show (((B &&& 13107) <<< 2) ||| ((B >>> 2) &&& 13107)).testBit x = _
  rw [Nat.testBit_or, Nat.testBit_and, Nat.testBit_shiftLeft, Nat.testBit_and, Nat.testBit_shiftRight]
  match x, hx with
  | 0, _ => show (false && (B.testBit 0 && true) || B.testBit 2 && true) = B.testBit 2; cases B.testBit 0 <;> cases B.testBit 2 <;> rfl
  | 1, _ => show (false && (B.testBit 0 && true) || B.testBit 3 && true) = B.testBit 3; cases B.testBit 0 <;> cases B.testBit 3 <;> rfl
  | 2, _ => show (true && (B.testBit 0 && true) || B.testBit 4 && false) = B.testBit 0; cases B.testBit 0 <;> cases B.testBit 4 <;> rfl
  | 3, _ => show (true && (B.testBit 1 && true) || B.testBit 5 && false) = B.testBit 1; cases B.testBit 1 <;> cases B.testBit 5 <;> rfl
  | 4, _ => show (true && (B.testBit 2 && false) || B.testBit 6 && true) = B.testBit 6; cases B.testBit 2 <;> cases B.testBit 6 <;> rfl
  | 5, _ => show (true && (B.testBit 3 && false) || B.testBit 7 && true) = B.testBit 7; cases B.testBit 3 <;> cases B.testBit 7 <;> rfl
  | 6, _ => show (true && (B.testBit 4 && true) || B.testBit 8 && false) = B.testBit 4; cases B.testBit 4 <;> cases B.testBit 8 <;> rfl
  | 7, _ => show (true && (B.testBit 5 && true) || B.testBit 9 && false) = B.testBit 5; cases B.testBit 5 <;> cases B.testBit 9 <;> rfl
  | 8, _ => show (true && (B.testBit 6 && false) || B.testBit 10 && true) = B.testBit 10; cases B.testBit 6 <;> cases B.testBit 10 <;> rfl
  | 9, _ => show (true && (B.testBit 7 && false) || B.testBit 11 && true) = B.testBit 11; cases B.testBit 7 <;> cases B.testBit 11 <;> rfl
  | 10, _ => show (true && (B.testBit 8 && true) || B.testBit 12 && false) = B.testBit 8; cases B.testBit 8 <;> cases B.testBit 12 <;> rfl
  | 11, _ => show (true && (B.testBit 9 && true) || B.testBit 13 && false) = B.testBit 9; cases B.testBit 9 <;> cases B.testBit 13 <;> rfl
  | 12, _ => show (true && (B.testBit 10 && false) || B.testBit 14 && true) = B.testBit 14; cases B.testBit 10 <;> cases B.testBit 14 <;> rfl
  | 13, _ => show (true && (B.testBit 11 && false) || B.testBit 15 && true) = B.testBit 15; cases B.testBit 11 <;> cases B.testBit 15 <;> rfl
  | 14, _ => show (true && (B.testBit 12 && true) || B.testBit 16 && false) = B.testBit 12; cases B.testBit 12 <;> cases B.testBit 16 <;> rfl
  | 15, _ => show (true && (B.testBit 13 && true) || B.testBit 17 && false) = B.testBit 13; cases B.testBit 13 <;> cases B.testBit 17 <;> rfl
  | n + 16, h => omega
theorem sw4_bit (B : Nat) : ∀ x, x < 16 → (sw4 B).testBit x = B.testBit (x ^^^ 4) := fun x hx => by
  show (((B &&& 3855) <<< 4) ||| ((B >>> 4) &&& 3855)).testBit x = _
  rw [Nat.testBit_or, Nat.testBit_and, Nat.testBit_shiftLeft, Nat.testBit_and, Nat.testBit_shiftRight]
  match x, hx with
  | 0, _ => show (false && (B.testBit 0 && true) || B.testBit 4 && true) = B.testBit 4; cases B.testBit 0 <;> cases B.testBit 4 <;> rfl
  | 1, _ => show (false && (B.testBit 0 && true) || B.testBit 5 && true) = B.testBit 5; cases B.testBit 0 <;> cases B.testBit 5 <;> rfl
  | 2, _ => show (false && (B.testBit 0 && true) || B.testBit 6 && true) = B.testBit 6; cases B.testBit 0 <;> cases B.testBit 6 <;> rfl
  | 3, _ => show (false && (B.testBit 0 && true) || B.testBit 7 && true) = B.testBit 7; cases B.testBit 0 <;> cases B.testBit 7 <;> rfl
  | 4, _ => show (true && (B.testBit 0 && true) || B.testBit 8 && false) = B.testBit 0; cases B.testBit 0 <;> cases B.testBit 8 <;> rfl
  | 5, _ => show (true && (B.testBit 1 && true) || B.testBit 9 && false) = B.testBit 1; cases B.testBit 1 <;> cases B.testBit 9 <;> rfl
  | 6, _ => show (true && (B.testBit 2 && true) || B.testBit 10 && false) = B.testBit 2; cases B.testBit 2 <;> cases B.testBit 10 <;> rfl
  | 7, _ => show (true && (B.testBit 3 && true) || B.testBit 11 && false) = B.testBit 3; cases B.testBit 3 <;> cases B.testBit 11 <;> rfl
  | 8, _ => show (true && (B.testBit 4 && false) || B.testBit 12 && true) = B.testBit 12; cases B.testBit 4 <;> cases B.testBit 12 <;> rfl
  | 9, _ => show (true && (B.testBit 5 && false) || B.testBit 13 && true) = B.testBit 13; cases B.testBit 5 <;> cases B.testBit 13 <;> rfl
  | 10, _ => show (true && (B.testBit 6 && false) || B.testBit 14 && true) = B.testBit 14; cases B.testBit 6 <;> cases B.testBit 14 <;> rfl
  | 11, _ => show (true && (B.testBit 7 && false) || B.testBit 15 && true) = B.testBit 15; cases B.testBit 7 <;> cases B.testBit 15 <;> rfl
  | 12, _ => show (true && (B.testBit 8 && true) || B.testBit 16 && false) = B.testBit 8; cases B.testBit 8 <;> cases B.testBit 16 <;> rfl
  | 13, _ => show (true && (B.testBit 9 && true) || B.testBit 17 && false) = B.testBit 9; cases B.testBit 9 <;> cases B.testBit 17 <;> rfl
  | 14, _ => show (true && (B.testBit 10 && true) || B.testBit 18 && false) = B.testBit 10; cases B.testBit 10 <;> cases B.testBit 18 <;> rfl
  | 15, _ => show (true && (B.testBit 11 && true) || B.testBit 19 && false) = B.testBit 11; cases B.testBit 11 <;> cases B.testBit 19 <;> rfl
  | n + 16, h => omega
theorem sw8_bit (B : Nat) : ∀ x, x < 16 → (sw8 B).testBit x = B.testBit (x ^^^ 8) := fun x hx => by
  show (((B &&& 255) <<< 8) ||| ((B >>> 8) &&& 255)).testBit x = _
  rw [Nat.testBit_or, Nat.testBit_and, Nat.testBit_shiftLeft, Nat.testBit_and, Nat.testBit_shiftRight]
  match x, hx with
  | 0, _ => show (false && (B.testBit 0 && true) || B.testBit 8 && true) = B.testBit 8; cases B.testBit 0 <;> cases B.testBit 8 <;> rfl
  | 1, _ => show (false && (B.testBit 0 && true) || B.testBit 9 && true) = B.testBit 9; cases B.testBit 0 <;> cases B.testBit 9 <;> rfl
  | 2, _ => show (false && (B.testBit 0 && true) || B.testBit 10 && true) = B.testBit 10; cases B.testBit 0 <;> cases B.testBit 10 <;> rfl
  | 3, _ => show (false && (B.testBit 0 && true) || B.testBit 11 && true) = B.testBit 11; cases B.testBit 0 <;> cases B.testBit 11 <;> rfl
  | 4, _ => show (false && (B.testBit 0 && true) || B.testBit 12 && true) = B.testBit 12; cases B.testBit 0 <;> cases B.testBit 12 <;> rfl
  | 5, _ => show (false && (B.testBit 0 && true) || B.testBit 13 && true) = B.testBit 13; cases B.testBit 0 <;> cases B.testBit 13 <;> rfl
  | 6, _ => show (false && (B.testBit 0 && true) || B.testBit 14 && true) = B.testBit 14; cases B.testBit 0 <;> cases B.testBit 14 <;> rfl
  | 7, _ => show (false && (B.testBit 0 && true) || B.testBit 15 && true) = B.testBit 15; cases B.testBit 0 <;> cases B.testBit 15 <;> rfl
  | 8, _ => show (true && (B.testBit 0 && true) || B.testBit 16 && false) = B.testBit 0; cases B.testBit 0 <;> cases B.testBit 16 <;> rfl
  | 9, _ => show (true && (B.testBit 1 && true) || B.testBit 17 && false) = B.testBit 1; cases B.testBit 1 <;> cases B.testBit 17 <;> rfl
  | 10, _ => show (true && (B.testBit 2 && true) || B.testBit 18 && false) = B.testBit 2; cases B.testBit 2 <;> cases B.testBit 18 <;> rfl
  | 11, _ => show (true && (B.testBit 3 && true) || B.testBit 19 && false) = B.testBit 3; cases B.testBit 3 <;> cases B.testBit 19 <;> rfl
  | 12, _ => show (true && (B.testBit 4 && true) || B.testBit 20 && false) = B.testBit 4; cases B.testBit 4 <;> cases B.testBit 20 <;> rfl
  | 13, _ => show (true && (B.testBit 5 && true) || B.testBit 21 && false) = B.testBit 5; cases B.testBit 5 <;> cases B.testBit 21 <;> rfl
  | 14, _ => show (true && (B.testBit 6 && true) || B.testBit 22 && false) = B.testBit 6; cases B.testBit 6 <;> cases B.testBit 22 <;> rfl
  | 15, _ => show (true && (B.testBit 7 && true) || B.testBit 23 && false) = B.testBit 7; cases B.testBit 7 <;> cases B.testBit 23 <;> rfl
  | n + 16, h => omega
theorem tr_bit {B m x : Nat} (hm : m < 16) (hx : x < 16) : (tr B m).testBit x = B.testBit (x ^^^ m) := by
  have st : ∀ (b : Bool) (f : Nat → Nat) (s B x : Nat), s < 16 → (∀ B x, x < 16 → (f B).testBit x = B.testBit (x ^^^ s)) → x < 16 → (bif b then f B else B).testBit x = B.testBit (x ^^^ (bif b then s else 0)) := fun b f s B x hs hf hx => by
    cases b with
    | true => exact hf B x hx
    | false => show B.testBit x = B.testBit (x ^^^ 0); rw [Nat.xor_zero]
  have lt : ∀ (b : Bool) (s x : Nat), s < 16 → x < 16 → x ^^^ (bif b then s else 0) < 16 := fun b s x hs hx => xor_16 hx (match b with | true => hs | false => (by decide : (0 : Nat) < 16))
  have key : x ^^^ m = (((x ^^^ (bif bit m 3 then 8 else 0)) ^^^ (bif bit m 2 then 4 else 0)) ^^^ (bif bit m 1 then 2 else 0)) ^^^ (bif bit m 0 then 1 else 0) := by
    have all : ∀ m, m < 16 → ∀ x, x < 16 → x ^^^ m = (((x ^^^ (bif bit m 3 then 8 else 0)) ^^^ (bif bit m 2 then 4 else 0)) ^^^ (bif bit m 1 then 2 else 0)) ^^^ (bif bit m 0 then 1 else 0) := by decide +kernel
    exact all m hm x hx
  rw [key]
  unfold tr
  have h8 := lt (bit m 3) 8 x (by decide) hx
  have h4 := lt (bit m 2) 4 _ (by decide) h8
  have h2 := lt (bit m 1) 2 _ (by decide) h4
  rw [st (bit m 3) sw8 8 _ x (by decide) sw8_bit hx, st (bit m 2) sw4 4 _ _ (by decide) sw4_bit h8, st (bit m 1) sw2 2 _ _ (by decide) sw2_bit h4, st (bit m 0) sw1 1 _ _ (by decide) sw1_bit h2]
/-! ### checks over bits -/
def row (T m : Nat) : Nat := Nat.land (Nat.shiftRight T (Nat.mul 16 m)) 65535
def commB (T B m : Nat) : Bool := Nat.beq (Nat.land B (row T m)) 0
def stepB (B m : Nat) : Nat := Nat.lor B (tr B m)
def gStepB (T B m : Nat) : Nat := bif bit B m then B else bif commB T B m then stepB B m else B
def gFoldB (T n B : Nat) : Nat := (List.range (1 <<< n)).foldl (gStepB T) B
def popB (B : Nat) : Nat := ((List.range 16).filter (bit B)).length
def P1B (T n len B : Nat) : Bool := Nat.beq (popB (gFoldB T n B)) len && (List.range 16).all fun a => bif bit (gFoldB T n B) a then (Nat.blt a (1 <<< n) && commB T (gFoldB T n B) a) else true
def chkB (T n len : Nat) : Nat → Nat → Bool
  | 0, B => P1B T n len B
  | d + 1, B => P1B T n len B && (List.range (1 <<< n)).all fun m => bif bit B m then true else bif commB T B m then chkB T n len d (stepB B m) else true
structure Rep (B : Nat) (f : List Nat) : Prop where
  ok : SpanOk f
  cl : ∀ a, a ∈ f → ∀ b, b ∈ f → a ^^^ b ∈ f
  b : ∀ x, x < 16 → B.testBit x = decide (x ∈ f)
theorem rep_step {B m : Nat} {f : List Nat} (r : Rep B f) (hm : m < 16) (hf : m ∉ f) : Rep (stepB B m) (spanStep f m) := by
  refine ⟨spanStep_ok r.ok hm, fun a ha b hb => ?_, fun x hx => ?_⟩
  · have key : ∀ y, y ∈ spanStep f m ↔ y ∈ f ∨ y ^^^ m ∈ f := fun y => by
      rw [spanStep_mem]
      constructor
      · rintro (h | ⟨_, a, ha, e⟩)
        · exact .inl h
        · right; rw [e, Nat.xor_assoc, Nat.xor_self, Nat.xor_zero]; exact ha
      · rintro (h | h)
        · exact .inl h
        · exact .inr ⟨hf, _, h, by rw [Nat.xor_assoc, Nat.xor_self, Nat.xor_zero]⟩
    rw [key] at ha hb ⊢
    rcases ha with ha | ha <;> rcases hb with hb | hb
    · exact .inl (r.cl a ha b hb)
    · right; rw [Nat.xor_assoc]; exact r.cl a ha _ hb
    · right
      have e : a ^^^ b ^^^ m = (a ^^^ m) ^^^ b := by rw [Nat.xor_assoc, Nat.xor_comm b m, ← Nat.xor_assoc]
      rw [e]; exact r.cl _ ha b hb
    · left
      have e : a ^^^ b = (a ^^^ m) ^^^ (b ^^^ m) := by rw [Nat.xor_assoc, ← Nat.xor_assoc m b m, Nat.xor_comm m b, Nat.xor_assoc b m m, Nat.xor_self, Nat.xor_zero]
      rw [e]; exact r.cl _ ha _ hb
  · show (B ||| tr B m).testBit x = _
    rw [Nat.testBit_or, tr_bit hm hx, r.b x hx, r.b _ (xor_16 hx hm), Bool.eq_iff_iff]
    simp only [Bool.or_eq_true, decide_eq_true_eq]
    rw [spanStep_mem]
    constructor
    · rintro (h | h)
      · exact .inl h
      · exact .inr ⟨hf, _, h, by rw [Nat.xor_assoc, Nat.xor_self, Nat.xor_zero]⟩
    · rintro (h | ⟨_, a, ha, e⟩)
      · exact .inl h
      · right; rw [e, Nat.xor_assoc, Nat.xor_self, Nat.xor_zero]; exact ha
theorem rep_bit {B : Nat} {f : List Nat} (r : Rep B f) {x : Nat} (hx : x < 16) : bit B x = decide (x ∈ f) := by rw [bit_eq, r.b x hx]
theorem bt_bit (T s m : Nat) : bt T s m = (T.testBit (16 * m + s)).toNat := by
  unfold bt Nat.testBit
  have h : (T >>> (16 * m + s)) &&& 1 = 0 ∨ (T >>> (16 * m + s)) &&& 1 = 1 := by rw [Nat.and_one_is_mod]; omega
  rw [Nat.and_comm 1]
  rcases h with h | h <;> rw [h] <;> rfl
theorem rep_comm {T B m : Nat} {f : List Nat} (r : Rep B f) (hm : m < 16) (sym : ∀ a, a < 16 → ∀ b, b < 16 → bt T a b = bt T b a) : commB T B m = comm T f m := by
  rw [Bool.eq_iff_iff]
  unfold commB comm
  rw [List.all_eq_true]
  simp only [beq_iff_eq]
  have h0 : Nat.beq (Nat.land B (row T m)) 0 = true ↔ (B &&& row T m) = 0 := ⟨fun h => Nat.eq_of_beq_eq_true h, fun h => by rw [show Nat.land B (row T m) = 0 from h]; rfl⟩
  rw [h0]
  have rb : ∀ x, (row T m).testBit x = (decide (x < 16) && T.testBit (16 * m + x)) := fun x => by
    show ((T >>> (16 * m)) &&& 65535).testBit x = _
    rw [Nat.testBit_and, Nat.testBit_shiftRight, show (65535 : Nat) = 2 ^ 16 - 1 from rfl, Nat.testBit_two_pow_sub_one, Bool.and_comm]
  constructor
  · intro h o ho
    have o16 := r.ok.lt o ho
    rw [sym m hm o o16, bt_bit]
    have := congrArg (fun n => Nat.testBit n o) h
    simp only [Nat.testBit_and, Nat.zero_testBit] at this
    rw [rb o, r.b o o16, decide_eq_true ho, decide_eq_true o16] at this
    simp only [Bool.true_and] at this
    rw [this]; rfl
  · intro h
    refine Nat.eq_of_testBit_eq fun x => ?_
    rw [Nat.testBit_and, Nat.zero_testBit, rb x]
    by_cases hx : x < 16
    · rw [r.b x hx]
      by_cases hf : x ∈ f
      · have := h x hf
        rw [sym m hm x hx, bt_bit] at this
        cases q : T.testBit (16 * m + x) with
        | false => simp
        | true => rw [q] at this; cases this
      · rw [decide_eq_false hf]; rfl
    · rw [decide_eq_false hx]; simp
theorem rep_gStep {T B m : Nat} {f : List Nat} (r : Rep B f) (hm : m < 16) (sym : ∀ a, a < 16 → ∀ b, b < 16 → bt T a b = bt T b a) : Rep (gStepB T B m) (gStep T f m) := by
  unfold gStepB gStep
  rw [rep_bit r hm, rep_comm r hm sym]
  by_cases h : m ∈ f
  · rw [decide_eq_true h]; exact r
  · rw [decide_eq_false h]
    cases q : comm T f m with
    | true => exact rep_step r hm h
    | false => exact r
theorem rep_gFold {T : Nat} (sym : ∀ a, a < 16 → ∀ b, b < 16 → bt T a b = bt T b a) : ∀ (l : List Nat) {B : Nat} {f : List Nat}, Rep B f → (∀ m, m ∈ l → m < 16) → Rep (l.foldl (gStepB T) B) (l.foldl (gStep T) f)
  | [], _, _, r, _ => r
  | m :: l, _, _, r, hl => rep_gFold sym l (rep_gStep r (hl m List.mem_cons_self) sym) fun x hx => hl x (List.mem_cons_of_mem _ hx)
theorem rep_P1 {T n len B : Nat} {f : List Nat} (hn : 1 <<< n ≤ 16) (r : Rep B f) (sym : ∀ a, a < 16 → ∀ b, b < 16 → bt T a b = bt T b a) (h : P1B T n len B = true) : P1 T n len f = true := by
  have rg : Rep (gFoldB T n B) (gFold T n f) := rep_gFold sym (List.range (1 <<< n)) r fun m hm => by have := List.mem_range.mp hm; omega
  unfold P1B at h
  rw [Bool.and_eq_true] at h
  have hp : popB (gFoldB T n B) = (gFold T n f).length := by
    unfold popB
    refine List.Perm.length_eq ((List.perm_ext_iff_of_nodup (List.nodup_range.filter _) rg.ok.nd).mpr fun x => ?_)
    rw [List.mem_filter, List.mem_range]
    constructor
    · rintro ⟨h1, h2⟩; rw [rep_bit rg h1] at h2; exact of_decide_eq_true h2
    · intro h; have h1 := rg.ok.lt x h; exact ⟨h1, by rw [rep_bit rg h1]; exact decide_eq_true h⟩
  have each : ∀ a, a ∈ gFold T n f → a < 1 <<< n ∧ comm T (gFold T n f) a = true := fun a ha => by
    have a16 := rg.ok.lt a ha
    have := List.all_eq_true.mp h.2 a (List.mem_range.mpr a16)
    rw [rep_bit rg a16, decide_eq_true ha, cond_true, Bool.and_eq_true, rep_comm rg a16 sym] at this
    exact ⟨by have h := this.1; unfold Nat.blt at h; exact Nat.le_of_ble_eq_true h, this.2⟩
  unfold P1
  simp only [Bool.and_eq_true, decide_eq_true_eq, List.all_eq_true]
  refine ⟨⟨by rw [← hp]; exact Nat.eq_of_beq_eq_true h.1, fun a ha => (each a ha).1⟩, fun a ha b hb => ?_⟩
  have := (each a ha).2
  unfold comm at this
  exact List.all_eq_true.mp this b hb
theorem rep_chk {T n len : Nat} (hn : 1 <<< n ≤ 16) (sym : ∀ a, a < 16 → ∀ b, b < 16 → bt T a b = bt T b a) : ∀ (d : Nat) {B : Nat} {f : List Nat}, Rep B f → chkB T n len d B = true → chk T n (P1 T n len) d f = true
  | 0, _, _, r, h => rep_P1 hn r sym h
  | d + 1, B, f, r, h => by
    unfold chkB at h
    unfold chk
    rw [Bool.and_eq_true] at h ⊢
    refine ⟨rep_P1 hn r sym h.1, List.all_eq_true.mpr fun m hm => ?_⟩
    have m16 : m < 16 := by have := List.mem_range.mp hm; omega
    have h2 := List.all_eq_true.mp h.2 m hm
    rw [rep_bit r m16, rep_comm r m16 sym] at h2
    by_cases q : m ∈ f
    · rw [decide_eq_true q]; rfl
    · rw [decide_eq_false q, cond_false] at h2
      rw [decide_eq_false q]
      cases c : comm T f m with
      | false => rfl
      | true =>
        rw [c, cond_true] at h2
        rw [rep_chk hn sym d (rep_step r m16 q) h2]
        rfl
theorem rep0 : Rep 1 [0] := ⟨⟨by simp, by simp, by simp⟩, by simp, fun x hx => by
  match x, hx with
  | 0, _ => rfl
  | n + 1, _ => simp [Nat.testBit_succ]⟩
theorem tab_p1B : (tabL.all fun e => chkB e.2.1 e.1.n (e.2.2.headD []).length 3 1) = true := by decide +kernel
theorem tab_p1 {c : Co} {T : Nat} {ls : List (List Nat)} (hc : c ∈ comps) (t : TabE c T ls) : chk T c.n (P1 T c.n (ls.headD []).length) 3 [0] = true :=
  rep_chk (pow16 (good_of hc)) (fun a ha b hb => by rw [t.bt a ha b hb, t.bt b hb a ha, btw_sym]) 3 rep0 (List.all_eq_true.mp tab_p1B _ t.mem)
end DL
set_option Elab.async false
set_option linter.all false
set_option maxRecDepth 100000
set_option maxHeartbeats 8000000
namespace DL
open PySem PySem.Spec PyProof.Rows L2
theorem tab_p2 : (tabL.all fun e => chk e.2.1 e.1.n (P2 (szN e.1) (rankN e.1 / 2) e.2.2) 3 (spanN (silentN e.1))) = true := by decide +kernel
end DL
set_option Elab.async false
set_option linter.all false
set_option maxRecDepth 100000
set_option maxHeartbeats 8000000
namespace DL
open PySem PySem.Spec PyProof.Rows L2
/-! ### every commuting part of the order is among the lots -/
theorem lots_all {c : Co} : ∀ (l : List Nat) {lots : List (List Nat)} {A S : List Nat}, A ∈ lots → S.Sublist l → (∀ a, a ∈ A ++ S → ∀ b, b ∈ A ++ S → signN c a b ≠ 1) → A ++ S ∈ l.foldl (lotsStep c) lots
  | [], lots, A, S, hA, hS, _ => by
    have : S = [] := List.sublist_nil.mp hS
    rw [this, List.append_nil]; exact hA
  | m :: l, lots, A, S, hA, hS, hc => by
    rw [List.foldl_cons]
    have keep : A ∈ lotsStep c lots m := List.mem_flatMap.mpr ⟨A, hA, by unfold lotStep; split <;> simp⟩
    cases hS with
    | cons _ h => exact lots_all l keep h hc
    | cons_cons _ h =>
      rename_i S'
      have more : A ++ [m] ∈ lotsStep c lots m := List.mem_flatMap.mpr ⟨A, hA, by
        unfold lotStep
        rw [if_pos]
        · simp
        · rw [List.isEmpty_iff, List.filter_eq_nil_iff]
          intro s hs
          have := hc s (List.mem_append_left _ hs) m (List.mem_append_right _ List.mem_cons_self)
          simpa using this⟩
      have := lots_all l (A := A ++ [m]) more h (by simpa using hc)
      simpa using this
/-- a strictly ascending list whose members are all in another -/
theorem sub_of {key : Nat → Nat} : ∀ {A B : List Nat}, A.Pairwise (fun a b => key a < key b) → B.Pairwise (fun a b => key a < key b) → (∀ x, x ∈ A → x ∈ B) → A.Sublist B
  | [], B, _, _, _ => List.nil_sublist _
  | a :: A, [], _, _, h => absurd (h a List.mem_cons_self) (by simp)
  | a :: A, b :: B, hA, hB, h => by
    have hA' := List.pairwise_cons.mp hA
    have hB' := List.pairwise_cons.mp hB
    by_cases e : a = b
    · subst e
      refine List.Sublist.cons_cons _ (sub_of hA'.2 hB'.2 fun x hx => ?_)
      rcases List.mem_cons.mp (h x (List.mem_cons_of_mem _ hx)) with z | z
      · have := hA'.1 x hx; rw [z] at this; omega
      · exact z
    · refine List.Sublist.cons _ (sub_of hA hB'.2 fun x hx => ?_)
      rcases List.mem_cons.mp (h x hx) with z | z
      · subst z
        rcases List.mem_cons.mp hx with q | q
        · exact absurd q.symm e
        · have h1 := hA'.1 x q
          rcases List.mem_cons.mp (h a List.mem_cons_self) with w | w
          · exact absurd w e
          · have h2 := hB'.1 a w
            omega
      · exact z
theorem clash_comm {c : Co} {ks : List (Nat × Nat)} (h : Clash c ks .none) : ∀ a, a ∈ ks.map (·.1) → ∀ b, b ∈ ks.map (·.1) → btw c a b = 0 := fun a ha b hb => by
  obtain ⟨i, hi, ea⟩ := List.mem_iff_getElem.mp ha
  obtain ⟨j, hj, eb⟩ := List.mem_iff_getElem.mp hb
  rw [List.length_map] at hi hj
  have gi : (ks.getD i (0, 0)).1 = a := by rw [List.getD_eq_getElem?_getD, List.getElem?_eq_getElem hi, ← ea, List.getElem_map]; rfl
  have gj : (ks.getD j (0, 0)).1 = b := by rw [List.getD_eq_getElem?_getD, List.getElem?_eq_getElem hj, ← eb, List.getElem_map]; rfl
  cases h with
  | no h =>
    have two := btw_lt c a b
    by_cases q : i < j
    · have := h i j q hj
      unfold cl at this
      rw [gi, gj] at this
      have : btw c a b ≠ 1 := by simpa using this
      omega
    · by_cases q2 : j < i
      · have := h j i q2 hi
        unfold cl at this
        rw [gi, gj] at this
        have : btw c b a ≠ 1 := by simpa using this
        rw [btw_sym] at this
        omega
      · have : i = j := by omega
        subst this
        rw [← gi, ← gj]; exact btw_self c _
theorem kf_of {c : Co} {ks : List (Nat × Nat)} (hc : c ∈ comps) (hk : ∀ k, k ∈ ks → KindOk c k) (hl : ks.length ≤ 3) (hcl : Clash c ks .none) : KF c ks := by
  obtain ⟨T, ls, t⟩ := tab_of hc
  have g := good_of hc
  have hpow := pow16 g
  have cf := cf_of hc
  have es := sLots_T hc t
  have lin := lin_of t
  generalize hms : ks.map (·.1) = ms
  have msl : ms.length ≤ 3 := by rw [← hms, List.length_map]; exact hl
  have msn : ∀ m, m ∈ ms → m < 1 <<< c.n := fun m hm => by
    rw [← hms] at hm
    obtain ⟨k, hk', rfl⟩ := List.mem_map.mp hm
    rw [shl_pow]; exact (hk k hk').m
  have ms16 : ∀ m, m ∈ ms → m < 16 := fun m hm => by have := msn m hm; omega
  have cm : ∀ a, a ∈ ms → ∀ b, b ∈ ms → btw c a b = 0 := by rw [← hms]; exact clash_comm hcl
  have cmT : ∀ a, a ∈ ms → ∀ b, b ∈ ms → bt T a b = 0 := fun a ha b hb => by rw [t.bt a (ms16 a ha) b (ms16 b hb)]; exact cm a ha b hb
  -- the greatest lot
  have p1 := chk_run lin hpow ms (tab_p1 hc t) msl msn (by simp) (fun m hm o ho => by rw [List.mem_singleton.mp ho]; exact lin.z m (ms16 m hm)) cmT
  have eg : spanN (someN c ms) = gFold T c.n (ms.foldl spanStep [0]) := grown_state t (List.range (1 <<< c.n)) ms16 fun m hm => by have := List.mem_range.mp hm; omega
  have gL := growN_ok g ms16 (by omega)
  have mL : ∀ x, x ∈ growN c ms ↔ x ∈ gFold T c.n (ms.foldl spanStep [0]) := fun x => by unfold growN; rw [sortN_mem, eg]
  have lL : (growN c ms).length = (gFold T c.n (ms.foldl spanStep [0])).length := by unfold growN sortN; rw [isort_len, eg]
  unfold P1 at p1
  simp only [Bool.and_eq_true, decide_eq_true_eq, List.all_eq_true, beq_iff_eq] at p1
  obtain ⟨⟨q1, q2⟩, q3⟩ := p1
  have h0 : ls[0]? = some (isort rk (firstN c)) := by rw [← es]; exact cf.hd
  have hh : ls.headD [] = isort rk (firstN c) := by
    cases ls with
    | nil => cases h0
    | cons a r => cases h0; rfl
  rw [hh] at q1
  have Llt : ∀ m, m ∈ growN c ms → m < 1 <<< c.n := fun m hm => q2 m ((mL m).mp hm)
  have Lco : ∀ a, a ∈ growN c ms → ∀ b, b ∈ growN c ms → btw c a b = 0 := fun a ha b hb => by
    rw [← t.bt a (gL.2 a ha) b (gL.2 b hb)]
    exact q3 a ((mL a).mp ha) b ((mL b).mp hb)
  have pmL : (sLots c).Perm (lotsN c) := by unfold sLots; exact foldr_insL_perm _
  have Lmem : isort rk (growN c ms) ∈ sLots c := by
    rw [pmL.mem_iff]
    have first : isort rk (firstN c) ∈ lotsN c := pmL.mem_iff.mp (by rw [es]; exact List.mem_of_getElem? h0)
    have hlen := (List.mem_filter.mp first).2
    refine List.mem_filter.mpr ⟨?_, ?_⟩
    · have := lots_all (c := c) (ordM c.n) (lots := [[]]) (A := []) (S := isort rk (growN c ms)) (by simp) (sub_of (key := rk) (isort_strict rk gL.1 fun a ha b hb => rk_inj a (gL.2 a ha) b (gL.2 b hb)) (isort_strict rk List.nodup_range fun a ha b hb => rk_inj a (by have := List.mem_range.mp ha; omega) b (by have := List.mem_range.mp hb; omega)) fun x hx => (isort_mem rk).mpr (List.mem_range.mpr (Llt x ((isort_mem rk).mp hx)))) (fun a ha b hb => by
        rw [List.nil_append] at ha hb
        have ha' := (isort_mem rk).mp ha
        have hb' := (isort_mem rk).mp hb
        rw [t.sg a (gL.2 a ha') b (gL.2 b hb'), Lco a ha' b hb']
        decide)
      exact this
    · rw [isort_len, lL, q1]; exact hlen
  -- the count
  have sl := List.all_eq_true.mp tab_sil _ t.mem
  simp only [Bool.and_eq_true, List.all_eq_true, decide_eq_true_eq, Bool.or_eq_true, beq_iff_eq] at sl
  obtain ⟨⟨s1, s2⟩, s3⟩ := sl
  have p2 := chk_run lin hpow ms (List.all_eq_true.mp tab_p2 _ t.mem) msl msn (fun x hx => (s1 x hx).1) (fun m hm o ho => by
    rcases (s1 o ho).2 m (List.mem_range.mpr (ms16 m hm)) with h | h
    · exact h
    · have := msn m hm; omega) cmT
  have eb : baseN c ks = ms.foldl spanStep (spanN (silentN c)) := by unfold baseN spanN; rw [List.foldl_append, hms]
  unfold P2 at p2
  obtain ⟨u, hu, hp⟩ := List.any_eq_true.mp p2
  simp only [Bool.and_eq_true, decide_eq_true_eq] at hp
  obtain ⟨⟨r1, r2⟩, r3⟩ := hp
  have so := spanN_ok (silent_lt g)
  have ef : ls.filter (holds ks) = ls.filter fun l => (ms.foldl spanStep (spanN (silentN c))).all fun x => decide (x ∈ l) := by
    refine List.filter_congr fun l hl' => ?_
    have cl := s3 l hl'
    rw [Bool.eq_iff_iff]
    unfold holds
    rw [List.isEmpty_iff, List.filter_eq_nil_iff, List.all_eq_true]
    simp only [decide_eq_true_eq]
    constructor
    · intro h
      have base : ∀ x, x ∈ spanN (silentN c) → x ∈ l := fold_in (S := fun x => x ∈ l) (fun a b ha hb => cl.2 a ha b hb) (silentN c) (f := [0]) (fun x hx => by rw [List.mem_singleton.mp hx]; exact cl.1.1) fun x hx => cl.1.2 x hx
      refine fold_in (S := fun x => x ∈ l) (fun a b ha hb => cl.2 a ha b hb) ms base fun m hm => ?_
      rw [← hms] at hm
      obtain ⟨k, hk', rfl⟩ := List.mem_map.mp hm
      have := h k hk'
      simpa using this
    · intro h k hk'
      have : k.1 ∈ ms := by rw [← hms]; exact List.mem_map.mpr ⟨k, hk', rfl⟩
      have := h k.1 (fold_has ms so.z this)
      simp [this]
  refine ⟨⟨u, fun i hi => ?_, ?_, r2, ?_⟩, ?_, ?_, ?_, ?_, ?_, ?_⟩
  · rw [eb, r1, Nat.shiftLeft_eq, Nat.shiftLeft_eq]
    exact Nat.mul_lt_mul_of_pos_left (Nat.pow_lt_pow_right (by decide) hi) s2
  · rw [eb, r1]; exact Nat.le_refl _
  · rw [r3, es, ef]
  · rw [hms]; exact gL.1
  · rw [hms]; exact Llt
  · rw [hms, lL, q1]; exact cf.sz
  · rw [hms]; exact Lco
  · rw [hms]; exact Lmem
  · intro k hk'
    rw [hms, mL]
    exact gFold_sub _ (fold_has ms (by simp) (by rw [← hms]; exact List.mem_map.mpr ⟨k, hk', rfl⟩))
end DL
set_option Elab.async false
set_option linter.all false
set_option maxRecDepth 100000
set_option maxHeartbeats 8000000
namespace DL
open PySem PySem.Spec PyProof.Rows L2
/-- a def as it stands behind the top -/
structure Df (K : PySem.W.Frag) (mg : Str → Option Value) (x : Str) (st : Stmt) (ps : List Str) (f : Addr) (fd : FuncData) : Prop where
  F : Fun K x x st f fd
  m : mg x = some (.ref f)
  b : Binds K fd ps []
section
variable {P : Program} {w : World} {K : PySem.W.Frag} {mg : Str → Option Value} {base : Heap}
theorem Df.cal {x : Str} {st : Stmt} {ps : List Str} {f : Addr} {fd : FuncData} {k : Nat} {R : List D → D → Prop} (d : Df K mg x st ps f fd) (h : FnOk P w K mg base CX0 k f fd ps (spD K R)) : Callee P w K mg base k x R := callee_of h d.m d.F.kp d.b
theorem Df.calR {x : Str} {st : Stmt} {ps : List Str} {f : Addr} {fd : FuncData} {k : Nat} {R : List D → (D → Prop) → Prop} (d : Df K mg x st ps f fd) (h : FnOk P w K mg base CX0 k f fd ps (spRow K R)) : CalleeR P w K mg base k x R := ⟨⟨f, fd, ps, h, d.m, d.F.kp, d.b⟩⟩
theorem Df.calX {x : Str} {st : Stmt} {ps : List Str} {f C : Addr} {fd : FuncData} {k : Nat} {R : List D → D → Prop} {RX : List D → Int → Int → Prop} (d : Df K mg x st ps f fd) (h : FnOk P w K mg base (L2.CX P w) k f fd ps (spDX K C R RX)) : CalleeX P w K mg base C k x f R RX := ⟨d.m, d.F.kp, fd, ps, h, d.b⟩

theorem law_ok {C fI f0 f1 f2 f3 f4 f5 f6 f7 f8 f9 f10 f11 f12 f13 f14 f15 f16 f17 f18 f19 f20 f21 f22 f23 f24 f25 f26 f27 f28 f29 f30 f31 f32 f33 f34 f35 f36 f37 f38 f39 f40 f41 f42 : Addr} {fdI fd0 fd1 fd2 fd3 fd4 fd5 fd6 fd7 fd8 fd9 fd10 fd11 fd12 fd13 fd14 fd15 fd16 fd17 fd18 fd19 fd20 fd21 fd22 fd23 fd24 fd25 fd26 fd27 fd28 fd29 fd30 fd31 fd32 fd33 fd34 fd35 fd36 fd37 fd38 fd39 fd40 fd41 fd42 : FuncData} (M : Nm mg) (N : NcC K mg C fI) (FI : Fun K "__init__" "NotCommuting.__init__" sNcI fI fdI) (hbI : Binds K fdI ["self", "one", "other"] [])
    (d0 : Df K mg "whole" sWhole ["value"] f0 fd0)
    (d1 : Df K mg "within" sWithin ["value", "low", "high"] f1 fd1)
    (d2 : Df K mg "tuple_of" sTupleOf ["value", "low", "high"] f2 fd2)
    (d3 : Df K mg "is_pair" sIsPair ["many", "value"] f3 fd3)
    (d4 : Df K mg "need_company" sNeedCompany ["company"] f4 fd4)
    (d5 : Df K mg "is_set" sIsSet ["company", "value"] f5 fd5)
    (d6 : Df K mg "is_kind" sIsKind ["company", "value"] f6 fd6)
    (d7 : Df K mg "need_kinds" sNeedKinds ["company", "kinds"] f7 fd7)
    (d8 : Df K mg "mask_of" sMaskOf ["letters"] f8 fd8)
    (d9 : Df K mg "letters_of" sLettersOf ["mask"] f9 fd9)
    (d10 : Df K mg "friends_of_all" sFriendsOfAll ["company"] f10 fd10)
    (d11 : Df K mg "crossed" sCrossed ["company", "one", "other"] f11 fd11)
    (d12 : Df K mg "inner" sInner ["kind"] f12 fd12)
    (d13 : Df K mg "between" sBetween ["company", "one", "other"] f13 fd13)
    (d14 : Df K mg "silent_masks" sSilent ["company"] f14 fd14)
    (d15 : Df K mg "rank_of" sRank ["company"] f15 fd15)
    (d16 : Df K mg "all_kinds" sAllKinds ["company"] f16 fd16)
    (d17 : Df K mg "as_kinds" sAsKinds ["masks"] f17 fd17)
    (d18 : Df K mg "clash_of" sClashOf ["company", "kinds"] f18 fd18)
    (d19 : Df K mg "clash" sClash ["company", "kinds"] f19 fd19)
    (d20 : Df K mg "greatest_size" sGSize ["company"] f20 fd20)
    (d21 : Df K mg "count_greatest" sGCount ["company"] f21 fd21)
    (d22 : Df K mg "span" sSpan ["masks"] f22 fd22)
    (d23 : Df K mg "grown" sGrown ["company", "masks"] f23 fd23)
    (d24 : Df K mg "first_lot" sFirst ["company"] f24 fd24)
    (d25 : Df K mg "is_greatest" sIsGreatest ["company", "value"] f25 fd25)
    (d26 : Df K mg "greatest_lots" sGLots ["company"] f26 fd26)
    (d27 : Df K mg "need_commuting" sNeedComm ["company", "kinds"] f27 fd27)
    (d28 : Df K mg "greatest_lot" sGreatestLot ["company", "kinds"] f28 fd28)
    (d29 : Df K mg "how_many_with" sHowMany ["company", "kinds"] f29 fd29)
    (d30 : Df K mg "_law_sets" sLSets ["_law_many"] f30 fd30)
    (d31 : Df K mg "_law_sets_of" sLSetsOf ["_law_company_here"] f31 fd31)
    (d32 : Df K mg "_law_friend" sLFriend ["_law_company_here", "_law_one", "_law_other"] f32 fd32)
    (d33 : Df K mg "_law_sign" sLSign ["_law_company_here", "_law_one", "_law_other"] f33 fd33)
    (d34 : Df K mg "_law_lots_of" sLLots ["_law_company_here"] f34 fd34)
    (d35 : Df K mg "_law_pairs" sLPairs ["_law_many"] f35 fd35)
    (d36 : Df K mg "_law_alike" sLAlike ["_law_found", "_law_due"] f36 fd36)
    (d37 : Df K mg "_law_taken" sLTaken ["_law_row", "_law_many"] f37 fd37)
    (d38 : Df K mg "_law_pick" sLPick ["_law_row", "_law_things"] f38 fd38)
    (d39 : Df K mg "_law_drawn_kind" sLDKind ["_law_row", "_law_company_here"] f39 fd39)
    (d40 : Df K mg "_law_drawn_kinds" sLDKinds ["_law_row", "_law_company_here", "_law_most"] f40 fd40)
    (d41 : Df K mg "_law_company" sLCompany ["_law_row", "_law_most"] f41 fd41)
    (d42 : Df K mg "law" sLaw ["_law_script"] f42 fd42) :
    FnOk P w K mg base CX0 7 f42 fd42 ["_law_script"] (spLaw K) := by
  have c_whole := d0.cal (P := P) (w := w) (base := base) (ok_whole d0.F M)
  have c_within := d1.cal (P := P) (w := w) (base := base) (ok_within d1.F c_whole)
  have c_tuple_of := d2.cal (P := P) (w := w) (base := base) (ok_tupleOf d2.F M)
  have c_is_pair := d3.cal (P := P) (w := w) (base := base) (ok_isPair d3.F M c_whole c_tuple_of)
  have c_need_company := d4.cal (P := P) (w := w) (base := base) (ok_needCompany d4.F M c_within c_tuple_of c_is_pair)
  have c_is_set := d5.cal (P := P) (w := w) (base := base) (ok_isSet d5.F M)
  have c_is_kind := d6.cal (P := P) (w := w) (base := base) (ok_isKind d6.F c_within c_tuple_of c_is_set)
  have c_need_kinds := d7.cal (P := P) (w := w) (base := base) (ok_needKinds d7.F M c_tuple_of c_is_kind)
  have c_mask_of := d8.cal (P := P) (w := w) (base := base) (ok_maskOf d8.F M)
  have c_letters_of := d9.cal (P := P) (w := w) (base := base) (ok_lettersOf d9.F M)
  have c_friends_of_all := d10.cal (P := P) (w := w) (base := base) (ok_friendsOfAll d10.F )
  have c_crossed := d11.cal (P := P) (w := w) (base := base) (ok_crossed d11.F M)
  have c_inner := d12.cal (P := P) (w := w) (base := base) (ok_inner d12.F c_mask_of)
  have c_between := d13.cal (P := P) (w := w) (base := base) (ok_between d13.F c_crossed)
  have c_silent_masks := d14.cal (P := P) (w := w) (base := base) (ok_silentMasks d14.F M c_friends_of_all)
  have c_rank_of := d15.cal (P := P) (w := w) (base := base) (ok_rankOf d15.F M c_silent_masks)
  have c_all_kinds := d16.cal (P := P) (w := w) (base := base) (ok_allKinds d16.F M c_letters_of)
  have c_as_kinds := d17.cal (P := P) (w := w) (base := base) (ok_asKinds d17.F M c_letters_of)
  have c_clash_of := d18.cal (P := P) (w := w) (base := base) (ok_clashOf d18.F M c_between c_inner)
  have c_clash := d19.cal (P := P) (w := w) (base := base) (ok_clash d19.F c_need_company c_need_kinds c_clash_of)
  have c_greatest_size := d20.cal (P := P) (w := w) (base := base) (ok_gSize d20.F c_need_company c_rank_of)
  have c_count_greatest := d21.cal (P := P) (w := w) (base := base) (ok_gCount d21.F M c_need_company c_rank_of)
  have c_span := d22.cal (P := P) (w := w) (base := base) (ok_span d22.F M)
  have c_grown := d23.cal (P := P) (w := w) (base := base) (ok_grown d23.F M c_span c_between)
  have c_first_lot := d24.cal (P := P) (w := w) (base := base) (ok_firstLot d24.F M c_need_company c_inner c_letters_of c_between)
  have c_is_greatest := d25.cal (P := P) (w := w) (base := base) (ok_isGreatest d25.F M c_need_company c_rank_of c_all_kinds c_inner c_between)
  have c_greatest_lots := d26.cal (P := P) (w := w) (base := base) (ok_gLots d26.F M c_count_greatest c_span c_silent_masks c_rank_of c_between c_letters_of)
  have c_need_commuting := d27.calX (P := P) (w := w) (base := base) (ok_needComm d27.F N FI hbI c_need_company c_need_kinds c_clash_of)
  have c_greatest_lot := d28.calX (P := P) (w := w) (base := base) (ok_gLot d28.F c_need_commuting c_as_kinds c_grown c_inner)
  have c_how_many_with := d29.calX (P := P) (w := w) (base := base) (ok_howMany d29.F M c_need_commuting c_span c_silent_masks c_inner c_rank_of)
  have c__law_sets := d30.cal (P := P) (w := w) (base := base) (ok_lSets d30.F M)
  have c__law_sets_of := d31.cal (P := P) (w := w) (base := base) (ok_lSetsOf d31.F M c__law_sets)
  have c__law_friend := d32.cal (P := P) (w := w) (base := base) (ok_lFriend d32.F M)
  have c__law_sign := d33.cal (P := P) (w := w) (base := base) (ok_lSign d33.F M c__law_friend)
  have c__law_lots_of := d34.cal (P := P) (w := w) (base := base) (ok_lLots d34.F M c__law_sets_of c__law_sign)
  have c__law_pairs := d35.cal (P := P) (w := w) (base := base) (ok_lPairs d35.F M)
  have c__law_alike := fun n => d36.cal (P := P) (w := w) (base := base) (ok_lAlike d36.F M d36.m d36.b n)
  have c__law_taken := d37.calR (P := P) (w := w) (base := base) (ok_lTaken d37.F M rfl)
  have c__law_pick := d38.calR (P := P) (w := w) (base := base) (ok_lPick d38.F M c__law_taken)
  have c__law_drawn_kind := d39.calR (P := P) (w := w) (base := base) (ok_lDKind d39.F M c__law_taken)
  have c__law_drawn_kinds := d40.calR (P := P) (w := w) (base := base) (ok_lDKinds d40.F M c__law_taken c__law_drawn_kind)
  have c__law_company := d41.calR (P := P) (w := w) (base := base) (ok_lCompany d41.F M c__law_taken)
  exact ok_law d42.F ⟨M, N, c__law_taken, c__law_company, c__law_pick, c__law_drawn_kinds, c__law_lots_of, c__law_alike, c__law_pairs, c__law_sign, c_greatest_size, c_count_greatest, c_greatest_lots, c_first_lot, c_clash, c_is_greatest, c_greatest_lot, c_how_many_with⟩ (fun c hc => cf_of hc) (fun c ks hc hk hl hcl => kf_of hc hk hl hcl)
end
/-- an error of the class at S is what «except S» names -/
theorem exm_own {K : PySem.W.Frag} {S : Addr} (h1 : PySem.W.subIn K (.ref S) (.type "BaseException") = some true) (h2 : PySem.W.isClsIn K S = true) (h3 : PySem.W.typeIn K (.ref S) = some (.type "type")) (h4 : PySem.W.subIn K (.ref S) (.ref S) = some true) :
    PySem.W.exmOne K (.ref S) (.ref S) = some true := by
  have e1 : (PySem.W.subIn K (.ref S) (.type "BaseException") == some true) = true := by rw [h1] <;> rfl
  have e2 : ((PySem.W.clsIn K S).isSome && PySem.W.typeIn K (.ref S) == some (.type "type")) = true := by
    have h2' : (PySem.W.clsIn K S).isSome = true := h2
    rw [h2', h3] <;> rfl
  show (if (PySem.W.subIn K (.ref S) (.type "BaseException") == some true) = true then (if ((PySem.W.clsIn K S).isSome && PySem.W.typeIn K (.ref S) == some (.type "type")) = true then PySem.W.subIn K (.ref S) (.ref S) else none) else none) = some true
  rw [if_pos e1, if_pos e2]
  exact h4
theorem bd0 {K : PySem.W.Frag} {f : Addr} {fd : FuncData} (F : Fun K "whole" "whole" sWhole f fd) : Binds K fd ["value"] [] := F.binds (ps := ["value"]) fun _ _ _ _ _ _ us hl => match us, hl with | [_], _ => rfl
theorem bd1 {K : PySem.W.Frag} {f : Addr} {fd : FuncData} (F : Fun K "within" "within" sWithin f fd) : Binds K fd ["value", "low", "high"] [] := F.binds (ps := ["value", "low", "high"]) fun _ _ _ _ _ _ us hl => match us, hl with | [_, _, _], _ => rfl
theorem bd2 {K : PySem.W.Frag} {f : Addr} {fd : FuncData} (F : Fun K "tuple_of" "tuple_of" sTupleOf f fd) : Binds K fd ["value", "low", "high"] [] := F.binds (ps := ["value", "low", "high"]) fun _ _ _ _ _ _ us hl => match us, hl with | [_, _, _], _ => rfl
theorem bd3 {K : PySem.W.Frag} {f : Addr} {fd : FuncData} (F : Fun K "is_pair" "is_pair" sIsPair f fd) : Binds K fd ["many", "value"] [] := F.binds (ps := ["many", "value"]) fun _ _ _ _ _ _ us hl => match us, hl with | [_, _], _ => rfl
theorem bd4 {K : PySem.W.Frag} {f : Addr} {fd : FuncData} (F : Fun K "need_company" "need_company" sNeedCompany f fd) : Binds K fd ["company"] [] := F.binds (ps := ["company"]) fun _ _ _ _ _ _ us hl => match us, hl with | [_], _ => rfl
theorem bd5 {K : PySem.W.Frag} {f : Addr} {fd : FuncData} (F : Fun K "is_set" "is_set" sIsSet f fd) : Binds K fd ["company", "value"] [] := F.binds (ps := ["company", "value"]) fun _ _ _ _ _ _ us hl => match us, hl with | [_, _], _ => rfl
theorem bd6 {K : PySem.W.Frag} {f : Addr} {fd : FuncData} (F : Fun K "is_kind" "is_kind" sIsKind f fd) : Binds K fd ["company", "value"] [] := F.binds (ps := ["company", "value"]) fun _ _ _ _ _ _ us hl => match us, hl with | [_, _], _ => rfl
theorem bd7 {K : PySem.W.Frag} {f : Addr} {fd : FuncData} (F : Fun K "need_kinds" "need_kinds" sNeedKinds f fd) : Binds K fd ["company", "kinds"] [] := F.binds (ps := ["company", "kinds"]) fun _ _ _ _ _ _ us hl => match us, hl with | [_, _], _ => rfl
theorem bd8 {K : PySem.W.Frag} {f : Addr} {fd : FuncData} (F : Fun K "mask_of" "mask_of" sMaskOf f fd) : Binds K fd ["letters"] [] := F.binds (ps := ["letters"]) fun _ _ _ _ _ _ us hl => match us, hl with | [_], _ => rfl
theorem bd9 {K : PySem.W.Frag} {f : Addr} {fd : FuncData} (F : Fun K "letters_of" "letters_of" sLettersOf f fd) : Binds K fd ["mask"] [] := F.binds (ps := ["mask"]) fun _ _ _ _ _ _ us hl => match us, hl with | [_], _ => rfl
theorem bd10 {K : PySem.W.Frag} {f : Addr} {fd : FuncData} (F : Fun K "friends_of_all" "friends_of_all" sFriendsOfAll f fd) : Binds K fd ["company"] [] := F.binds (ps := ["company"]) fun _ _ _ _ _ _ us hl => match us, hl with | [_], _ => rfl
theorem bd11 {K : PySem.W.Frag} {f : Addr} {fd : FuncData} (F : Fun K "crossed" "crossed" sCrossed f fd) : Binds K fd ["company", "one", "other"] [] := F.binds (ps := ["company", "one", "other"]) fun _ _ _ _ _ _ us hl => match us, hl with | [_, _, _], _ => rfl
theorem bd12 {K : PySem.W.Frag} {f : Addr} {fd : FuncData} (F : Fun K "inner" "inner" sInner f fd) : Binds K fd ["kind"] [] := F.binds (ps := ["kind"]) fun _ _ _ _ _ _ us hl => match us, hl with | [_], _ => rfl
theorem bd13 {K : PySem.W.Frag} {f : Addr} {fd : FuncData} (F : Fun K "between" "between" sBetween f fd) : Binds K fd ["company", "one", "other"] [] := F.binds (ps := ["company", "one", "other"]) fun _ _ _ _ _ _ us hl => match us, hl with | [_, _, _], _ => rfl
theorem bd14 {K : PySem.W.Frag} {f : Addr} {fd : FuncData} (F : Fun K "silent_masks" "silent_masks" sSilent f fd) : Binds K fd ["company"] [] := F.binds (ps := ["company"]) fun _ _ _ _ _ _ us hl => match us, hl with | [_], _ => rfl
theorem bd15 {K : PySem.W.Frag} {f : Addr} {fd : FuncData} (F : Fun K "rank_of" "rank_of" sRank f fd) : Binds K fd ["company"] [] := F.binds (ps := ["company"]) fun _ _ _ _ _ _ us hl => match us, hl with | [_], _ => rfl
theorem bd16 {K : PySem.W.Frag} {f : Addr} {fd : FuncData} (F : Fun K "all_kinds" "all_kinds" sAllKinds f fd) : Binds K fd ["company"] [] := F.binds (ps := ["company"]) fun _ _ _ _ _ _ us hl => match us, hl with | [_], _ => rfl
theorem bd17 {K : PySem.W.Frag} {f : Addr} {fd : FuncData} (F : Fun K "as_kinds" "as_kinds" sAsKinds f fd) : Binds K fd ["masks"] [] := F.binds (ps := ["masks"]) fun _ _ _ _ _ _ us hl => match us, hl with | [_], _ => rfl
theorem bd18 {K : PySem.W.Frag} {f : Addr} {fd : FuncData} (F : Fun K "clash_of" "clash_of" sClashOf f fd) : Binds K fd ["company", "kinds"] [] := F.binds (ps := ["company", "kinds"]) fun _ _ _ _ _ _ us hl => match us, hl with | [_, _], _ => rfl
theorem bd19 {K : PySem.W.Frag} {f : Addr} {fd : FuncData} (F : Fun K "clash" "clash" sClash f fd) : Binds K fd ["company", "kinds"] [] := F.binds (ps := ["company", "kinds"]) fun _ _ _ _ _ _ us hl => match us, hl with | [_, _], _ => rfl
theorem bd20 {K : PySem.W.Frag} {f : Addr} {fd : FuncData} (F : Fun K "greatest_size" "greatest_size" sGSize f fd) : Binds K fd ["company"] [] := F.binds (ps := ["company"]) fun _ _ _ _ _ _ us hl => match us, hl with | [_], _ => rfl
theorem bd21 {K : PySem.W.Frag} {f : Addr} {fd : FuncData} (F : Fun K "count_greatest" "count_greatest" sGCount f fd) : Binds K fd ["company"] [] := F.binds (ps := ["company"]) fun _ _ _ _ _ _ us hl => match us, hl with | [_], _ => rfl
theorem bd22 {K : PySem.W.Frag} {f : Addr} {fd : FuncData} (F : Fun K "span" "span" sSpan f fd) : Binds K fd ["masks"] [] := F.binds (ps := ["masks"]) fun _ _ _ _ _ _ us hl => match us, hl with | [_], _ => rfl
theorem bd23 {K : PySem.W.Frag} {f : Addr} {fd : FuncData} (F : Fun K "grown" "grown" sGrown f fd) : Binds K fd ["company", "masks"] [] := F.binds (ps := ["company", "masks"]) fun _ _ _ _ _ _ us hl => match us, hl with | [_, _], _ => rfl
theorem bd24 {K : PySem.W.Frag} {f : Addr} {fd : FuncData} (F : Fun K "first_lot" "first_lot" sFirst f fd) : Binds K fd ["company"] [] := F.binds (ps := ["company"]) fun _ _ _ _ _ _ us hl => match us, hl with | [_], _ => rfl
theorem bd25 {K : PySem.W.Frag} {f : Addr} {fd : FuncData} (F : Fun K "is_greatest" "is_greatest" sIsGreatest f fd) : Binds K fd ["company", "value"] [] := F.binds (ps := ["company", "value"]) fun _ _ _ _ _ _ us hl => match us, hl with | [_, _], _ => rfl
theorem bd26 {K : PySem.W.Frag} {f : Addr} {fd : FuncData} (F : Fun K "greatest_lots" "greatest_lots" sGLots f fd) : Binds K fd ["company"] [] := F.binds (ps := ["company"]) fun _ _ _ _ _ _ us hl => match us, hl with | [_], _ => rfl
theorem bd27 {K : PySem.W.Frag} {f : Addr} {fd : FuncData} (F : Fun K "need_commuting" "need_commuting" sNeedComm f fd) : Binds K fd ["company", "kinds"] [] := F.binds (ps := ["company", "kinds"]) fun _ _ _ _ _ _ us hl => match us, hl with | [_, _], _ => rfl
theorem bd28 {K : PySem.W.Frag} {f : Addr} {fd : FuncData} (F : Fun K "greatest_lot" "greatest_lot" sGreatestLot f fd) : Binds K fd ["company", "kinds"] [] := F.binds (ps := ["company", "kinds"]) fun _ _ _ _ _ _ us hl => match us, hl with | [_, _], _ => rfl
theorem bd29 {K : PySem.W.Frag} {f : Addr} {fd : FuncData} (F : Fun K "how_many_with" "how_many_with" sHowMany f fd) : Binds K fd ["company", "kinds"] [] := F.binds (ps := ["company", "kinds"]) fun _ _ _ _ _ _ us hl => match us, hl with | [_, _], _ => rfl
theorem bd30 {K : PySem.W.Frag} {f : Addr} {fd : FuncData} (F : Fun K "_law_sets" "_law_sets" sLSets f fd) : Binds K fd ["_law_many"] [] := F.binds (ps := ["_law_many"]) fun _ _ _ _ _ _ us hl => match us, hl with | [_], _ => rfl
theorem bd31 {K : PySem.W.Frag} {f : Addr} {fd : FuncData} (F : Fun K "_law_sets_of" "_law_sets_of" sLSetsOf f fd) : Binds K fd ["_law_company_here"] [] := F.binds (ps := ["_law_company_here"]) fun _ _ _ _ _ _ us hl => match us, hl with | [_], _ => rfl
theorem bd32 {K : PySem.W.Frag} {f : Addr} {fd : FuncData} (F : Fun K "_law_friend" "_law_friend" sLFriend f fd) : Binds K fd ["_law_company_here", "_law_one", "_law_other"] [] := F.binds (ps := ["_law_company_here", "_law_one", "_law_other"]) fun _ _ _ _ _ _ us hl => match us, hl with | [_, _, _], _ => rfl
theorem bd33 {K : PySem.W.Frag} {f : Addr} {fd : FuncData} (F : Fun K "_law_sign" "_law_sign" sLSign f fd) : Binds K fd ["_law_company_here", "_law_one", "_law_other"] [] := F.binds (ps := ["_law_company_here", "_law_one", "_law_other"]) fun _ _ _ _ _ _ us hl => match us, hl with | [_, _, _], _ => rfl
theorem bd34 {K : PySem.W.Frag} {f : Addr} {fd : FuncData} (F : Fun K "_law_lots_of" "_law_lots_of" sLLots f fd) : Binds K fd ["_law_company_here"] [] := F.binds (ps := ["_law_company_here"]) fun _ _ _ _ _ _ us hl => match us, hl with | [_], _ => rfl
theorem bd35 {K : PySem.W.Frag} {f : Addr} {fd : FuncData} (F : Fun K "_law_pairs" "_law_pairs" sLPairs f fd) : Binds K fd ["_law_many"] [] := F.binds (ps := ["_law_many"]) fun _ _ _ _ _ _ us hl => match us, hl with | [_], _ => rfl
theorem bd36 {K : PySem.W.Frag} {f : Addr} {fd : FuncData} (F : Fun K "_law_alike" "_law_alike" sLAlike f fd) : Binds K fd ["_law_found", "_law_due"] [] := F.binds (ps := ["_law_found", "_law_due"]) fun _ _ _ _ _ _ us hl => match us, hl with | [_, _], _ => rfl
theorem bd37 {K : PySem.W.Frag} {f : Addr} {fd : FuncData} (F : Fun K "_law_taken" "_law_taken" sLTaken f fd) : Binds K fd ["_law_row", "_law_many"] [] := F.binds (ps := ["_law_row", "_law_many"]) fun _ _ _ _ _ _ us hl => match us, hl with | [_, _], _ => rfl
theorem bd38 {K : PySem.W.Frag} {f : Addr} {fd : FuncData} (F : Fun K "_law_pick" "_law_pick" sLPick f fd) : Binds K fd ["_law_row", "_law_things"] [] := F.binds (ps := ["_law_row", "_law_things"]) fun _ _ _ _ _ _ us hl => match us, hl with | [_, _], _ => rfl
theorem bd39 {K : PySem.W.Frag} {f : Addr} {fd : FuncData} (F : Fun K "_law_drawn_kind" "_law_drawn_kind" sLDKind f fd) : Binds K fd ["_law_row", "_law_company_here"] [] := F.binds (ps := ["_law_row", "_law_company_here"]) fun _ _ _ _ _ _ us hl => match us, hl with | [_, _], _ => rfl
theorem bd40 {K : PySem.W.Frag} {f : Addr} {fd : FuncData} (F : Fun K "_law_drawn_kinds" "_law_drawn_kinds" sLDKinds f fd) : Binds K fd ["_law_row", "_law_company_here", "_law_most"] [] := F.binds (ps := ["_law_row", "_law_company_here", "_law_most"]) fun _ _ _ _ _ _ us hl => match us, hl with | [_, _, _], _ => rfl
theorem bd41 {K : PySem.W.Frag} {f : Addr} {fd : FuncData} (F : Fun K "_law_company" "_law_company" sLCompany f fd) : Binds K fd ["_law_row", "_law_most"] [] := F.binds (ps := ["_law_row", "_law_most"]) fun _ _ _ _ _ _ us hl => match us, hl with | [_, _], _ => rfl
theorem bd42 {K : PySem.W.Frag} {f : Addr} {fd : FuncData} (F : Fun K "law" "law" sLaw f fd) : Binds K fd ["_law_script"] [] := F.binds (ps := ["_law_script"]) fun _ _ _ _ _ _ us hl => match us, hl with | [_], _ => rfl
theorem bdI {K : PySem.W.Frag} {f : Addr} {fd : FuncData} (F : Fun K "__init__" "NotCommuting.__init__" sNcI f fd) : Binds K fd ["self", "one", "other"] [] := F.binds (ps := ["self", "one", "other"]) fun _ _ _ _ _ _ us hl => match us, hl with | [_, _, _], _ => rfl
theorem all_mk {P : Program} {w : World} {K : PySem.W.Frag} {h : Heap} {mg : Str → Option Value} {fa C fI B1 f0 f1 f2 f3 f4 f5 f6 f7 f8 f9 f10 f11 f12 f13 f14 f15 f16 f17 f18 f19 f20 f21 f22 f23 f24 f25 f26 f27 f28 f29 f30 f31 f32 f33 f34 f35 f36 f37 f38 f39 f40 f41 f42 : Addr} (X : K.In h) (G : h.Ns mainGlobals mg) (hfa : mg "law" = some (.ref fa))
    {nm q : Str} {Nn : Addr} {bs : List Value} {sn : List Str} {sub : List Value} {ab : Bool} {col : Option Bool} {dd : Option Addr} {m0 m1 m2 m3 m5 : Option Value} {tA tL tM : Tok}
    {od0 an0 : Option Addr} {sl0 : Array (Option Value)} {oc0 kV0 dc0 pm0 cd0 ct0 : Value}
    {od1 an1 : Option Addr} {sl1 : Array (Option Value)} {oc1 kV1 dc1 pm1 cd1 ct1 : Value}
    {od2 an2 : Option Addr} {sl2 : Array (Option Value)} {oc2 kV2 dc2 pm2 cd2 ct2 : Value}
    {od3 an3 : Option Addr} {sl3 : Array (Option Value)} {oc3 kV3 dc3 pm3 cd3 ct3 : Value}
    {od4 an4 : Option Addr} {sl4 : Array (Option Value)} {oc4 kV4 dc4 pm4 cd4 ct4 : Value}
    {od5 an5 : Option Addr} {sl5 : Array (Option Value)} {oc5 kV5 dc5 pm5 cd5 ct5 : Value}
    {od6 an6 : Option Addr} {sl6 : Array (Option Value)} {oc6 kV6 dc6 pm6 cd6 ct6 : Value}
    {od7 an7 : Option Addr} {sl7 : Array (Option Value)} {oc7 kV7 dc7 pm7 cd7 ct7 : Value}
    {od8 an8 : Option Addr} {sl8 : Array (Option Value)} {oc8 kV8 dc8 pm8 cd8 ct8 : Value}
    {od9 an9 : Option Addr} {sl9 : Array (Option Value)} {oc9 kV9 dc9 pm9 cd9 ct9 : Value}
    {od10 an10 : Option Addr} {sl10 : Array (Option Value)} {oc10 kV10 dc10 pm10 cd10 ct10 : Value}
    {od11 an11 : Option Addr} {sl11 : Array (Option Value)} {oc11 kV11 dc11 pm11 cd11 ct11 : Value}
    {od12 an12 : Option Addr} {sl12 : Array (Option Value)} {oc12 kV12 dc12 pm12 cd12 ct12 : Value}
    {od13 an13 : Option Addr} {sl13 : Array (Option Value)} {oc13 kV13 dc13 pm13 cd13 ct13 : Value}
    {od14 an14 : Option Addr} {sl14 : Array (Option Value)} {oc14 kV14 dc14 pm14 cd14 ct14 : Value}
    {od15 an15 : Option Addr} {sl15 : Array (Option Value)} {oc15 kV15 dc15 pm15 cd15 ct15 : Value}
    {od16 an16 : Option Addr} {sl16 : Array (Option Value)} {oc16 kV16 dc16 pm16 cd16 ct16 : Value}
    {od17 an17 : Option Addr} {sl17 : Array (Option Value)} {oc17 kV17 dc17 pm17 cd17 ct17 : Value}
    {od18 an18 : Option Addr} {sl18 : Array (Option Value)} {oc18 kV18 dc18 pm18 cd18 ct18 : Value}
    {od19 an19 : Option Addr} {sl19 : Array (Option Value)} {oc19 kV19 dc19 pm19 cd19 ct19 : Value}
    {od20 an20 : Option Addr} {sl20 : Array (Option Value)} {oc20 kV20 dc20 pm20 cd20 ct20 : Value}
    {od21 an21 : Option Addr} {sl21 : Array (Option Value)} {oc21 kV21 dc21 pm21 cd21 ct21 : Value}
    {od22 an22 : Option Addr} {sl22 : Array (Option Value)} {oc22 kV22 dc22 pm22 cd22 ct22 : Value}
    {od23 an23 : Option Addr} {sl23 : Array (Option Value)} {oc23 kV23 dc23 pm23 cd23 ct23 : Value}
    {od24 an24 : Option Addr} {sl24 : Array (Option Value)} {oc24 kV24 dc24 pm24 cd24 ct24 : Value}
    {od25 an25 : Option Addr} {sl25 : Array (Option Value)} {oc25 kV25 dc25 pm25 cd25 ct25 : Value}
    {od26 an26 : Option Addr} {sl26 : Array (Option Value)} {oc26 kV26 dc26 pm26 cd26 ct26 : Value}
    {od27 an27 : Option Addr} {sl27 : Array (Option Value)} {oc27 kV27 dc27 pm27 cd27 ct27 : Value}
    {od28 an28 : Option Addr} {sl28 : Array (Option Value)} {oc28 kV28 dc28 pm28 cd28 ct28 : Value}
    {od29 an29 : Option Addr} {sl29 : Array (Option Value)} {oc29 kV29 dc29 pm29 cd29 ct29 : Value}
    {od30 an30 : Option Addr} {sl30 : Array (Option Value)} {oc30 kV30 dc30 pm30 cd30 ct30 : Value}
    {od31 an31 : Option Addr} {sl31 : Array (Option Value)} {oc31 kV31 dc31 pm31 cd31 ct31 : Value}
    {od32 an32 : Option Addr} {sl32 : Array (Option Value)} {oc32 kV32 dc32 pm32 cd32 ct32 : Value}
    {od33 an33 : Option Addr} {sl33 : Array (Option Value)} {oc33 kV33 dc33 pm33 cd33 ct33 : Value}
    {od34 an34 : Option Addr} {sl34 : Array (Option Value)} {oc34 kV34 dc34 pm34 cd34 ct34 : Value}
    {od35 an35 : Option Addr} {sl35 : Array (Option Value)} {oc35 kV35 dc35 pm35 cd35 ct35 : Value}
    {od36 an36 : Option Addr} {sl36 : Array (Option Value)} {oc36 kV36 dc36 pm36 cd36 ct36 : Value}
    {od37 an37 : Option Addr} {sl37 : Array (Option Value)} {oc37 kV37 dc37 pm37 cd37 ct37 : Value}
    {od38 an38 : Option Addr} {sl38 : Array (Option Value)} {oc38 kV38 dc38 pm38 cd38 ct38 : Value}
    {od39 an39 : Option Addr} {sl39 : Array (Option Value)} {oc39 kV39 dc39 pm39 cd39 ct39 : Value}
    {od40 an40 : Option Addr} {sl40 : Array (Option Value)} {oc40 kV40 dc40 pm40 cd40 ct40 : Value}
    {od41 an41 : Option Addr} {sl41 : Array (Option Value)} {oc41 kV41 dc41 pm41 cd41 ct41 : Value}
    {od42 an42 : Option Addr} {sl42 : Array (Option Value)} {oc42 kV42 dc42 pm42 cd42 ct42 : Value}
    {odI anI : Option Addr} {slI : Array (Option Value)} {ocI kVI dcI pmI cdI ctI : Value}
    (z0 : PySem.W.nsIn K mainGlobals "isinstance" = some none)
    (z1 : PySem.W.nsIn K mainGlobals "int" = some none)
    (z2 : PySem.W.nsIn K mainGlobals "bool" = some none)
    (z3 : PySem.W.nsIn K mainGlobals "tuple" = some none)
    (z4 : PySem.W.nsIn K mainGlobals "str" = some none)
    (z5 : PySem.W.nsIn K mainGlobals "list" = some none)
    (z6 : PySem.W.nsIn K mainGlobals "len" = some none)
    (z7 : PySem.W.nsIn K mainGlobals "all" = some none)
    (z8 : PySem.W.nsIn K mainGlobals "any" = some none)
    (z9 : PySem.W.nsIn K mainGlobals "sum" = some none)
    (z10 : PySem.W.nsIn K mainGlobals "range" = some none)
    (z11 : PySem.W.nsIn K mainGlobals "enumerate" = some none)
    (z12 : PySem.W.nsIn K mainGlobals "sorted" = some none)
    (z13 : PySem.W.nsIn K mainGlobals "max" = some none)
    (z14 : PySem.W.nsIn K mainGlobals "min" = some none)
    (z15 : PySem.W.nsIn K mainGlobals "set" = some none)
    (zA : PySem.W.nsIn K mainGlobals "ALPHABET" = some (some (.str "abcdefgh" tA)))
    (zL : PySem.W.nsIn K mainGlobals "MOST_LETTERS" = some (some (.int 8 tL)))
    (zM : PySem.W.nsIn K mainGlobals "MOST_LOTS" = some (some (.int 200 tM)))
    (aC : PySem.W.nsIn K mainGlobals "NotCommuting" = some (some (.ref C)))
    (xL : K.lookup C = some (excClassObj nm q C Nn bs [.ref B1, .type "ValueError", .type "Exception", .type "BaseException", .type "object"] true sn sub ab col dd m0 m1 m2 m3 m5 "ValueError.__new__"))
    (sa : PySem.W.findIn K (.ref C) "__setattr__" = some (some (.builtin "object.__setattr__")))
    (ga : PySem.W.findIn K (.ref C) "__getattribute__" = some (some (.builtin "BaseException.__getattribute__")))
    (gg : PySem.W.findIn K (.ref C) "__getattr__" = some none)
    (n1 : PySem.W.findIn K (.ref C) "one" = some none)
    (n2 : PySem.W.findIn K (.ref C) "other" = some none)
    (aI : PySem.W.findIn K (.ref C) "__init__" = some (some (.ref fI)))
    (tI : PySem.W.typeIn K (.ref fI) = some (.type "function"))
    (lI : K.lookup fI = some ⟨ocI, odI, .func (PySem.W.fnOf "__init__" "NotCommuting.__init__" (defArgs sNcI) (defBody sNcI) (defScope sNcI) .none kVI dcI pmI anI cdI ctI), slI⟩)
    (cI : PySem.W.codeIn K cdI "NotCommuting.__init__" = true)
    (kI : PySem.W.keepIn K (.ref fI) = true)
    (kC : PySem.W.keepIn K (.ref C) = true)
    (eC : PySem.W.subIn K (.ref C) (.type "BaseException") = some true)
    (tC : PySem.W.typeIn K (.ref C) = some (.type "type"))
    (hC : PySem.W.hasDictIn K C = true)
    (iC : PySem.W.isClsIn K C = true)
    (sC : PySem.W.subIn K (.ref C) (.ref C) = some true)
    (a0 : PySem.W.nsIn K mainGlobals "whole" = some (some (.ref f0)))
    (l0 : K.lookup f0 = some ⟨oc0, od0, .func (PySem.W.fnOf "whole" "whole" (defArgs sWhole) (defBody sWhole) (defScope sWhole) .none kV0 dc0 pm0 an0 cd0 ct0), sl0⟩)
    (c0 : PySem.W.codeIn K cd0 "whole" = true)
    (k0 : PySem.W.keepIn K (.ref f0) = true)
    (a1 : PySem.W.nsIn K mainGlobals "within" = some (some (.ref f1)))
    (l1 : K.lookup f1 = some ⟨oc1, od1, .func (PySem.W.fnOf "within" "within" (defArgs sWithin) (defBody sWithin) (defScope sWithin) .none kV1 dc1 pm1 an1 cd1 ct1), sl1⟩)
    (c1 : PySem.W.codeIn K cd1 "within" = true)
    (k1 : PySem.W.keepIn K (.ref f1) = true)
    (a2 : PySem.W.nsIn K mainGlobals "tuple_of" = some (some (.ref f2)))
    (l2 : K.lookup f2 = some ⟨oc2, od2, .func (PySem.W.fnOf "tuple_of" "tuple_of" (defArgs sTupleOf) (defBody sTupleOf) (defScope sTupleOf) .none kV2 dc2 pm2 an2 cd2 ct2), sl2⟩)
    (c2 : PySem.W.codeIn K cd2 "tuple_of" = true)
    (k2 : PySem.W.keepIn K (.ref f2) = true)
    (a3 : PySem.W.nsIn K mainGlobals "is_pair" = some (some (.ref f3)))
    (l3 : K.lookup f3 = some ⟨oc3, od3, .func (PySem.W.fnOf "is_pair" "is_pair" (defArgs sIsPair) (defBody sIsPair) (defScope sIsPair) .none kV3 dc3 pm3 an3 cd3 ct3), sl3⟩)
    (c3 : PySem.W.codeIn K cd3 "is_pair" = true)
    (k3 : PySem.W.keepIn K (.ref f3) = true)
    (a4 : PySem.W.nsIn K mainGlobals "need_company" = some (some (.ref f4)))
    (l4 : K.lookup f4 = some ⟨oc4, od4, .func (PySem.W.fnOf "need_company" "need_company" (defArgs sNeedCompany) (defBody sNeedCompany) (defScope sNeedCompany) .none kV4 dc4 pm4 an4 cd4 ct4), sl4⟩)
    (c4 : PySem.W.codeIn K cd4 "need_company" = true)
    (k4 : PySem.W.keepIn K (.ref f4) = true)
    (a5 : PySem.W.nsIn K mainGlobals "is_set" = some (some (.ref f5)))
    (l5 : K.lookup f5 = some ⟨oc5, od5, .func (PySem.W.fnOf "is_set" "is_set" (defArgs sIsSet) (defBody sIsSet) (defScope sIsSet) .none kV5 dc5 pm5 an5 cd5 ct5), sl5⟩)
    (c5 : PySem.W.codeIn K cd5 "is_set" = true)
    (k5 : PySem.W.keepIn K (.ref f5) = true)
    (a6 : PySem.W.nsIn K mainGlobals "is_kind" = some (some (.ref f6)))
    (l6 : K.lookup f6 = some ⟨oc6, od6, .func (PySem.W.fnOf "is_kind" "is_kind" (defArgs sIsKind) (defBody sIsKind) (defScope sIsKind) .none kV6 dc6 pm6 an6 cd6 ct6), sl6⟩)
    (c6 : PySem.W.codeIn K cd6 "is_kind" = true)
    (k6 : PySem.W.keepIn K (.ref f6) = true)
    (a7 : PySem.W.nsIn K mainGlobals "need_kinds" = some (some (.ref f7)))
    (l7 : K.lookup f7 = some ⟨oc7, od7, .func (PySem.W.fnOf "need_kinds" "need_kinds" (defArgs sNeedKinds) (defBody sNeedKinds) (defScope sNeedKinds) .none kV7 dc7 pm7 an7 cd7 ct7), sl7⟩)
    (c7 : PySem.W.codeIn K cd7 "need_kinds" = true)
    (k7 : PySem.W.keepIn K (.ref f7) = true)
    (a8 : PySem.W.nsIn K mainGlobals "mask_of" = some (some (.ref f8)))
    (l8 : K.lookup f8 = some ⟨oc8, od8, .func (PySem.W.fnOf "mask_of" "mask_of" (defArgs sMaskOf) (defBody sMaskOf) (defScope sMaskOf) .none kV8 dc8 pm8 an8 cd8 ct8), sl8⟩)
    (c8 : PySem.W.codeIn K cd8 "mask_of" = true)
    (k8 : PySem.W.keepIn K (.ref f8) = true)
    (a9 : PySem.W.nsIn K mainGlobals "letters_of" = some (some (.ref f9)))
    (l9 : K.lookup f9 = some ⟨oc9, od9, .func (PySem.W.fnOf "letters_of" "letters_of" (defArgs sLettersOf) (defBody sLettersOf) (defScope sLettersOf) .none kV9 dc9 pm9 an9 cd9 ct9), sl9⟩)
    (c9 : PySem.W.codeIn K cd9 "letters_of" = true)
    (k9 : PySem.W.keepIn K (.ref f9) = true)
    (a10 : PySem.W.nsIn K mainGlobals "friends_of_all" = some (some (.ref f10)))
    (l10 : K.lookup f10 = some ⟨oc10, od10, .func (PySem.W.fnOf "friends_of_all" "friends_of_all" (defArgs sFriendsOfAll) (defBody sFriendsOfAll) (defScope sFriendsOfAll) .none kV10 dc10 pm10 an10 cd10 ct10), sl10⟩)
    (c10 : PySem.W.codeIn K cd10 "friends_of_all" = true)
    (k10 : PySem.W.keepIn K (.ref f10) = true)
    (a11 : PySem.W.nsIn K mainGlobals "crossed" = some (some (.ref f11)))
    (l11 : K.lookup f11 = some ⟨oc11, od11, .func (PySem.W.fnOf "crossed" "crossed" (defArgs sCrossed) (defBody sCrossed) (defScope sCrossed) .none kV11 dc11 pm11 an11 cd11 ct11), sl11⟩)
    (c11 : PySem.W.codeIn K cd11 "crossed" = true)
    (k11 : PySem.W.keepIn K (.ref f11) = true)
    (a12 : PySem.W.nsIn K mainGlobals "inner" = some (some (.ref f12)))
    (l12 : K.lookup f12 = some ⟨oc12, od12, .func (PySem.W.fnOf "inner" "inner" (defArgs sInner) (defBody sInner) (defScope sInner) .none kV12 dc12 pm12 an12 cd12 ct12), sl12⟩)
    (c12 : PySem.W.codeIn K cd12 "inner" = true)
    (k12 : PySem.W.keepIn K (.ref f12) = true)
    (a13 : PySem.W.nsIn K mainGlobals "between" = some (some (.ref f13)))
    (l13 : K.lookup f13 = some ⟨oc13, od13, .func (PySem.W.fnOf "between" "between" (defArgs sBetween) (defBody sBetween) (defScope sBetween) .none kV13 dc13 pm13 an13 cd13 ct13), sl13⟩)
    (c13 : PySem.W.codeIn K cd13 "between" = true)
    (k13 : PySem.W.keepIn K (.ref f13) = true)
    (a14 : PySem.W.nsIn K mainGlobals "silent_masks" = some (some (.ref f14)))
    (l14 : K.lookup f14 = some ⟨oc14, od14, .func (PySem.W.fnOf "silent_masks" "silent_masks" (defArgs sSilent) (defBody sSilent) (defScope sSilent) .none kV14 dc14 pm14 an14 cd14 ct14), sl14⟩)
    (c14 : PySem.W.codeIn K cd14 "silent_masks" = true)
    (k14 : PySem.W.keepIn K (.ref f14) = true)
    (a15 : PySem.W.nsIn K mainGlobals "rank_of" = some (some (.ref f15)))
    (l15 : K.lookup f15 = some ⟨oc15, od15, .func (PySem.W.fnOf "rank_of" "rank_of" (defArgs sRank) (defBody sRank) (defScope sRank) .none kV15 dc15 pm15 an15 cd15 ct15), sl15⟩)
    (c15 : PySem.W.codeIn K cd15 "rank_of" = true)
    (k15 : PySem.W.keepIn K (.ref f15) = true)
    (a16 : PySem.W.nsIn K mainGlobals "all_kinds" = some (some (.ref f16)))
    (l16 : K.lookup f16 = some ⟨oc16, od16, .func (PySem.W.fnOf "all_kinds" "all_kinds" (defArgs sAllKinds) (defBody sAllKinds) (defScope sAllKinds) .none kV16 dc16 pm16 an16 cd16 ct16), sl16⟩)
    (c16 : PySem.W.codeIn K cd16 "all_kinds" = true)
    (k16 : PySem.W.keepIn K (.ref f16) = true)
    (a17 : PySem.W.nsIn K mainGlobals "as_kinds" = some (some (.ref f17)))
    (l17 : K.lookup f17 = some ⟨oc17, od17, .func (PySem.W.fnOf "as_kinds" "as_kinds" (defArgs sAsKinds) (defBody sAsKinds) (defScope sAsKinds) .none kV17 dc17 pm17 an17 cd17 ct17), sl17⟩)
    (c17 : PySem.W.codeIn K cd17 "as_kinds" = true)
    (k17 : PySem.W.keepIn K (.ref f17) = true)
    (a18 : PySem.W.nsIn K mainGlobals "clash_of" = some (some (.ref f18)))
    (l18 : K.lookup f18 = some ⟨oc18, od18, .func (PySem.W.fnOf "clash_of" "clash_of" (defArgs sClashOf) (defBody sClashOf) (defScope sClashOf) .none kV18 dc18 pm18 an18 cd18 ct18), sl18⟩)
    (c18 : PySem.W.codeIn K cd18 "clash_of" = true)
    (k18 : PySem.W.keepIn K (.ref f18) = true)
    (a19 : PySem.W.nsIn K mainGlobals "clash" = some (some (.ref f19)))
    (l19 : K.lookup f19 = some ⟨oc19, od19, .func (PySem.W.fnOf "clash" "clash" (defArgs sClash) (defBody sClash) (defScope sClash) .none kV19 dc19 pm19 an19 cd19 ct19), sl19⟩)
    (c19 : PySem.W.codeIn K cd19 "clash" = true)
    (k19 : PySem.W.keepIn K (.ref f19) = true)
    (a20 : PySem.W.nsIn K mainGlobals "greatest_size" = some (some (.ref f20)))
    (l20 : K.lookup f20 = some ⟨oc20, od20, .func (PySem.W.fnOf "greatest_size" "greatest_size" (defArgs sGSize) (defBody sGSize) (defScope sGSize) .none kV20 dc20 pm20 an20 cd20 ct20), sl20⟩)
    (c20 : PySem.W.codeIn K cd20 "greatest_size" = true)
    (k20 : PySem.W.keepIn K (.ref f20) = true)
    (a21 : PySem.W.nsIn K mainGlobals "count_greatest" = some (some (.ref f21)))
    (l21 : K.lookup f21 = some ⟨oc21, od21, .func (PySem.W.fnOf "count_greatest" "count_greatest" (defArgs sGCount) (defBody sGCount) (defScope sGCount) .none kV21 dc21 pm21 an21 cd21 ct21), sl21⟩)
    (c21 : PySem.W.codeIn K cd21 "count_greatest" = true)
    (k21 : PySem.W.keepIn K (.ref f21) = true)
    (a22 : PySem.W.nsIn K mainGlobals "span" = some (some (.ref f22)))
    (l22 : K.lookup f22 = some ⟨oc22, od22, .func (PySem.W.fnOf "span" "span" (defArgs sSpan) (defBody sSpan) (defScope sSpan) .none kV22 dc22 pm22 an22 cd22 ct22), sl22⟩)
    (c22 : PySem.W.codeIn K cd22 "span" = true)
    (k22 : PySem.W.keepIn K (.ref f22) = true)
    (a23 : PySem.W.nsIn K mainGlobals "grown" = some (some (.ref f23)))
    (l23 : K.lookup f23 = some ⟨oc23, od23, .func (PySem.W.fnOf "grown" "grown" (defArgs sGrown) (defBody sGrown) (defScope sGrown) .none kV23 dc23 pm23 an23 cd23 ct23), sl23⟩)
    (c23 : PySem.W.codeIn K cd23 "grown" = true)
    (k23 : PySem.W.keepIn K (.ref f23) = true)
    (a24 : PySem.W.nsIn K mainGlobals "first_lot" = some (some (.ref f24)))
    (l24 : K.lookup f24 = some ⟨oc24, od24, .func (PySem.W.fnOf "first_lot" "first_lot" (defArgs sFirst) (defBody sFirst) (defScope sFirst) .none kV24 dc24 pm24 an24 cd24 ct24), sl24⟩)
    (c24 : PySem.W.codeIn K cd24 "first_lot" = true)
    (k24 : PySem.W.keepIn K (.ref f24) = true)
    (a25 : PySem.W.nsIn K mainGlobals "is_greatest" = some (some (.ref f25)))
    (l25 : K.lookup f25 = some ⟨oc25, od25, .func (PySem.W.fnOf "is_greatest" "is_greatest" (defArgs sIsGreatest) (defBody sIsGreatest) (defScope sIsGreatest) .none kV25 dc25 pm25 an25 cd25 ct25), sl25⟩)
    (c25 : PySem.W.codeIn K cd25 "is_greatest" = true)
    (k25 : PySem.W.keepIn K (.ref f25) = true)
    (a26 : PySem.W.nsIn K mainGlobals "greatest_lots" = some (some (.ref f26)))
    (l26 : K.lookup f26 = some ⟨oc26, od26, .func (PySem.W.fnOf "greatest_lots" "greatest_lots" (defArgs sGLots) (defBody sGLots) (defScope sGLots) .none kV26 dc26 pm26 an26 cd26 ct26), sl26⟩)
    (c26 : PySem.W.codeIn K cd26 "greatest_lots" = true)
    (k26 : PySem.W.keepIn K (.ref f26) = true)
    (a27 : PySem.W.nsIn K mainGlobals "need_commuting" = some (some (.ref f27)))
    (l27 : K.lookup f27 = some ⟨oc27, od27, .func (PySem.W.fnOf "need_commuting" "need_commuting" (defArgs sNeedComm) (defBody sNeedComm) (defScope sNeedComm) .none kV27 dc27 pm27 an27 cd27 ct27), sl27⟩)
    (c27 : PySem.W.codeIn K cd27 "need_commuting" = true)
    (k27 : PySem.W.keepIn K (.ref f27) = true)
    (a28 : PySem.W.nsIn K mainGlobals "greatest_lot" = some (some (.ref f28)))
    (l28 : K.lookup f28 = some ⟨oc28, od28, .func (PySem.W.fnOf "greatest_lot" "greatest_lot" (defArgs sGreatestLot) (defBody sGreatestLot) (defScope sGreatestLot) .none kV28 dc28 pm28 an28 cd28 ct28), sl28⟩)
    (c28 : PySem.W.codeIn K cd28 "greatest_lot" = true)
    (k28 : PySem.W.keepIn K (.ref f28) = true)
    (a29 : PySem.W.nsIn K mainGlobals "how_many_with" = some (some (.ref f29)))
    (l29 : K.lookup f29 = some ⟨oc29, od29, .func (PySem.W.fnOf "how_many_with" "how_many_with" (defArgs sHowMany) (defBody sHowMany) (defScope sHowMany) .none kV29 dc29 pm29 an29 cd29 ct29), sl29⟩)
    (c29 : PySem.W.codeIn K cd29 "how_many_with" = true)
    (k29 : PySem.W.keepIn K (.ref f29) = true)
    (a30 : PySem.W.nsIn K mainGlobals "_law_sets" = some (some (.ref f30)))
    (l30 : K.lookup f30 = some ⟨oc30, od30, .func (PySem.W.fnOf "_law_sets" "_law_sets" (defArgs sLSets) (defBody sLSets) (defScope sLSets) .none kV30 dc30 pm30 an30 cd30 ct30), sl30⟩)
    (c30 : PySem.W.codeIn K cd30 "_law_sets" = true)
    (k30 : PySem.W.keepIn K (.ref f30) = true)
    (a31 : PySem.W.nsIn K mainGlobals "_law_sets_of" = some (some (.ref f31)))
    (l31 : K.lookup f31 = some ⟨oc31, od31, .func (PySem.W.fnOf "_law_sets_of" "_law_sets_of" (defArgs sLSetsOf) (defBody sLSetsOf) (defScope sLSetsOf) .none kV31 dc31 pm31 an31 cd31 ct31), sl31⟩)
    (c31 : PySem.W.codeIn K cd31 "_law_sets_of" = true)
    (k31 : PySem.W.keepIn K (.ref f31) = true)
    (a32 : PySem.W.nsIn K mainGlobals "_law_friend" = some (some (.ref f32)))
    (l32 : K.lookup f32 = some ⟨oc32, od32, .func (PySem.W.fnOf "_law_friend" "_law_friend" (defArgs sLFriend) (defBody sLFriend) (defScope sLFriend) .none kV32 dc32 pm32 an32 cd32 ct32), sl32⟩)
    (c32 : PySem.W.codeIn K cd32 "_law_friend" = true)
    (k32 : PySem.W.keepIn K (.ref f32) = true)
    (a33 : PySem.W.nsIn K mainGlobals "_law_sign" = some (some (.ref f33)))
    (l33 : K.lookup f33 = some ⟨oc33, od33, .func (PySem.W.fnOf "_law_sign" "_law_sign" (defArgs sLSign) (defBody sLSign) (defScope sLSign) .none kV33 dc33 pm33 an33 cd33 ct33), sl33⟩)
    (c33 : PySem.W.codeIn K cd33 "_law_sign" = true)
    (k33 : PySem.W.keepIn K (.ref f33) = true)
    (a34 : PySem.W.nsIn K mainGlobals "_law_lots_of" = some (some (.ref f34)))
    (l34 : K.lookup f34 = some ⟨oc34, od34, .func (PySem.W.fnOf "_law_lots_of" "_law_lots_of" (defArgs sLLots) (defBody sLLots) (defScope sLLots) .none kV34 dc34 pm34 an34 cd34 ct34), sl34⟩)
    (c34 : PySem.W.codeIn K cd34 "_law_lots_of" = true)
    (k34 : PySem.W.keepIn K (.ref f34) = true)
    (a35 : PySem.W.nsIn K mainGlobals "_law_pairs" = some (some (.ref f35)))
    (l35 : K.lookup f35 = some ⟨oc35, od35, .func (PySem.W.fnOf "_law_pairs" "_law_pairs" (defArgs sLPairs) (defBody sLPairs) (defScope sLPairs) .none kV35 dc35 pm35 an35 cd35 ct35), sl35⟩)
    (c35 : PySem.W.codeIn K cd35 "_law_pairs" = true)
    (k35 : PySem.W.keepIn K (.ref f35) = true)
    (a36 : PySem.W.nsIn K mainGlobals "_law_alike" = some (some (.ref f36)))
    (l36 : K.lookup f36 = some ⟨oc36, od36, .func (PySem.W.fnOf "_law_alike" "_law_alike" (defArgs sLAlike) (defBody sLAlike) (defScope sLAlike) .none kV36 dc36 pm36 an36 cd36 ct36), sl36⟩)
    (c36 : PySem.W.codeIn K cd36 "_law_alike" = true)
    (k36 : PySem.W.keepIn K (.ref f36) = true)
    (a37 : PySem.W.nsIn K mainGlobals "_law_taken" = some (some (.ref f37)))
    (l37 : K.lookup f37 = some ⟨oc37, od37, .func (PySem.W.fnOf "_law_taken" "_law_taken" (defArgs sLTaken) (defBody sLTaken) (defScope sLTaken) .none kV37 dc37 pm37 an37 cd37 ct37), sl37⟩)
    (c37 : PySem.W.codeIn K cd37 "_law_taken" = true)
    (k37 : PySem.W.keepIn K (.ref f37) = true)
    (a38 : PySem.W.nsIn K mainGlobals "_law_pick" = some (some (.ref f38)))
    (l38 : K.lookup f38 = some ⟨oc38, od38, .func (PySem.W.fnOf "_law_pick" "_law_pick" (defArgs sLPick) (defBody sLPick) (defScope sLPick) .none kV38 dc38 pm38 an38 cd38 ct38), sl38⟩)
    (c38 : PySem.W.codeIn K cd38 "_law_pick" = true)
    (k38 : PySem.W.keepIn K (.ref f38) = true)
    (a39 : PySem.W.nsIn K mainGlobals "_law_drawn_kind" = some (some (.ref f39)))
    (l39 : K.lookup f39 = some ⟨oc39, od39, .func (PySem.W.fnOf "_law_drawn_kind" "_law_drawn_kind" (defArgs sLDKind) (defBody sLDKind) (defScope sLDKind) .none kV39 dc39 pm39 an39 cd39 ct39), sl39⟩)
    (c39 : PySem.W.codeIn K cd39 "_law_drawn_kind" = true)
    (k39 : PySem.W.keepIn K (.ref f39) = true)
    (a40 : PySem.W.nsIn K mainGlobals "_law_drawn_kinds" = some (some (.ref f40)))
    (l40 : K.lookup f40 = some ⟨oc40, od40, .func (PySem.W.fnOf "_law_drawn_kinds" "_law_drawn_kinds" (defArgs sLDKinds) (defBody sLDKinds) (defScope sLDKinds) .none kV40 dc40 pm40 an40 cd40 ct40), sl40⟩)
    (c40 : PySem.W.codeIn K cd40 "_law_drawn_kinds" = true)
    (k40 : PySem.W.keepIn K (.ref f40) = true)
    (a41 : PySem.W.nsIn K mainGlobals "_law_company" = some (some (.ref f41)))
    (l41 : K.lookup f41 = some ⟨oc41, od41, .func (PySem.W.fnOf "_law_company" "_law_company" (defArgs sLCompany) (defBody sLCompany) (defScope sLCompany) .none kV41 dc41 pm41 an41 cd41 ct41), sl41⟩)
    (c41 : PySem.W.codeIn K cd41 "_law_company" = true)
    (k41 : PySem.W.keepIn K (.ref f41) = true)
    (a42 : PySem.W.nsIn K mainGlobals "law" = some (some (.ref f42)))
    (l42 : K.lookup f42 = some ⟨oc42, od42, .func (PySem.W.fnOf "law" "law" (defArgs sLaw) (defBody sLaw) (defScope sLaw) .none kV42 dc42 pm42 an42 cd42 ct42), sl42⟩)
    (c42 : PySem.W.codeIn K cd42 "law" = true)
    (k42 : PySem.W.keepIn K (.ref f42) = true) :
    ∃ fd : FuncData, (∀ (s : Shared) (v : Value), BindsTo s fd ⟨[v], []⟩ [("_law_script", v)]) ∧ ∀ base : Heap, K.In base → base.Ns mainGlobals mg → FnOk P w K mg base CX0 7 fa fd ["_law_script"] (spLaw K) := by
  have e := hfa.symm.trans (PySem.W.mg_of X G a42)
  cases e
  have M : Nm mg := ⟨PySem.W.mg_none_of X G z0, PySem.W.mg_none_of X G z1, PySem.W.mg_none_of X G z2, PySem.W.mg_none_of X G z3, PySem.W.mg_none_of X G z4, PySem.W.mg_none_of X G z5, PySem.W.mg_none_of X G z6, PySem.W.mg_none_of X G z7, PySem.W.mg_none_of X G z8, PySem.W.mg_none_of X G z9, PySem.W.mg_none_of X G z10, PySem.W.mg_none_of X G z11, PySem.W.mg_none_of X G z12, PySem.W.mg_none_of X G z13, PySem.W.mg_none_of X G z14, PySem.W.mg_none_of X G z15, ⟨_, PySem.W.mg_of X G zA⟩, ⟨_, PySem.W.mg_of X G zL⟩, ⟨_, PySem.W.mg_of X G zM⟩⟩
  have N : NcC K mg C fI := ⟨PySem.W.mg_of X G aC, ⟨⟨nm, q, Nn, bs, _, sn, sub, ab, col, dd, m0, m1, m2, m3, m5, xL, by rfl⟩, sa, eC, tC, kC⟩, ⟨ga, gg, eC, hC⟩, aI, tI, n1, n2, exm_own eC iC tC sC⟩
  have FI := fun_mk (st := sNcI) lI cI kI
  have F0 := fun_mk (st := sWhole) l0 c0 k0
  have F1 := fun_mk (st := sWithin) l1 c1 k1
  have F2 := fun_mk (st := sTupleOf) l2 c2 k2
  have F3 := fun_mk (st := sIsPair) l3 c3 k3
  have F4 := fun_mk (st := sNeedCompany) l4 c4 k4
  have F5 := fun_mk (st := sIsSet) l5 c5 k5
  have F6 := fun_mk (st := sIsKind) l6 c6 k6
  have F7 := fun_mk (st := sNeedKinds) l7 c7 k7
  have F8 := fun_mk (st := sMaskOf) l8 c8 k8
  have F9 := fun_mk (st := sLettersOf) l9 c9 k9
  have F10 := fun_mk (st := sFriendsOfAll) l10 c10 k10
  have F11 := fun_mk (st := sCrossed) l11 c11 k11
  have F12 := fun_mk (st := sInner) l12 c12 k12
  have F13 := fun_mk (st := sBetween) l13 c13 k13
  have F14 := fun_mk (st := sSilent) l14 c14 k14
  have F15 := fun_mk (st := sRank) l15 c15 k15
  have F16 := fun_mk (st := sAllKinds) l16 c16 k16
  have F17 := fun_mk (st := sAsKinds) l17 c17 k17
  have F18 := fun_mk (st := sClashOf) l18 c18 k18
  have F19 := fun_mk (st := sClash) l19 c19 k19
  have F20 := fun_mk (st := sGSize) l20 c20 k20
  have F21 := fun_mk (st := sGCount) l21 c21 k21
  have F22 := fun_mk (st := sSpan) l22 c22 k22
  have F23 := fun_mk (st := sGrown) l23 c23 k23
  have F24 := fun_mk (st := sFirst) l24 c24 k24
  have F25 := fun_mk (st := sIsGreatest) l25 c25 k25
  have F26 := fun_mk (st := sGLots) l26 c26 k26
  have F27 := fun_mk (st := sNeedComm) l27 c27 k27
  have F28 := fun_mk (st := sGreatestLot) l28 c28 k28
  have F29 := fun_mk (st := sHowMany) l29 c29 k29
  have F30 := fun_mk (st := sLSets) l30 c30 k30
  have F31 := fun_mk (st := sLSetsOf) l31 c31 k31
  have F32 := fun_mk (st := sLFriend) l32 c32 k32
  have F33 := fun_mk (st := sLSign) l33 c33 k33
  have F34 := fun_mk (st := sLLots) l34 c34 k34
  have F35 := fun_mk (st := sLPairs) l35 c35 k35
  have F36 := fun_mk (st := sLAlike) l36 c36 k36
  have F37 := fun_mk (st := sLTaken) l37 c37 k37
  have F38 := fun_mk (st := sLPick) l38 c38 k38
  have F39 := fun_mk (st := sLDKind) l39 c39 k39
  have F40 := fun_mk (st := sLDKinds) l40 c40 k40
  have F41 := fun_mk (st := sLCompany) l41 c41 k41
  have F42 := fun_mk (st := sLaw) l42 c42 k42
  exact ⟨PySem.W.fnOf "law" "law" (defArgs sLaw) (defBody sLaw) (defScope sLaw) .none kV42 dc42 pm42 an42 cd42 ct42, fun s v => .of_eq rfl, fun base _ _ => law_ok M N FI (bdI FI) ⟨F0, PySem.W.mg_of X G a0, bd0 F0⟩ ⟨F1, PySem.W.mg_of X G a1, bd1 F1⟩ ⟨F2, PySem.W.mg_of X G a2, bd2 F2⟩ ⟨F3, PySem.W.mg_of X G a3, bd3 F3⟩ ⟨F4, PySem.W.mg_of X G a4, bd4 F4⟩ ⟨F5, PySem.W.mg_of X G a5, bd5 F5⟩ ⟨F6, PySem.W.mg_of X G a6, bd6 F6⟩ ⟨F7, PySem.W.mg_of X G a7, bd7 F7⟩ ⟨F8, PySem.W.mg_of X G a8, bd8 F8⟩ ⟨F9, PySem.W.mg_of X G a9, bd9 F9⟩ ⟨F10, PySem.W.mg_of X G a10, bd10 F10⟩ ⟨F11, PySem.W.mg_of X G a11, bd11 F11⟩ ⟨F12, PySem.W.mg_of X G a12, bd12 F12⟩ ⟨F13, PySem.W.mg_of X G a13, bd13 F13⟩ ⟨F14, PySem.W.mg_of X G a14, bd14 F14⟩ ⟨F15, PySem.W.mg_of X G a15, bd15 F15⟩ ⟨F16, PySem.W.mg_of X G a16, bd16 F16⟩ ⟨F17, PySem.W.mg_of X G a17, bd17 F17⟩ ⟨F18, PySem.W.mg_of X G a18, bd18 F18⟩ ⟨F19, PySem.W.mg_of X G a19, bd19 F19⟩ ⟨F20, PySem.W.mg_of X G a20, bd20 F20⟩ ⟨F21, PySem.W.mg_of X G a21, bd21 F21⟩ ⟨F22, PySem.W.mg_of X G a22, bd22 F22⟩ ⟨F23, PySem.W.mg_of X G a23, bd23 F23⟩ ⟨F24, PySem.W.mg_of X G a24, bd24 F24⟩ ⟨F25, PySem.W.mg_of X G a25, bd25 F25⟩ ⟨F26, PySem.W.mg_of X G a26, bd26 F26⟩ ⟨F27, PySem.W.mg_of X G a27, bd27 F27⟩ ⟨F28, PySem.W.mg_of X G a28, bd28 F28⟩ ⟨F29, PySem.W.mg_of X G a29, bd29 F29⟩ ⟨F30, PySem.W.mg_of X G a30, bd30 F30⟩ ⟨F31, PySem.W.mg_of X G a31, bd31 F31⟩ ⟨F32, PySem.W.mg_of X G a32, bd32 F32⟩ ⟨F33, PySem.W.mg_of X G a33, bd33 F33⟩ ⟨F34, PySem.W.mg_of X G a34, bd34 F34⟩ ⟨F35, PySem.W.mg_of X G a35, bd35 F35⟩ ⟨F36, PySem.W.mg_of X G a36, bd36 F36⟩ ⟨F37, PySem.W.mg_of X G a37, bd37 F37⟩ ⟨F38, PySem.W.mg_of X G a38, bd38 F38⟩ ⟨F39, PySem.W.mg_of X G a39, bd39 F39⟩ ⟨F40, PySem.W.mg_of X G a40, bd40 F40⟩ ⟨F41, PySem.W.mg_of X G a41, bd41 F41⟩ ⟨F42, PySem.W.mg_of X G a42, bd42 F42⟩⟩
end DL
set_option Elab.async false
set_option linter.all false
set_option maxRecDepth 100000
set_option maxHeartbeats 0
open PySem PySem.W PyProof.Rows
theorem PySem.Challenge.cw_chumwords_k23_whole_greatest_lots_holds : PySem.Challenge.rw_chumwords_k23_whole_greatest_lots.Holds := by
  w_on; o_law; k_head; (case hw => w_witness2)
  k_fill
  refine L2.walk_of (l := PySem.Challenge.rw_chumwords_k23_whole_greatest_lots) (n := 63) (k := 7) (x := "_law_script") (CX := fun _ => L2.CX0) (sp := fun w => DL.spLaw _) rfl (by decide) rfl ⟨rfl, by decide, by decide⟩ (fun w h Y => PySem.W.kIn_of Y) ?F (fun _ _ a ns _ _ hS => ⟨a, ns, rfl, hS, fun _ => rfl⟩) (fun _ _ _ _ _ z => z)
  case F =>
    intro w mg fa h KX G hmg
    refine' DL.all_mk KX G hmg ?z0 ?z1 ?z2 ?z3 ?z4 ?z5 ?z6 ?z7 ?z8 ?z9 ?z10 ?z11 ?z12 ?z13 ?z14 ?z15 ?zA ?zL ?zM ?aC ?xL ?sa ?ga ?gg ?n1 ?n2 ?aI ?tI ?lI ?cI ?kI ?kC ?eC ?tC ?hC ?iC ?sC ?a0 ?l0 ?c0 ?k0 ?a1 ?l1 ?c1 ?k1 ?a2 ?l2 ?c2 ?k2 ?a3 ?l3 ?c3 ?k3 ?a4 ?l4 ?c4 ?k4 ?a5 ?l5 ?c5 ?k5 ?a6 ?l6 ?c6 ?k6 ?a7 ?l7 ?c7 ?k7 ?a8 ?l8 ?c8 ?k8 ?a9 ?l9 ?c9 ?k9 ?a10 ?l10 ?c10 ?k10 ?a11 ?l11 ?c11 ?k11 ?a12 ?l12 ?c12 ?k12 ?a13 ?l13 ?c13 ?k13 ?a14 ?l14 ?c14 ?k14 ?a15 ?l15 ?c15 ?k15 ?a16 ?l16 ?c16 ?k16 ?a17 ?l17 ?c17 ?k17 ?a18 ?l18 ?c18 ?k18 ?a19 ?l19 ?c19 ?k19 ?a20 ?l20 ?c20 ?k20 ?a21 ?l21 ?c21 ?k21 ?a22 ?l22 ?c22 ?k22 ?a23 ?l23 ?c23 ?k23 ?a24 ?l24 ?c24 ?k24 ?a25 ?l25 ?c25 ?k25 ?a26 ?l26 ?c26 ?k26 ?a27 ?l27 ?c27 ?k27 ?a28 ?l28 ?c28 ?k28 ?a29 ?l29 ?c29 ?k29 ?a30 ?l30 ?c30 ?k30 ?a31 ?l31 ?c31 ?k31 ?a32 ?l32 ?c32 ?k32 ?a33 ?l33 ?c33 ?k33 ?a34 ?l34 ?c34 ?k34 ?a35 ?l35 ?c35 ?k35 ?a36 ?l36 ?c36 ?k36 ?a37 ?l37 ?c37 ?k37 ?a38 ?l38 ?c38 ?k38 ?a39 ?l39 ?c39 ?k39 ?a40 ?l40 ?c40 ?k40 ?a41 ?l41 ?c41 ?k41 ?a42 ?l42 ?c42 ?k42
    (case z0 => k_is)
    (case z1 => k_is)
    (case z2 => k_is)
    (case z3 => k_is)
    (case z4 => k_is)
    (case z5 => k_is)
    (case z6 => k_is)
    (case z7 => k_is)
    (case z8 => k_is)
    (case z9 => k_is)
    (case z10 => k_is)
    (case z11 => k_is)
    (case z12 => k_is)
    (case z13 => k_is)
    (case z14 => k_is)
    (case z15 => k_is)
    (case zA => k_is)
    (case zL => k_is)
    (case zM => k_is)
    (case aC => k_is)
    (case xL => k_is)
    (case sa => k_is)
    (case ga => k_is)
    (case gg => k_is)
    (case n1 => k_is)
    (case n2 => k_is)
    (case aI => k_is)
    (case tI => k_is)
    (case lI => k_is)
    (case cI => k_is)
    (case kI => k_is)
    (case kC => k_is)
    (case eC => k_is)
    (case tC => k_is)
    (case hC => k_is)
    (case iC => k_is)
    (case sC => first | rfl | k_is)
    (case a0 => k_is)
    (case l0 => k_is)
    (case c0 => k_is)
    (case k0 => k_is)
    (case a1 => k_is)
    (case l1 => k_is)
    (case c1 => k_is)
    (case k1 => k_is)
    (case a2 => k_is)
    (case l2 => k_is)
    (case c2 => k_is)
    (case k2 => k_is)
    (case a3 => k_is)
    (case l3 => k_is)
    (case c3 => k_is)
    (case k3 => k_is)
    (case a4 => k_is)
    (case l4 => k_is)
    (case c4 => k_is)
    (case k4 => k_is)
    (case a5 => k_is)
    (case l5 => k_is)
    (case c5 => k_is)
    (case k5 => k_is)
    (case a6 => k_is)
    (case l6 => k_is)
    (case c6 => k_is)
    (case k6 => k_is)
    (case a7 => k_is)
    (case l7 => k_is)
    (case c7 => k_is)
    (case k7 => k_is)
    (case a8 => k_is)
    (case l8 => k_is)
    (case c8 => k_is)
    (case k8 => k_is)
    (case a9 => k_is)
    (case l9 => k_is)
    (case c9 => k_is)
    (case k9 => k_is)
    (case a10 => k_is)
    (case l10 => k_is)
    (case c10 => k_is)
    (case k10 => k_is)
    (case a11 => k_is)
    (case l11 => k_is)
    (case c11 => k_is)
    (case k11 => k_is)
    (case a12 => k_is)
    (case l12 => k_is)
    (case c12 => k_is)
    (case k12 => k_is)
    (case a13 => k_is)
    (case l13 => k_is)
    (case c13 => k_is)
    (case k13 => k_is)
    (case a14 => k_is)
    (case l14 => k_is)
    (case c14 => k_is)
    (case k14 => k_is)
    (case a15 => k_is)
    (case l15 => k_is)
    (case c15 => k_is)
    (case k15 => k_is)
    (case a16 => k_is)
    (case l16 => k_is)
    (case c16 => k_is)
    (case k16 => k_is)
    (case a17 => k_is)
    (case l17 => k_is)
    (case c17 => k_is)
    (case k17 => k_is)
    (case a18 => k_is)
    (case l18 => k_is)
    (case c18 => k_is)
    (case k18 => k_is)
    (case a19 => k_is)
    (case l19 => k_is)
    (case c19 => k_is)
    (case k19 => k_is)
    (case a20 => k_is)
    (case l20 => k_is)
    (case c20 => k_is)
    (case k20 => k_is)
    (case a21 => k_is)
    (case l21 => k_is)
    (case c21 => k_is)
    (case k21 => k_is)
    (case a22 => k_is)
    (case l22 => k_is)
    (case c22 => k_is)
    (case k22 => k_is)
    (case a23 => k_is)
    (case l23 => k_is)
    (case c23 => k_is)
    (case k23 => k_is)
    (case a24 => k_is)
    (case l24 => k_is)
    (case c24 => k_is)
    (case k24 => k_is)
    (case a25 => k_is)
    (case l25 => k_is)
    (case c25 => k_is)
    (case k25 => k_is)
    (case a26 => k_is)
    (case l26 => k_is)
    (case c26 => k_is)
    (case k26 => k_is)
    (case a27 => k_is)
    (case l27 => k_is)
    (case c27 => k_is)
    (case k27 => k_is)
    (case a28 => k_is)
    (case l28 => k_is)
    (case c28 => k_is)
    (case k28 => k_is)
    (case a29 => k_is)
    (case l29 => k_is)
    (case c29 => k_is)
    (case k29 => k_is)
    (case a30 => k_is)
    (case l30 => k_is)
    (case c30 => k_is)
    (case k30 => k_is)
    (case a31 => k_is)
    (case l31 => k_is)
    (case c31 => k_is)
    (case k31 => k_is)
    (case a32 => k_is)
    (case l32 => k_is)
    (case c32 => k_is)
    (case k32 => k_is)
    (case a33 => k_is)
    (case l33 => k_is)
    (case c33 => k_is)
    (case k33 => k_is)
    (case a34 => k_is)
    (case l34 => k_is)
    (case c34 => k_is)
    (case k34 => k_is)
    (case a35 => k_is)
    (case l35 => k_is)
    (case c35 => k_is)
    (case k35 => k_is)
    (case a36 => k_is)
    (case l36 => k_is)
    (case c36 => k_is)
    (case k36 => k_is)
    (case a37 => k_is)
    (case l37 => k_is)
    (case c37 => k_is)
    (case k37 => k_is)
    (case a38 => k_is)
    (case l38 => k_is)
    (case c38 => k_is)
    (case k38 => k_is)
    (case a39 => k_is)
    (case l39 => k_is)
    (case c39 => k_is)
    (case k39 => k_is)
    (case a40 => k_is)
    (case l40 => k_is)
    (case c40 => k_is)
    (case k40 => k_is)
    (case a41 => k_is)
    (case l41 => k_is)
    (case c41 => k_is)
    (case k41 => k_is)
    (case a42 => k_is)
    (case l42 => k_is)
    (case c42 => k_is)
    (case k42 => k_is)
#print axioms PySem.Challenge.cw_chumwords_k23_whole_greatest_lots_holds
