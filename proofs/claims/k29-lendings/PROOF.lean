import PyProof.Rows.All
import Wide.All
import OpenK.AllK
import Wide.FinOn
import HandS.ForMost
import HandS.Deep
import HandS.Zip
import HandS.TupAny
import HandS.TupLe
import HandS.Style
import HandS.IsInst
import HandS.Codes
import HandS.Defaults
import KE.GoesEnum
import HandS.TupSets
import HandS.SortRule
import KE.KOpsOwn
import HandS.Property
import HandS.MakeKwOnly
import HandS.ClsMeth
import HandS.OwnEq
import HandS.CallLocal
import HandS.Exc
import HandS.SlotsOwn
import KE.KDictDisplayH
import HandS.Dict
import KE.DatumOrd
import KE.KStateDown
import Lean
import HandS.Ends
import HandS.Head0
import HandS.Head1
import HandS.Head2
import HandS.HeadEnd
import HandS.HeadHook1
import HandS.HeadHook2
import HandS.HeadNt
import PySem.Challenge.RW_pegstreet_k29_made_by_lendings_whole
set_option Elab.async false
set_option linter.all false
set_option maxRecDepth 100000
set_option maxHeartbeats 4000000
namespace Pg
open PySem PySem.Spec PyProof.Rows L2

/-! ### heaps: a stable part and the whole -/
def Ex (H H' : Hp) : Prop := ∀ a o, H a = some o → H' a = some o
theorem Ex.refl (H : Hp) : Ex H H := fun _ _ h => h
theorem Ex.trans {H H1 H2 : Hp} (a : Ex H H1) (b : Ex H1 H2) : Ex H H2 := fun x o h => b x o (a x o h)
theorem Ex.new {H : Hp} {p : Addr} {o : HO} (h : H p = none) : Ex H (upd H p o) := fun a u e => by
  rw [upd_ne (ne_of_none e h)]
  exact e
theorem Ex.none {H H' : Hp} {p : Addr} (e : Ex H H') (h : H' p = Option.none) : H p = Option.none := by
  cases q : H p with
  | none => rfl
  | some o =>
    rw [e p o q] at h
    cases h
theorem Ex.updU {H H' : Hp} {p : Addr} {o : HO} (e : Ex H H') (h : H' p = Option.none) : Ex (upd H p o) (upd H' p o) := fun a u z => by
  by_cases q : a = p
  · subst q
    rw [upd_same] at z ⊢
    exact z
  · rw [upd_ne q] at z ⊢
    exact e a u z
theorem ex_rd {H H' : Hp} {a : Addr} {u : HO} (e : Ex H H') (h : Rd H a u) : Rd H' a u := by
  rcases h with h | ⟨o, h⟩
  · exact Or.inl (e a _ h)
  · exact Or.inr ⟨o, e a _ h⟩
theorem ex_l {K : PySem.W.Frag} {H H' : Hp} {a : Addr} {xs : List V} (e : Ex H H') (h : SqL K H a xs) : SqL K H' a xs := by
  rcases h with h | h
  · exact Or.inl (ex_rd e h)
  · exact Or.inr h
theorem ex_t {K : PySem.W.Frag} {H H' : Hp} {a : Addr} {xs : List V} (e : Ex H H') (h : SqT K H a xs) : SqT K H' a xs := by
  rcases h with h | h
  · exact Or.inl (ex_rd e h)
  · exact Or.inr h

/-- from (Hs, H) to (Hs', H'): both grow; what is newly stable is new -/
structure Step (Hs H Hs' H' : Hp) : Prop where
  es : Ex Hs Hs'
  eh : Ex H H'
  ss : Ex Hs' H'
  nw : ∀ a o, Hs' a = some o → Hs a = some o ∨ H a = none
theorem Step.refl {Hs H : Hp} (e : Ex Hs H) : Step Hs H Hs H := ⟨Ex.refl _, Ex.refl _, e, fun _ _ h => .inl h⟩
theorem Step.trans {Hs H Hs1 H1 Hs2 H2 : Hp} (a : Step Hs H Hs1 H1) (b : Step Hs1 H1 Hs2 H2) : Step Hs H Hs2 H2 :=
  ⟨a.es.trans b.es, a.eh.trans b.eh, b.ss, fun x o h => (b.nw x o h).elim (a.nw x o) fun z => .inr (a.eh.none z)⟩
theorem Step.new {Hs H : Hp} {p : Addr} {o : HO} (e : Ex Hs H) (h : H p = none) : Step Hs H (upd Hs p o) (upd H p o) :=
  ⟨Ex.new (e.none h), Ex.new h, e.updU h, fun a u z => by
    by_cases q : a = p
    · subst q
      exact .inr h
    · rw [upd_ne q] at z
      exact .inl z⟩
/-- an object that is not stable is written -/
theorem Step.wr {Hs H : Hp} {p : Addr} {o : HO} (e : Ex Hs H) (h : Hs p = none) : Ex Hs (upd H p o) := fun a u z => by
  rw [upd_ne (ne_of_none z h)]
  exact e a u z
theorem Step.free {Hs H Hs' H' : Hp} {l : Addr} {o : HO} (s : Step Hs H Hs' H') (h : Hs l = none) (hl : H l = some o) : Hs' l = none := by
  cases q : Hs' l with
  | none => rfl
  | some u =>
    rcases s.nw l u q with z | z
    · rw [h] at z
      cases z
    · rw [hl] at z
      cases z

/-! ### types: what a value stands for -/
structure Ty (α : Type) where
  R : V → Hp → α → Prop
  mono : ∀ {v H H' a}, Ex H H' → R v H a → R v H' a
theorem pr_mono {α : Type} {T : Ty α} {H H' : Hp} (e : Ex H H') {vs : List V} {xs : List α} (h : Paired (fun v x => T.R v H x) vs xs) : Paired (fun v x => T.R v H' x) vs xs := L2.Paired.mapP h fun _ _ z => T.mono e z
def tInt : Ty Int := ⟨fun v _ i => v = .int i, fun _ h => h⟩
def tBool : Ty Bool := ⟨fun v _ i => v = .bl i, fun _ h => h⟩
def tStr : Ty Str := ⟨fun v _ i => v = .str i, fun _ h => h⟩
def tNon : Ty Unit := ⟨fun v _ _ => v = .non, fun _ h => h⟩
/-- anything -/
def tAny : Ty Unit := ⟨fun _ _ _ => True, fun _ h => h⟩
def tOpt {α : Type} (T : Ty α) : Ty (Option α) := ⟨fun v H o => match o with
  | none => v = .non
  | some x => v ≠ .non ∧ T.R v H x, fun {v H H' a} e h => by
    cases a with
    | none => exact h
    | some x => exact ⟨h.1, T.mono e h.2⟩⟩
def tLst {α : Type} (T : Ty α) : Ty (List α) := ⟨fun v H xs => ∃ a vs, v = .ref a ∧ H a = some (.lst vs) ∧ Paired (fun v x => T.R v H x) vs xs,
  fun e ⟨a, vs, h1, h2, h3⟩ => ⟨a, vs, h1, e _ _ h2, pr_mono e h3⟩⟩
def tTup {α : Type} (T : Ty α) : Ty (List α) := ⟨fun v H xs => ∃ a vs, v = .ref a ∧ H a = some (.tup vs) ∧ Paired (fun v x => T.R v H x) vs xs,
  fun e ⟨a, vs, h1, h2, h3⟩ => ⟨a, vs, h1, e _ _ h2, pr_mono e h3⟩⟩
/-- the script: a list that is only read -/
def tScr (K : PySem.W.Frag) : Ty (List Int) := ⟨fun v H xs => ∃ a, v = .ref a ∧ SqL K H a (xs.map V.int), fun e ⟨a, h1, h2⟩ => ⟨a, h1, ex_l e h2⟩⟩
/-- several values in a row -/
structure Tys (α : Type) where
  R : List V → Hp → α → Prop
  ar : Nat
  mono : ∀ {v H H' a}, Ex H H' → R v H a → R v H' a
  len : ∀ {v H a}, R v H a → v.length = ar
def ysN : Tys Unit := ⟨fun vs _ _ => vs = [], 0, fun _ h => h, fun h => by
  rw [h] <;> rfl⟩
def ysC {α β : Type} (T : Ty α) (S : Tys β) : Tys (α × β) := ⟨fun vs H d => ∃ v r, vs = v :: r ∧ T.R v H d.1 ∧ S.R r H d.2, S.ar + 1, fun e ⟨v, r, h1, h2, h3⟩ => ⟨v, r, h1, T.mono e h2, S.mono e h3⟩, fun ⟨v, r, h1, h2, h3⟩ => by
  rw [h1, List.length_cons, S.len h3]⟩
/-- n values of one type -/
def ysH {α : Type} (T : Ty α) (n : Nat) : Tys (List α) := ⟨fun vs H ds => vs.length = n ∧ Paired (fun v x => T.R v H x) vs ds, n, fun e ⟨h1, h2⟩ => ⟨h1, pr_mono e h2⟩, fun h => h.1⟩
/-- a tuple, a list of written items -/
def tTupN {α : Type} (S : Tys α) : Ty α := ⟨fun v H d => ∃ a vs, v = .ref a ∧ H a = some (.tup vs) ∧ S.R vs H d, fun e ⟨a, vs, h1, h2, h3⟩ => ⟨a, vs, h1, e _ _ h2, S.mono e h3⟩⟩
def tLstN {α : Type} (S : Tys α) : Ty α := ⟨fun v H d => ∃ a vs, v = .ref a ∧ H a = some (.lst vs) ∧ S.R vs H d, fun e ⟨a, vs, h1, h2, h3⟩ => ⟨a, vs, h1, e _ _ h2, S.mono e h3⟩⟩
abbrev tPair {α β : Type} (A : Ty α) (B : Ty β) : Ty (α × β × Unit) := tTupN (ysC A (ysC B ysN))

/-! ### the slots, what is changed by hand, the invariant of a body -/
inductive Slot : Type 1 where
  | non
  | val {α : Type} (T : Ty α) (d : α)
def Slot.ok (Hs : Hp) : Slot → Option V → Prop
  | .non, _ => True
  | .val T d, o => ∃ v, o = some v ∧ T.R v Hs d
theorem Slot.ok_mono {Hs Hs' : Hp} (e : Ex Hs Hs') {s : Slot} {o : Option V} (h : s.ok Hs o) : s.ok Hs' o := by
  cases s with
  | non => trivial
  | val T d =>
    obtain ⟨v, h1, h2⟩ := h
    exact ⟨v, h1, T.mono e h2⟩
/-- what is not stable: H0 the whole heap ahead of the body, σ, the stable part, the whole -/
structure Mu where
  I : Hp → L2.St → Hp → Hp → Prop
  dep : List Nat
  keep : ∀ {H0 σ Hs H Hs' H'}, I H0 σ Hs H → Step Hs H Hs' H' → I H0 σ Hs' H'
  loc : ∀ {H0 σ σ' Hs H}, (∀ i, i ∈ dep → σ'[i]? = σ[i]?) → I H0 σ Hs H → I H0 σ' Hs H
def mu0 : Mu := ⟨fun _ _ _ _ => True, [], fun _ _ => trivial, fun _ _ => trivial⟩
/-- never -/
def muF : Mu := ⟨fun _ _ _ _ => False, [], fun h _ => h, fun _ h => h⟩
/-- the i-th slot holds a list that is being made -/
def muL (i : Nat) {α : Type} (T : Ty α) (ds : List α) : Mu where
  I := fun H0 σ Hs H => ∃ l vs, σ[i]? = some (some (.ref l)) ∧ H0 l = none ∧ Hs l = none ∧ H l = some (.lst vs) ∧ Paired (fun v x => T.R v Hs x) vs ds
  dep := [i]
  keep := fun ⟨l, vs, h1, h2, h3, h4, h5⟩ s => ⟨l, vs, h1, h2, s.free h3 h4, s.eh _ _ h4, pr_mono s.es h5⟩
  loc := fun e ⟨l, vs, h1, h2, h3, h4, h5⟩ => ⟨l, vs, (e i (List.mem_cons_self ..)).trans h1, h2, h3, h4, h5⟩
def Sls (Hs : Hp) (ρ : List Slot) (σ : L2.St) : Prop := ρ.length = σ.length ∧ ∀ (i : Nat) (s : Slot), ρ[i]? = some s → ∃ o, σ[i]? = some o ∧ s.ok Hs o
theorem Sls.mono {Hs Hs' : Hp} {ρ : List Slot} {σ : L2.St} (e : Ex Hs Hs') (h : Sls Hs ρ σ) : Sls Hs' ρ σ := ⟨h.1, fun i s z => by
  obtain ⟨o, h1, h2⟩ := h.2 i s z
  exact ⟨o, h1, Slot.ok_mono e h2⟩⟩
theorem Sls.set {Hs : Hp} {ρ : List Slot} {σ : L2.St} {s : Slot} {o : Option V} (r : s.ok Hs o) (i : Nat) (h : Sls Hs ρ σ) : Sls Hs (ρ.set i s) (σ.set i o) := by
  refine ⟨by simpa using h.1, fun j u z => ?_⟩
  by_cases q : i = j
  · subst q
    by_cases hi : i < ρ.length
    · rw [List.getElem?_set_self hi] at z
      cases z
      exact ⟨o, List.getElem?_set_self (by rw [← h.1]; exact hi), r⟩
    · rw [List.getElem?_eq_none (by simpa using hi)] at z
      cases z
  · rw [List.getElem?_set_ne q] at z ⊢
    exact h.2 j u z
structure Cn : Type 1 where
  ρ : List Slot
  μ : Mu
abbrev Cn.set (Γ : Cn) (i : Nat) (s : Slot) : Cn := ⟨Γ.ρ.set i s, Γ.μ⟩
structure Bs where
  Hs : Hp
  H : Hp
structure W (B : Bs) (Γ : Cn) (σ : L2.St) (Hs H : Hp) : Prop where
  st : Step B.Hs B.H Hs H
  sl : Sls Hs Γ.ρ σ
  mu : Γ.μ.I B.H σ Hs H
theorem W.ex {B : Bs} {Γ : Cn} {σ : L2.St} {Hs H : Hp} (w : W B Γ σ Hs H) : Ex Hs H := w.st.ss
theorem W.step {B : Bs} {Γ : Cn} {σ : L2.St} {Hs H Hs' H' : Hp} (w : W B Γ σ Hs H) (s : Step Hs H Hs' H') : W B Γ σ Hs' H' :=
  ⟨w.st.trans s, w.sl.mono s.es, Γ.μ.keep w.mu s⟩
theorem pr_get {α β : Type} {F : α → β → Prop} : ∀ {xs : List α} {ys : List β} {i : Nat} {x : α}, Paired F xs ys → xs[i]? = some x → ∃ y, ys[i]? = some y ∧ F x y
  | _, _, _, _, .nil, e => by simp at e
  | _, _, 0, _, .cons r _, e => by
    simp at e
    subst e
    exact ⟨_, rfl, r⟩
  | _, _, i + 1, x, .cons _ t, e => by
    obtain ⟨u, h1, h2⟩ := pr_get (i := i) (x := x) t (by simpa using e)
    exact ⟨u, by simpa using h1, h2⟩
theorem pr_getR {α β : Type} {F : α → β → Prop} : ∀ {xs : List α} {ys : List β} {i : Nat} {y : β}, Paired F xs ys → ys[i]? = some y → ∃ x, xs[i]? = some x ∧ F x y
  | _, _, _, _, .nil, e => by simp at e
  | _, _, 0, _, .cons r _, e => by
    simp at e
    subst e
    exact ⟨_, rfl, r⟩
  | _, _, i + 1, y, .cons _ t, e => by
    obtain ⟨u, h1, h2⟩ := pr_getR (i := i) (y := y) t (by simpa using e)
    exact ⟨u, by simpa using h1, h2⟩
theorem pr_set {α β : Type} {F : α → β → Prop} {x : α} {y : β} (r : F x y) : ∀ {xs : List α} {ys : List β} (i : Nat), Paired F xs ys → Paired F (xs.set i x) (ys.set i y)
  | _, _, _, .nil => .nil
  | _, _, 0, .cons _ t => .cons r t
  | _, _, i + 1, .cons q t => .cons q (pr_set r i t)
theorem W.get {B : Bs} {Γ : Cn} {σ : L2.St} {Hs H : Hp} (w : W B Γ σ Hs H) {i : Nat} {α : Type} {T : Ty α} {d : α} (h : Γ.ρ[i]? = some (.val T d)) : ∃ v, σ[i]? = some (some v) ∧ T.R v Hs d := by
  obtain ⟨o, h1, v, h2, h3⟩ := w.sl.2 i _ h
  subst h2
  exact ⟨v, h1, h3⟩
theorem W.set {B : Bs} {Γ : Cn} {σ : L2.St} {Hs H : Hp} (w : W B Γ σ Hs H) {i : Nat} (hi : Γ.μ.dep.contains i = false) {s : Slot} {o : Option V} (h : s.ok Hs o) : W B (Γ.set i s) (σ.set i o) Hs H := by
  refine ⟨w.st, w.sl.set h i, Γ.μ.loc (fun j hj => ?_) w.mu⟩
  have n : i ≠ j := fun e => by
    subst e
    rw [List.contains_iff_mem.mpr hj] at hi
    cases hi
  exact List.getElem?_set_ne n

/-! ### judgements -/
def Bnd (K : PySem.W.Frag) (v : V) (H : Hp) : Prop := ∀ a vs, v = .ref a → (SqL K H a vs ∨ SqT K H a vs) → vs.length ≤ sizeLine
def tM (Γ : Cn) {α : Type} (T : Ty α) (m : Option α) : TE := fun σ H Q => ∃ B Hs d, W B Γ σ Hs H ∧ m = some d ∧ ∀ v Hs' H', Step Hs H Hs' H' → T.R v Hs' d → Q v H'
def tMB (K : PySem.W.Frag) (Γ : Cn) {α : Type} (T : Ty α) (m : Option α) : TE := fun σ H Q => ∃ B Hs d, W B Γ σ Hs H ∧ m = some d ∧ ∀ v Hs' H', Step Hs H Hs' H' → T.R v Hs' d → Bnd K v H' → Q v H'
def tMT (Γ : Cn) (m : Option Bool) : TT := fun σ H Q => ∃ B Hs d, W B Γ σ Hs H ∧ m = some d ∧ ∀ Hs' H', Step Hs H Hs' H' → Q d H'
def tMA (Γ : Cn) {α : Type} (T : Tys α) (m : Option α) : TA := fun σ H Q => ∃ B Hs d, W B Γ σ Hs H ∧ m = some d ∧ ∀ v Hs' H', Step Hs H Hs' H' → T.R v Hs' d → Q v H'
structure XE (X : Cx) (e : Expr) (Γ : Cn) {α : Type} (T : Ty α) (m : Option α) : Prop where
  pe : PE X e (tMB X.K Γ T m)
structure XT (X : Cx) (e : Expr) (Γ : Cn) (m : Option Bool) : Prop where
  pt : PT X e (tMT Γ m)
structure XA (X : Cx) (es : List Expr) (Γ : Cn) {α : Type} (T : Tys α) (m : Option α) : Prop where
  pa : PA X es (tMA Γ T m)
theorem bnd_of {X : Cx} {pins : List (Addr × Obj)} {σ : L2.St} {H : Hp} {s : Shared} (I : Inv X pins σ H s) (v : V) : Bnd X.K v H := fun a vs _ h => by
  rcases h with h | h
  · obtain ⟨_, _, _, z⟩ := I.list h
    exact z
  · obtain ⟨_, _, _, z⟩ := I.tuple h
    exact z
section
variable {X : Cx} {e : Expr} {Γ : Cn} {α : Type} {T : Ty α} {m : Option α}
theorem pe_imp {t t' : TE} (h : PE X e t) (hi : ∀ σ H Q, t' σ H Q → t σ H Q) : PE X e t' := ⟨fun pins s σ H Q I hw => h.run pins s σ H Q I (hi _ _ _ hw)⟩
theorem pt_imp {t t' : TT} (h : PT X e t) (hi : ∀ σ H Q, t' σ H Q → t σ H Q) : PT X e t' := ⟨fun pins s σ H Q I hw => h.run pins s σ H Q I (hi _ _ _ hw)⟩
theorem pa_imp {es : List Expr} {t t' : TA} (h : PA X es t) (hi : ∀ σ H Q, t' σ H Q → t σ H Q) : PA X es t' := ⟨fun pos pins s σ H Q I hw => h.run pos pins s σ H Q I (hi _ _ _ hw)⟩
/-- the lengths of lists are known by the heap's invariant -/
theorem XE.of (h : PE X e (tM Γ T m)) : XE X e Γ T m := ⟨⟨fun pins s σ H Q I ⟨B, Hs, d, w, hm, q⟩ =>
  thn (h.run pins s σ H (fun v H' => Bnd X.K v H' → Q v H') I ⟨B, Hs, d, w, hm, fun v Hs' H' st r b => q v Hs' H' st r b⟩) fun u s' ⟨v, H', I', r, z⟩ => ⟨v, H', I', r, z (bnd_of I' v)⟩⟩⟩
theorem XE.raw (h : XE X e Γ T m) : PE X e (tM Γ T m) := pe_imp h.pe fun _ _ _ ⟨B, Hs, d, w, hm, q⟩ => ⟨B, Hs, d, w, hm, fun v Hs' H' st r _ => q v Hs' H' st r⟩
/-- the rule maker: from a reading of the layer -/
theorem xe_mk {t : TE} (h : PE X e t) (hi : ∀ B σ Hs H Q d, W B Γ σ Hs H → m = some d → (∀ v Hs' H', Step Hs H Hs' H' → T.R v Hs' d → Q v H') → t σ H Q) : XE X e Γ T m :=
  XE.of (pe_imp h fun _ _ _ ⟨_, _, _, w, hm, q⟩ => hi _ _ _ _ _ _ w hm q)
theorem xt_mk {t : TT} {m : Option Bool} (h : PT X e t) (hi : ∀ B σ Hs H Q d, W B Γ σ Hs H → m = some d → (∀ Hs' H', Step Hs H Hs' H' → Q d H') → t σ H Q) : XT X e Γ m :=
  ⟨pt_imp h fun _ _ _ ⟨_, _, _, w, hm, q⟩ => hi _ _ _ _ _ _ w hm q⟩
theorem xa_mk {es : List Expr} {β : Type} {S : Tys β} {m : Option β} {t : TA} (h : PA X es t) (hi : ∀ B σ Hs H Q d, W B Γ σ Hs H → m = some d → (∀ v Hs' H', Step Hs H Hs' H' → S.R v Hs' d → Q v H') → t σ H Q) : XA X es Γ S m :=
  ⟨pa_imp h fun _ _ _ ⟨_, _, _, w, hm, q⟩ => hi _ _ _ _ _ _ w hm q⟩
/-- a part that may fail, named -/
theorem x_let {β : Type} {m : Option β} {F : β → Option α} (h : ∀ d, m = some d → XE X e Γ T (F d)) : XE X e Γ T (m.bind F) := by
  cases m with
  | none => exact XE.of ⟨fun _ _ _ _ _ _ ⟨_, _, _, _, hm, _⟩ => nomatch hm⟩
  | some d => exact h d rfl
theorem xt_let {β : Type} {m : Option β} {F : β → Option Bool} (h : ∀ d, m = some d → XT X e Γ (F d)) : XT X e Γ (m.bind F) := by
  cases m with
  | none => exact ⟨⟨fun _ _ _ _ _ _ ⟨_, _, _, _, hm, _⟩ => nomatch hm⟩⟩
  | some d => exact h d rfl
theorem x_got {d : α} (hm : m = some d) (h : XE X e Γ T m) : XE X e Γ T (some d) := hm ▸ h
theorem xt_got {m : Option Bool} {d : Bool} (hm : m = some d) (h : XT X e Γ m) : XT X e Γ (some d) := hm ▸ h
end
end Pg
set_option Elab.async false
set_option linter.all false
set_option maxRecDepth 100000
set_option maxHeartbeats 4000000
namespace Pg
open PySem PySem.Spec PyProof.Rows L2

/-! ### the rule makers -/
section
variable {X : Cx} {Γ : Cn} {a b : Expr} {pos : Pos} {α β γ : Type} {A : Ty α} {B : Ty β} {C : Ty γ} {x : α} {y : β}
theorem xe_two {e : Expr} {r : R2} {m : Option γ} (h : PE X e (tOp r (tM Γ A (some x)) (tM Γ B (some y))))
    (hr : ∀ u v Hs H Q c, m = some c → Ex Hs H → A.R u Hs x → B.R v Hs y → (∀ z Hs' H', Step Hs H Hs' H' → C.R z Hs' c → Q z H') → r u v H Q) : XE X e Γ C m :=
  xe_mk h fun _ _ _ _ Q d w hm q => ⟨_, _, x, w, rfl, fun u Hs1 H1 s1 r1 => ⟨_, _, y, w.step s1, rfl, fun v Hs2 H2 s2 r2 =>
    hr u v Hs2 H2 Q d hm s2.ss (A.mono s2.es r1) r2 fun z Hs3 H3 s3 r3 => q z Hs3 H3 ((s1.trans s2).trans s3) r3⟩⟩
theorem xt_two {e : Expr} {r : R2} {m : Option Bool} (h : PT X e (tTest (tOp r (tM Γ A (some x)) (tM Γ B (some y)))))
    (hr : ∀ u v Hs H Q c, m = some c → Ex Hs H → A.R u Hs x → B.R v Hs y → (∀ Hs' H', Step Hs H Hs' H' → Q (.bl c) H') → r u v H Q) : XT X e Γ m :=
  xt_mk h fun _ _ _ _ Q d w hm q => ⟨_, _, x, w, rfl, fun u Hs1 H1 s1 r1 => ⟨_, _, y, w.step s1, rfl, fun v Hs2 H2 s2 r2 =>
    hr u v Hs2 H2 _ d hm s2.ss (A.mono s2.es r1) r2 fun Hs3 H3 s3 => ⟨d, rfl, q Hs3 H3 ((s1.trans s2).trans s3)⟩⟩⟩
theorem xe_bin {op : Operator} {r : R2} {m : Option γ} (ho : OpR X (binaryOp op) r) (ha : XE X a Γ A (some x)) (hb : XE X b Γ B (some y))
    (hr : ∀ u v Hs H Q c, m = some c → Ex Hs H → A.R u Hs x → B.R v Hs y → (∀ z Hs' H', Step Hs H Hs' H' → C.R z Hs' c → Q z H') → r u v H Q) : XE X (.BinOp a op b pos) Γ C m := xe_two (pe_op ho ha.raw hb.raw) hr
theorem xe_cmp {op : CmpOp} {r : R2} {m : Option Bool} (ho : OpR X (compareOp op) r) (hb0 : behindInMarks op b = false) (ha : XE X a Γ A (some x)) (hb : XE X b Γ B (some y))
    (hr : ∀ u v Hs H (Q : VK) c, m = some c → Ex Hs H → A.R u Hs x → B.R v Hs y → (∀ Hs' H', Step Hs H Hs' H' → Q (.bl c) H') → r u v H Q) : XE X (.Compare a [op] [b] pos) Γ tBool m :=
  xe_two (pe_cmpR ho ha.raw hb.raw hb0) fun u v Hs H Q c hm e r1 r2 q => hr u v Hs H Q c hm e r1 r2 fun Hs' H' s => q _ Hs' H' s rfl
theorem xt_cmp {op : CmpOp} {r : R2} {m : Option Bool} (ho : OpR X (compareOp op) r) (hb0 : behindInMarks op b = false) (ha : XE X a Γ A (some x)) (hb : XE X b Γ B (some y))
    (hr : ∀ u v Hs H (Q : VK) c, m = some c → Ex Hs H → A.R u Hs x → B.R v Hs y → (∀ Hs' H', Step Hs H Hs' H' → Q (.bl c) H') → r u v H Q) : XT X (.Compare a [op] [b] pos) Γ m :=
  xt_two (pt_cmpR ho ha.raw hb.raw hb0) hr
theorem xe_ix0 {r : R2} {m : Option γ} (hr0 : IxR X r) (ha : XE X a Γ A (some x)) (hb : XE X b Γ B (some y)) (hs : PlainIx b)
    (hr : ∀ u v Hs H Q c, m = some c → Ex Hs H → A.R u Hs x → B.R v Hs y → (∀ z Hs' H', Step Hs H Hs' H' → C.R z Hs' c → Q z H') → r u v H Q) : XE X (.Subscript a b pos) Γ C m := xe_two (pe_ix hr0 ha.raw hb.raw hs) hr
end

/-! ### names, constants -/
section
variable {X : Cx} {Γ : Cn} {pos : Pos} {α : Type} {T : Ty α} {d : α}
theorem x_var (i : Nat) {x : Str} (h : Γ.ρ[i]? = some (.val T d) := by rfl) (hN : X.N[i]? = some x := by rfl) (hv : Vis X.env.scope x := by first | exact Or.inl rfl | exact Or.inr (Or.inl rfl) | exact Or.inr (Or.inr rfl)) (hd : (x == ("__debug__" : Str)) = false := by decide)
    (hcd : (x == ("__classdict__" : Str)) = false := by decide) : XE X (.Name x pos) Γ T (some d) :=
  xe_mk (pe_var hN hv hd hcd) fun B σ Hs H Q c w hm q => by
    cases hm
    obtain ⟨v, e, r⟩ := w.get h
    exact ⟨v, e, q v Hs H (Step.refl w.ex) r⟩
theorem x_const {e : Expr} {v : V} (h : PE X e (tC v)) (hr : ∀ Hs, T.R v Hs d) : XE X e Γ T (some d) := xe_mk h fun B σ Hs H Q c w hm q => by
  cases hm
  exact q v Hs H (Step.refl w.ex) (hr Hs)
theorem x_int {i : Int} {j} : XE X (.Constant (.int i) j pos) Γ tInt (some i) := x_const pe_int fun _ => rfl
theorem x_bl {b : Bool} {j} : XE X (.Constant (.bool b) j pos) Γ tBool (some b) := x_const pe_bl fun _ => rfl
theorem x_str {s : Str} {j} : XE X (.Constant (.str s) j pos) Γ tStr (some s) := x_const pe_str fun _ => rfl
theorem x_none {j} : XE X (.Constant .none j pos) Γ (tOpt T) (some none) := x_const pe_non fun _ => rfl
theorem x_unit {j} : XE X (.Constant .none j pos) Γ tNon (some ()) := x_const pe_non fun _ => rfl
/-- another type of the same value -/
theorem x_as {β : Type} {S : Ty β} {e : Expr} {c : β} (h : XE X e Γ T (some d)) (hr : ∀ v Hs, T.R v Hs d → S.R v Hs c) : XE X e Γ S (some c) := xe_mk h.raw fun B σ Hs H Q z w hm q => by
  cases hm
  exact ⟨B, Hs, d, w, rfl, fun v Hs' H' s r => q v Hs' H' s (hr v Hs' r)⟩
theorem x_eq {e : Expr} {m m' : Option α} (h : XE X e Γ T m) (hm : m = m') : XE X e Γ T m' := hm ▸ h
/-- not None -/
structure NN (T : Ty α) : Prop where
  nn : ∀ v H d, T.R v H d → v ≠ .non
theorem nn_int : NN tInt := ⟨fun v H d h => by
  rw [show v = .int d from h]
  exact fun z => nomatch z⟩
theorem nn_tup {β : Type} {S : Ty β} : NN (tTup S) := ⟨fun v H d ⟨a, vs, h, _⟩ => by
  rw [h]
  exact fun z => nomatch z⟩
theorem x_some {e : Expr} (n : NN T) (h : XE X e Γ T (some d)) : XE X e Γ (tOpt T) (some (some d)) := x_as h fun v Hs r => ⟨n.nn v Hs d r, r⟩
/-- a value that is there -/
theorem x_un {e : Expr} {o : Option α} (h : XE X e Γ (tOpt T) (some o)) : XE X e Γ T o := xe_mk h.raw fun B σ Hs H Q z w hm q => by
  subst hm
  exact ⟨B, Hs, some z, w, rfl, fun v Hs' H' s r => q v Hs' H' s r.2⟩
end

/-! ### numbers -/
def mulO (x y : Int) : Option Int := if (-(2 ^ 64) < x ∧ x < 2 ^ 64) ∨ (-(2 ^ 64) < y ∧ y < 2 ^ 64) then some (x * y) else none
def modO (x y : Int) : Option Int := if 0 < y then some (x % y) else none
def divO (x y : Int) : Option Int := if 0 < y ∧ y < 1073741824 then some (x / y) else none
def powO (x y : Int) : Option Int := if 0 ≤ y ∧ y ≤ 1000000 ∧ x.natAbs < 2 ^ 64 then some (x ^ y.toNat) else none
theorem if_some {c : Prop} [Decidable c] {α : Type} {x y : α} (h : (if c then some x else none) = some y) : c ∧ x = y := by
  by_cases k : c
  · rw [if_pos k] at h
    exact ⟨k, Option.some.inj h⟩
  · rw [if_neg k] at h
    cases h
section
variable {X : Cx} {Γ : Cn} {a b : Expr} {pos : Pos} {x y : Int}
theorem x_add (ha : XE X a Γ tInt (some x)) (hb : XE X b Γ tInt (some y)) : XE X (.BinOp a .Add b pos) Γ tInt (some (x + y)) :=
  xe_bin op_add ha hb fun u v Hs H Q c hm e r1 r2 q => ⟨x, y, r1, r2, by
    cases hm
    exact q _ Hs H (Step.refl e) rfl⟩
theorem x_sub (ha : XE X a Γ tInt (some x)) (hb : XE X b Γ tInt (some y)) : XE X (.BinOp a .Sub b pos) Γ tInt (some (x - y)) :=
  xe_bin op_sub ha hb fun u v Hs H Q c hm e r1 r2 q => ⟨x, y, r1, r2, by
    cases hm
    exact q _ Hs H (Step.refl e) rfl⟩
theorem x_mul (ha : XE X a Γ tInt (some x)) (hb : XE X b Γ tInt (some y)) : XE X (.BinOp a .Mult b pos) Γ tInt (mulO x y) :=
  xe_bin op_mul ha hb fun u v Hs H Q c hm e r1 r2 q => by
    obtain ⟨k, rfl⟩ := if_some hm
    exact ⟨x, y, r1, r2, k, q _ Hs H (Step.refl e) rfl⟩
theorem x_mod (ha : XE X a Γ tInt (some x)) (hb : XE X b Γ tInt (some y)) : XE X (.BinOp a .Mod b pos) Γ tInt (modO x y) :=
  xe_bin op_mod ha hb fun u v Hs H Q c hm e r1 r2 q => by
    obtain ⟨k, rfl⟩ := if_some hm
    exact ⟨x, y, r1, r2, k, q _ Hs H (Step.refl e) rfl⟩
theorem x_div (ha : XE X a Γ tInt (some x)) (hb : XE X b Γ tInt (some y)) : XE X (.BinOp a .FloorDiv b pos) Γ tInt (divO x y) :=
  xe_bin op_fdiv ha hb fun u v Hs H Q c hm e r1 r2 q => by
    obtain ⟨k, rfl⟩ := if_some hm
    exact ⟨x, y, r1, r2, k, q _ Hs H (Step.refl e) rfl⟩
theorem x_pow (ha : XE X a Γ tInt (some x)) (hb : XE X b Γ tInt (some y)) : XE X (.BinOp a .Pow b pos) Γ tInt (powO x y) :=
  xe_bin op_pow ha hb fun u v Hs H Q c hm e r1 r2 q => by
    obtain ⟨k, rfl⟩ := if_some hm
    exact ⟨x, y, r1, r2, k, q _ Hs H (Step.refl e) rfl⟩
theorem x_neg (ha : XE X a Γ tInt (some x)) : XE X (.UnaryOp .USub a pos) Γ tInt (some (-x)) :=
  xe_mk (pe_un un_neg ha.raw) fun B σ Hs H Q d w hm q => by
    cases hm
    exact ⟨B, Hs, x, w, rfl, fun v Hs' H' s r => ⟨x, r, q _ Hs' H' s rfl⟩⟩
theorem x_lt (ha : XE X a Γ tInt (some x)) (hb : XE X b Γ tInt (some y)) : XE X (.Compare a [.Lt] [b] pos) Γ tBool (some (decide (x < y))) :=
  xe_cmp op_lt (nomark _) ha hb fun u v Hs H Q c hm e r1 r2 q => ⟨x, y, r1, r2, by
    cases hm
    exact q Hs H (Step.refl e)⟩
theorem x_le (ha : XE X a Γ tInt (some x)) (hb : XE X b Γ tInt (some y)) : XE X (.Compare a [.LtE] [b] pos) Γ tBool (some (decide (x ≤ y))) :=
  xe_cmp op_le (nomark _) ha hb fun u v Hs H Q c hm e r1 r2 q => ⟨x, y, r1, r2, by
    cases hm
    exact q Hs H (Step.refl e)⟩
theorem x_gt (ha : XE X a Γ tInt (some x)) (hb : XE X b Γ tInt (some y)) : XE X (.Compare a [.Gt] [b] pos) Γ tBool (some (decide (y < x))) :=
  xe_cmp op_gt (nomark _) ha hb fun u v Hs H Q c hm e r1 r2 q => ⟨x, y, r1, r2, by
    cases hm
    exact q Hs H (Step.refl e)⟩
theorem x_ge (ha : XE X a Γ tInt (some x)) (hb : XE X b Γ tInt (some y)) : XE X (.Compare a [.GtE] [b] pos) Γ tBool (some (decide (y ≤ x))) :=
  xe_cmp op_ge (nomark _) ha hb fun u v Hs H Q c hm e r1 r2 q => ⟨x, y, r1, r2, by
    cases hm
    exact q Hs H (Step.refl e)⟩
theorem xt_lt (ha : XE X a Γ tInt (some x)) (hb : XE X b Γ tInt (some y)) : XT X (.Compare a [.Lt] [b] pos) Γ (some (decide (x < y))) :=
  xt_cmp op_lt (nomark _) ha hb fun u v Hs H Q c hm e r1 r2 q => ⟨x, y, r1, r2, by
    cases hm
    exact q Hs H (Step.refl e)⟩
theorem xt_le (ha : XE X a Γ tInt (some x)) (hb : XE X b Γ tInt (some y)) : XT X (.Compare a [.LtE] [b] pos) Γ (some (decide (x ≤ y))) :=
  xt_cmp op_le (nomark _) ha hb fun u v Hs H Q c hm e r1 r2 q => ⟨x, y, r1, r2, by
    cases hm
    exact q Hs H (Step.refl e)⟩
theorem xt_gt (ha : XE X a Γ tInt (some x)) (hb : XE X b Γ tInt (some y)) : XT X (.Compare a [.Gt] [b] pos) Γ (some (decide (y < x))) :=
  xt_cmp op_gt (nomark _) ha hb fun u v Hs H Q c hm e r1 r2 q => ⟨x, y, r1, r2, by
    cases hm
    exact q Hs H (Step.refl e)⟩
theorem xt_ge (ha : XE X a Γ tInt (some x)) (hb : XE X b Γ tInt (some y)) : XT X (.Compare a [.GtE] [b] pos) Γ (some (decide (y ≤ x))) :=
  xt_cmp op_ge (nomark _) ha hb fun u v Hs H Q c hm e r1 r2 q => ⟨x, y, r1, r2, by
    cases hm
    exact q Hs H (Step.refl e)⟩
end

/-! ### == of flat values -/
/-- x and y are flat, their == decides c -/
structure ES {α β : Type} (A : Ty α) (B : Ty β) (f : α → β → Bool) : Prop where
  sc : ∀ u v H x y, A.R u H x → B.R v H y → scal u v = true ∧ decide (u = v) = f x y
theorem es_int : ES tInt tInt fun x y => decide (x = y) := ⟨fun u v H x y h1 h2 => by
  cases (show u = .int x from h1)
  cases (show v = .int y from h2)
  refine ⟨rfl, ?_⟩
  by_cases e : x = y
  · rw [e, decide_eq_true rfl, decide_eq_true rfl]
  · rw [decide_eq_false e, decide_eq_false fun z => e (V.int.inj z)]⟩
theorem es_bl : ES tBool tBool fun x y => decide (x = y) := ⟨fun u v H x y h1 h2 => by
  cases (show u = .bl x from h1)
  cases (show v = .bl y from h2)
  refine ⟨rfl, ?_⟩
  by_cases e : x = y
  · rw [e, decide_eq_true rfl, decide_eq_true rfl]
  · rw [decide_eq_false e, decide_eq_false fun z => e (V.bl.inj z)]⟩
theorem es_str : ES tStr tStr fun x y => decide (x = y) := ⟨fun u v H x y h1 h2 => by
  cases (show u = .str x from h1)
  cases (show v = .str y from h2)
  refine ⟨rfl, ?_⟩
  by_cases e : x = y
  · rw [e, decide_eq_true rfl, decide_eq_true rfl]
  · rw [decide_eq_false e, decide_eq_false fun z => e (V.str.inj z)]⟩
theorem es_oi : ES (tOpt tInt) tInt fun x y => decide (x = some y) := ⟨fun u v H x y h1 h2 => by
  cases (show v = .int y from h2)
  cases x with
  | none =>
    cases (show u = .non from h1)
    exact ⟨rfl, rfl⟩
  | some x =>
    cases (show u = .int x from h1.2)
    refine ⟨rfl, ?_⟩
    by_cases e : x = y
    · rw [e, decide_eq_true rfl, decide_eq_true rfl]
    · rw [decide_eq_false fun z => e (V.int.inj z), decide_eq_false fun z => e (Option.some.inj z)]⟩
section
variable {X : Cx} {Γ : Cn} {a b : Expr} {pos : Pos} {α β : Type} {A : Ty α} {B : Ty β} {x : α} {y : β} {f : α → β → Bool}
theorem x_eqs (es : ES A B f) (ha : XE X a Γ A (some x)) (hb : XE X b Γ B (some y)) : XE X (.Compare a [.Eq] [b] pos) Γ tBool (some (f x y)) :=
  xe_cmp op_eq (nomark _) ha hb fun u v Hs H Q c hm e r1 r2 q => by
    cases hm
    obtain ⟨h1, h2⟩ := es.sc u v Hs x y r1 r2
    exact ⟨h1, by rw [h2]; exact q Hs H (Step.refl e)⟩
theorem x_nes (es : ES A B f) (ha : XE X a Γ A (some x)) (hb : XE X b Γ B (some y)) : XE X (.Compare a [.NotEq] [b] pos) Γ tBool (some (!f x y)) :=
  xe_cmp op_ne (nomark _) ha hb fun u v Hs H Q c hm e r1 r2 q => by
    cases hm
    obtain ⟨h1, h2⟩ := es.sc u v Hs x y r1 r2
    exact ⟨h1, by rw [h2]; exact q Hs H (Step.refl e)⟩
theorem xt_eqs (es : ES A B f) (ha : XE X a Γ A (some x)) (hb : XE X b Γ B (some y)) : XT X (.Compare a [.Eq] [b] pos) Γ (some (f x y)) :=
  xt_cmp op_eq (nomark _) ha hb fun u v Hs H Q c hm e r1 r2 q => by
    cases hm
    obtain ⟨h1, h2⟩ := es.sc u v Hs x y r1 r2
    exact ⟨h1, by rw [h2]; exact q Hs H (Step.refl e)⟩
theorem xt_nes (es : ES A B f) (ha : XE X a Γ A (some x)) (hb : XE X b Γ B (some y)) : XT X (.Compare a [.NotEq] [b] pos) Γ (some (!f x y)) :=
  xt_cmp op_ne (nomark _) ha hb fun u v Hs H Q c hm e r1 r2 q => by
    cases hm
    obtain ⟨h1, h2⟩ := es.sc u v Hs x y r1 r2
    exact ⟨h1, by rw [h2]; exact q Hs H (Step.refl e)⟩
/-- x is None -/
theorem opt_non {T : Ty α} {u : V} {H : Hp} {o : Option α} (r : (tOpt T).R u H o) : decide (u = .non) = o.isNone := by
  cases o with
  | none => exact decide_eq_true (show u = .non from r)
  | some d => exact decide_eq_false r.1
theorem x_isN {T : Ty α} {o : Option α} {j pos'} (ha : XE X a Γ (tOpt T) (some o)) : XE X (.Compare a [.Is] [.Constant .none j pos'] pos) Γ tBool (some o.isNone) :=
  xe_mk (pe_cmp (pc_isN ha.raw)) fun B σ Hs H Q c w hm q => by
    cases hm
    exact ⟨B, Hs, o, w, rfl, fun v Hs' H' s r => by
      show Q (.bl (decide (v = .non))) H'
      rw [opt_non r]
      exact q _ Hs' H' s rfl⟩
theorem x_notN {T : Ty α} {o : Option α} {j pos'} (ha : XE X a Γ (tOpt T) (some o)) : XE X (.Compare a [.IsNot] [.Constant .none j pos'] pos) Γ tBool (some (!o.isNone)) :=
  xe_mk (pe_cmp (pc_notN ha.raw)) fun B σ Hs H Q c w hm q => by
    cases hm
    exact ⟨B, Hs, o, w, rfl, fun v Hs' H' s r => by
      show Q (.bl (!decide (v = .non))) H'
      rw [opt_non r]
      exact q _ Hs' H' s rfl⟩
theorem xt_isN {T : Ty α} {o : Option α} {j pos'} (ha : XE X a Γ (tOpt T) (some o)) : XT X (.Compare a [.Is] [.Constant .none j pos'] pos) Γ (some o.isNone) :=
  xt_mk (pt_cmp (pc_isN ha.raw)) fun B σ Hs H Q c w hm q => by
    cases hm
    exact ⟨B, Hs, o, w, rfl, fun v Hs' H' s r => by
      exact ⟨_, rfl, by
        rw [opt_non r]
        exact q Hs' H' s⟩⟩
theorem xt_notN {T : Ty α} {o : Option α} {j pos'} (ha : XE X a Γ (tOpt T) (some o)) : XT X (.Compare a [.IsNot] [.Constant .none j pos'] pos) Γ (some (!o.isNone)) :=
  xt_mk (pt_cmp (pc_notN ha.raw)) fun B σ Hs H Q c w hm q => by
    cases hm
    exact ⟨B, Hs, o, w, rfl, fun v Hs' H' s r => by
      exact ⟨_, rfl, by
        rw [opt_non r]
        exact q Hs' H' s⟩⟩
/-- x is True, x is not True -/
theorem x_isB {x y : Bool} (ha : XE X a Γ tBool (some x)) (hb : XE X b Γ tBool (some y)) : XE X (.Compare a [.Is] [b] pos) Γ tBool (some (decide (x = y))) :=
  xe_cmp op_is_bl (nomark _) ha hb fun u v Hs H Q c hm e r1 r2 q => ⟨x, y, r1, r2, by
    cases hm
    exact q Hs H (Step.refl e)⟩
theorem xt_isB {x y : Bool} (ha : XE X a Γ tBool (some x)) (hb : XE X b Γ tBool (some y)) : XT X (.Compare a [.Is] [b] pos) Γ (some (decide (x = y))) :=
  xt_cmp op_is_bl (nomark _) ha hb fun u v Hs H Q c hm e r1 r2 q => ⟨x, y, r1, r2, by
    cases hm
    exact q Hs H (Step.refl e)⟩
theorem xt_isnotB {x y : Bool} (ha : XE X a Γ tBool (some x)) (hb : XE X b Γ tBool (some y)) : XT X (.Compare a [.IsNot] [b] pos) Γ (some (!decide (x = y))) :=
  xt_cmp op_isnot_bl (nomark _) ha hb fun u v Hs H Q c hm e r1 r2 q => ⟨x, y, r1, r2, by
    cases hm
    exact q Hs H (Step.refl e)⟩
end

/-! ### and, or, not, if else -/
structure XW (X : Cx) (e : Expr) (Γ : Cn) (m : Option Bool) : Prop where
  pw : PW X e (tMT Γ m)
section
variable {X : Cx} {Γ : Cn} {a b c e : Expr} {rest : List Expr} {pos : Pos} {α : Type} {T : Ty α} {x : Bool} {m m1 m2 : Option Bool}
theorem XW.t (h : XW X e Γ m) : XT X e Γ m := ⟨h.pw.pt⟩
theorem pw_imp {t t' : TT} (h : PW X e t) (hi : ∀ σ H Q, t' σ H Q → t σ H Q) : PW X e t' := ⟨fun wh pins s σ H Q I hw => h.run wh pins s σ H Q I (hi _ _ _ hw)⟩
theorem xw_let {β : Type} {m : Option β} {F : β → Option Bool} (h : ∀ d, m = some d → XW X e Γ (F d)) : XW X e Γ (m.bind F) := by
  cases m with
  | none => exact ⟨⟨fun _ _ _ _ _ _ _ ⟨_, _, _, _, hm, _⟩ => nomatch hm⟩⟩
  | some d => exact h d rfl
theorem xw_and1 (h : XT X a Γ m) : XW X (.BoolOp .And [a] pos) Γ m := ⟨pw_and1 h.pt⟩
theorem xw_or1 (h : XT X a Γ m) : XW X (.BoolOp .Or [a] pos) Γ m := ⟨pw_or1 h.pt⟩
theorem xw_and (ha : XT X a Γ (some x)) (hb : x = true → XW X (.BoolOp .And (b :: rest) pos) Γ m) : XW X (.BoolOp .And (a :: b :: rest) pos) Γ (if x = true then m else some false) := by
  have h2 : PW X (.BoolOp .And (b :: rest) pos) (fun σ H Q => x = true ∧ tMT Γ m σ H Q) := ⟨fun wh pins s σ H Q I ⟨hx, h⟩ => (hb hx).pw.run wh pins s σ H Q I h⟩
  refine ⟨pw_imp (pw_and ha.pt h2) fun σ H Q ⟨B, Hs, d, w, hm, q⟩ => ⟨B, Hs, x, w, rfl, fun Hs' H' s => ?_⟩⟩
  cases x with
  | true => exact ⟨rfl, B, Hs', d, w.step s, hm, fun Hs2 H2 s2 => q Hs2 H2 (s.trans s2)⟩
  | false =>
    cases hm
    exact q Hs' H' s
theorem xw_or (ha : XT X a Γ (some x)) (hb : x = false → XW X (.BoolOp .Or (b :: rest) pos) Γ m) : XW X (.BoolOp .Or (a :: b :: rest) pos) Γ (if x = true then some true else m) := by
  have h2 : PW X (.BoolOp .Or (b :: rest) pos) (fun σ H Q => x = false ∧ tMT Γ m σ H Q) := ⟨fun wh pins s σ H Q I ⟨hx, h⟩ => (hb hx).pw.run wh pins s σ H Q I h⟩
  refine ⟨pw_imp (pw_or ha.pt h2) fun σ H Q ⟨B, Hs, d, w, hm, q⟩ => ⟨B, Hs, x, w, rfl, fun Hs' H' s => ?_⟩⟩
  cases x with
  | false => exact ⟨rfl, B, Hs', d, w.step s, hm, fun Hs2 H2 s2 => q Hs2 H2 (s.trans s2)⟩
  | true =>
    cases hm
    exact q Hs' H' s
theorem xt_not (ha : XT X a Γ (some x)) : XT X (.UnaryOp .Not a pos) Γ (some (!x)) := xt_mk (pt_not ha.pt) fun B σ Hs H Q c w hm q => by
  cases hm
  exact ⟨B, Hs, x, w, rfl, fun Hs' H' s => q Hs' H' s⟩
/-- a bool's value as a test -/
theorem xt_val (ha : XE X a Γ tBool m) (he : ∀ whole, isTrue a X.env whole = (do let v ← whole; standAt a.pos; holding [v] (truthy v)) := by intro _; rfl) : XT X a Γ m := xt_mk (pt_val ha.raw he) fun B σ Hs H Q c w hm q =>
  ⟨B, Hs, c, w, hm, fun v Hs' H' s r => ⟨c, r, q Hs' H' s⟩⟩
theorem x_one (h : XE X a Γ tBool m) : XE X (.BoolOp .And [a] pos) Γ tBool m := xe_mk (pe_one h.raw) fun B σ Hs H Q c w hm q => ⟨B, Hs, c, w, hm, q⟩
theorem x_oneO (h : XE X a Γ tBool m) : XE X (.BoolOp .Or [a] pos) Γ tBool m := xe_mk (pe_one h.raw) fun B σ Hs H Q c w hm q => ⟨B, Hs, c, w, hm, q⟩
theorem x_and (ha : XE X a Γ tBool (some x)) (hb : x = true → XE X (.BoolOp .And (b :: rest) pos) Γ tBool m) : XE X (.BoolOp .And (a :: b :: rest) pos) Γ tBool (if x = true then m else some false) := by
  have h2 : PE X (.BoolOp .And (b :: rest) pos) (fun σ H Q => x = true ∧ tM Γ tBool m σ H Q) := ⟨fun pins s σ H Q I ⟨hx, h⟩ => (hb hx).raw.run pins s σ H Q I h⟩
  refine xe_mk (pe_and ha.raw h2) fun B σ Hs H Q d w hm q => ⟨B, Hs, x, w, rfl, fun v Hs' H' s r => ⟨x, r, ?_⟩⟩
  cases x with
  | true => exact ⟨rfl, B, Hs', d, w.step s, hm, fun z Hs2 H2 s2 r2 => q z Hs2 H2 (s.trans s2) r2⟩
  | false =>
    cases hm
    exact q _ Hs' H' s rfl
theorem x_or (ha : XE X a Γ tBool (some x)) (hb : x = false → XE X (.BoolOp .Or (b :: rest) pos) Γ tBool m) : XE X (.BoolOp .Or (a :: b :: rest) pos) Γ tBool (if x = true then some true else m) := by
  have h2 : PE X (.BoolOp .Or (b :: rest) pos) (fun σ H Q => x = false ∧ tM Γ tBool m σ H Q) := ⟨fun pins s σ H Q I ⟨hx, h⟩ => (hb hx).raw.run pins s σ H Q I h⟩
  refine xe_mk (pe_or ha.raw h2) fun B σ Hs H Q d w hm q => ⟨B, Hs, x, w, rfl, fun v Hs' H' s r => ⟨x, r, ?_⟩⟩
  cases x with
  | false => exact ⟨rfl, B, Hs', d, w.step s, hm, fun z Hs2 H2 s2 r2 => q z Hs2 H2 (s.trans s2) r2⟩
  | true =>
    cases hm
    exact q _ Hs' H' s rfl
theorem x_not (ha : XE X a Γ tBool (some x)) : XE X (.UnaryOp .Not a pos) Γ tBool (some (!x)) := xe_mk (pe_not ha.raw) fun B σ Hs H Q c w hm q => by
  cases hm
  exact ⟨B, Hs, x, w, rfl, fun v Hs' H' s r => ⟨x, r, q _ Hs' H' s rfl⟩⟩
theorem x_if {m1 m2 : Option α} (hc : XT X c Γ (some x)) (ha : x = true → XE X a Γ T m1) (hb : x = false → XE X b Γ T m2) : XE X (.IfExp c a b pos) Γ T (if x = true then m1 else m2) := by
  have h1 : PE X a (fun σ H Q => x = true ∧ tM Γ T m1 σ H Q) := ⟨fun pins s σ H Q I ⟨hx, h⟩ => (ha hx).raw.run pins s σ H Q I h⟩
  have h2 : PE X b (fun σ H Q => x = false ∧ tM Γ T m2 σ H Q) := ⟨fun pins s σ H Q I ⟨hx, h⟩ => (hb hx).raw.run pins s σ H Q I h⟩
  refine xe_mk (pe_ifExp hc.pt h1 h2) fun B σ Hs H Q d w hm q => ⟨B, Hs, x, w, rfl, fun Hs' H' s => ?_⟩
  cases x with
  | true => exact ⟨rfl, B, Hs', d, w.step s, hm, fun z Hs2 H2 s2 r2 => q z Hs2 H2 (s.trans s2) r2⟩
  | false => exact ⟨rfl, B, Hs', d, w.step s, hm, fun z Hs2 H2 s2 r2 => q z Hs2 H2 (s.trans s2) r2⟩
end

/-! ### subscripts -/
section
variable {X : Cx} {Γ : Cn} {a b : Expr} {pos : Pos} {α β γ : Type} {T : Ty α} {xs : List α} {i : Int}
theorem pr_at {F : V → α → Prop} {vs : List V} {xs : List α} {i : Int} {x : α} (p : Paired F vs xs) (h : atI xs i = some x) : ∃ v, atI vs i = some v ∧ F v x := by
  unfold atI at h ⊢
  rw [Paired.length p]
  cases e : ixN xs.length i with
  | none =>
    rw [e] at h
    cases h
  | some j =>
    rw [e] at h
    exact pr_getR p h
theorem x_ixL (ha : XE X a Γ (tLst T) (some xs)) (hb : XE X b Γ tInt (some i)) (hs : PlainIx b := by exact fun _ _ => rfl) : XE X (.Subscript a b pos) Γ T (atI xs i) :=
  xe_ix0 ix_list ha hb hs fun u v Hs H Q c hm e ⟨p, vs, r1, r2, r3⟩ r4 q => by
    obtain ⟨z, h1, h2⟩ := pr_at r3 hm
    exact ⟨p, vs, i, z, r1, r4, SqL.of (e _ _ r2), h1, q z Hs H (Step.refl e) h2⟩
theorem x_ixT (ha : XE X a Γ (tTup T) (some xs)) (hb : XE X b Γ tInt (some i)) (hs : PlainIx b := by exact fun _ _ => rfl) : XE X (.Subscript a b pos) Γ T (atI xs i) :=
  xe_ix0 ix_tup ha hb hs fun u v Hs H Q c hm e ⟨p, vs, r1, r2, r3⟩ r4 q => by
    obtain ⟨z, h1, h2⟩ := pr_at r3 hm
    exact ⟨p, vs, i, z, r1, r4, SqT.of (e _ _ r2), h1, q z Hs H (Step.refl e) h2⟩
theorem map_at {xs : List Int} {i : Int} {x : Int} (h : atI xs i = some x) : atI (xs.map V.int) i = some (.int x) := by
  unfold atI at h ⊢
  rw [List.length_map]
  cases e : ixN xs.length i with
  | none =>
    rw [e] at h
    cases h
  | some j =>
    rw [e] at h
    have h' : xs[j]? = some x := h
    show (xs.map V.int)[j]? = _
    rw [List.getElem?_map, h'] <;> rfl
theorem x_ixS {xs : List Int} (ha : XE X a Γ (tScr X.K) (some xs)) (hb : XE X b Γ tInt (some i)) (hs : PlainIx b := by exact fun _ _ => rfl) : XE X (.Subscript a b pos) Γ tInt (atI xs i) :=
  xe_ix0 ix_list ha hb hs fun u v Hs H Q c hm e ⟨p, r1, r2⟩ r4 q => ⟨p, _, i, .int c, r1, r4, ex_l e r2, map_at hm, q _ Hs H (Step.refl e) rfl⟩
/-- the n-th of a row of written items -/
structure Nth {α γ : Type} (S : Tys α) (n : Nat) (C : Ty γ) (f : α → γ) : Prop where
  nth : ∀ vs H d, S.R vs H d → ∃ v, vs[n]? = some v ∧ C.R v H (f d)
theorem nth0 {A : Ty α} {S : Tys β} : Nth (ysC A S) 0 A fun d => d.1 := ⟨fun vs H d ⟨v, r, h1, h2, h3⟩ => ⟨v, by rw [h1] <;> rfl, h2⟩⟩
theorem nthS {A : Ty α} {S : Tys β} {C : Ty γ} {f : β → γ} {n : Nat} (k : Nth S n C f) : Nth (ysC A S) (n + 1) C fun d => f d.2 := ⟨fun vs H d ⟨v, r, h1, h2, h3⟩ => by
  obtain ⟨z, e1, e2⟩ := k.nth r H d.2 h3
  exact ⟨z, by rw [h1, List.getElem?_cons_succ]; exact e1, e2⟩⟩
theorem x_nthT {S : Tys α} {C : Ty γ} {f : α → γ} {n : Nat} {d : α} (k : Nth S n C f) (ha : XE X a Γ (tTupN S) (some d)) (hb : XE X b Γ tInt (some (n : Int))) (hs : PlainIx b := by exact fun _ _ => rfl) : XE X (.Subscript a b pos) Γ C (some (f d)) :=
  xe_ix0 ix_tup ha hb hs fun u v Hs H Q c hm e ⟨p, vs, r1, r2, r3⟩ r4 q => by
    cases hm
    obtain ⟨z, h1, h2⟩ := k.nth vs Hs d r3
    exact ⟨p, vs, n, z, r1, r4, SqT.of (e _ _ r2), atI_nat h1, q z Hs H (Step.refl e) h2⟩
theorem x_nthL {S : Tys α} {C : Ty γ} {f : α → γ} {n : Nat} {d : α} (k : Nth S n C f) (ha : XE X a Γ (tLstN S) (some d)) (hb : XE X b Γ tInt (some (n : Int))) (hs : PlainIx b := by exact fun _ _ => rfl) : XE X (.Subscript a b pos) Γ C (some (f d)) :=
  xe_ix0 ix_list ha hb hs fun u v Hs H Q c hm e ⟨p, vs, r1, r2, r3⟩ r4 q => by
    cases hm
    obtain ⟨z, h1, h2⟩ := k.nth vs Hs d r3
    exact ⟨p, vs, n, z, r1, r4, SqL.of (e _ _ r2), atI_nat h1, q z Hs H (Step.refl e) h2⟩

/-! ### slices -/
def cutD {α : Type} (xs : List α) (lo hi : Option Int) : List α := (xs.drop (HT.sIx xs.length 0 lo)).take (HT.sIx xs.length xs.length hi - HT.sIx xs.length 0 lo)
theorem pr_drop {F : V → α → Prop} : ∀ {vs : List V} {xs : List α} (n : Nat), Paired F vs xs → Paired F (vs.drop n) (xs.drop n)
  | _, _, 0, r => r
  | _, _, _ + 1, .nil => .nil
  | _, _, n + 1, .cons r t => pr_drop n t
theorem pr_take {F : V → α → Prop} : ∀ {vs : List V} {xs : List α} (n : Nat), Paired F vs xs → Paired F (vs.take n) (xs.take n)
  | _, _, 0, _ => .nil
  | _, _, _ + 1, .nil => .nil
  | _, _, n + 1, .cons r t => .cons r (pr_take n t)
theorem pr_cut {F : V → α → Prop} {vs : List V} {xs : List α} (p : Paired F vs xs) (lo hi : Option Int) : Paired F (cutV vs lo hi) (cutD xs lo hi) := by
  unfold cutV cutD
  rw [Paired.length p]
  exact pr_take _ (pr_drop _ p)
theorem cutD_all (xs : List α) {lo hi : Option Int} (h : HT.sIx xs.length 0 lo = 0 ∧ HT.sIx xs.length xs.length hi = xs.length) : cutD xs lo hi = xs := by
  unfold cutD
  rw [h.1, h.2, List.drop_zero, Nat.sub_zero, List.take_length]
/-- an optional bound -/
structure XO (X : Cx) (o : Option Expr) (Γ : Cn) (k : Option Int) : Prop where
  po : ∃ t, PO X o t ∧ ∀ B σ Hs H (Q : Option Int → Hp → Prop), W B Γ σ Hs H → (∀ Hs' H', Step Hs H Hs' H' → Q k H') → t σ H Q
theorem xo_none : XO X none Γ none := ⟨_, po_none, fun B σ Hs H Q w q => q Hs H (Step.refl w.ex)⟩
theorem xo_some {e : Expr} (h : XE X e Γ tInt (some i)) : XO X (some e) Γ (some i) := ⟨_, po_some h.raw, fun B σ Hs H Q w q => ⟨B, Hs, i, w, rfl, fun v Hs' H' s r => ⟨i, r, q Hs' H' s⟩⟩⟩
theorem x_slL {lo hi : Option Expr} {k l : Option Int} {p2 : Pos} (ha : XE X a Γ (tLst T) (some xs)) (hl : XO X lo Γ k) (hh : XO X hi Γ l) : XE X (.Subscript a (.Slice lo hi none p2) pos) Γ (tLst T) (some (cutD xs k l)) := by
  obtain ⟨t1, p1, q1⟩ := hl.po
  obtain ⟨t2, p2, q2⟩ := hh.po
  refine xe_mk (pe_slice sl_list ha.raw p1 p2) fun B σ Hs H Q c w hm q => ?_
  cases hm
  refine ⟨B, Hs, xs, w, rfl, fun v Hs1 H1 s1 ⟨p, vs, r1, r2, r3⟩ => q1 B σ Hs1 H1 _ (w.step s1) fun Hs2 H2 s2 => q2 B σ Hs2 H2 _ ((w.step s1).step s2) fun Hs3 H3 s3 => ?_⟩
  refine ⟨p, vs, r1, SqL.of (s3.ss _ _ (s3.es _ _ (s2.es _ _ r2))), fun z hz => ?_⟩
  exact q _ _ _ (((s1.trans s2).trans s3).trans (Step.new s3.ss hz)) ⟨z, _, rfl, upd_same, pr_mono (Ex.new (s3.ss.none hz)) (pr_mono (s2.es.trans s3.es) (pr_cut r3 k l))⟩
theorem x_slT {lo hi : Option Expr} {k l : Option Int} {p2 : Pos} (ha : XE X a Γ (tTup T) (some xs)) (hl : XO X lo Γ k) (hh : XO X hi Γ l) : XE X (.Subscript a (.Slice lo hi none p2) pos) Γ (tTup T) (some (cutD xs k l)) := by
  obtain ⟨t1, p1, q1⟩ := hl.po
  obtain ⟨t2, p2, q2⟩ := hh.po
  refine xe_mk (pe_slice sl_tupA ha.raw p1 p2) fun B σ Hs H Q c w hm q => ?_
  cases hm
  refine ⟨B, Hs, xs, w, rfl, fun v Hs1 H1 s1 ⟨p, vs, r1, r2, r3⟩ => q1 B σ Hs1 H1 _ (w.step s1) fun Hs2 H2 s2 => q2 B σ Hs2 H2 _ ((w.step s1).step s2) fun Hs3 H3 s3 => ?_⟩
  refine ⟨p, vs, r1, SqT.of (s3.ss _ _ (s3.es _ _ (s2.es _ _ r2))), fun hw => ?_, fun hw z hz => ?_⟩
  · rw [Paired.length r3] at hw
    rw [cutD_all xs hw] at q
    exact q _ _ _ ((s1.trans s2).trans s3) ⟨p, vs, rfl, s3.es _ _ (s2.es _ _ r2), pr_mono (s2.es.trans s3.es) r3⟩
  · exact q _ _ _ (((s1.trans s2).trans s3).trans (Step.new s3.ss hz)) ⟨z, _, rfl, upd_same, pr_mono (Ex.new (s3.ss.none hz)) (pr_mono (s2.es.trans s3.es) (pr_cut r3 k l))⟩
theorem pr_app {F : V → α → Prop} : ∀ {us vs : List V} {xs ys : List α}, Paired F us xs → Paired F vs ys → Paired F (us ++ vs) (xs ++ ys)
  | _, _, _, _, .nil, s => s
  | _, _, _, _, .cons r t, s => .cons r (pr_app t s)
theorem pr_rev {F : V → α → Prop} : ∀ {us : List V} {xs : List α}, Paired F us xs → Paired F us.reverse xs.reverse
  | _, _, .nil => .nil
  | _, _, .cons r t => by
    rw [List.reverse_cons, List.reverse_cons]
    exact pr_app (pr_rev t) (.cons r .nil)
theorem x_rev {k : Nat} {p1 p2 p3 : Pos} (ha : XE X a Γ (tLst T) (some xs)) : XE X (.Subscript a (.Slice none none (some (.UnaryOp .USub (.Constant (.int 1) k p1) p2)) p3) pos) Γ (tLst T) (some xs.reverse) :=
  xe_mk (pe_revL ha.raw) fun B σ Hs H Q c w hm q => by
    cases hm
    refine ⟨B, Hs, xs, w, rfl, fun v Hs1 H1 s1 ⟨p, vs, r1, r2, r3⟩ => ⟨p, vs, r1, SqL.of (s1.ss _ _ r2), fun z hz => ?_⟩⟩
    exact q _ _ _ (s1.trans (Step.new s1.ss hz)) ⟨z, _, rfl, upd_same, pr_mono (Ex.new (s1.ss.none hz)) (pr_rev r3)⟩
end

/-! ### rows of written items, displays -/
theorem xa_nil {X : Cx} {Γ : Cn} : XA X [] Γ ysN (some ()) := xa_mk pa_nil fun B σ Hs H Q c w hm q => q [] Hs H (Step.refl w.ex) rfl
section
variable {X : Cx} {Γ : Cn} {e : Expr} {es : List Expr} {pos : Pos} {α β : Type} {T : Ty α} {S : Tys β} {d : α} {ds : β}
theorem xa_cons (h : XE X e Γ T (some d)) (hr : XA X es Γ S (some ds)) (hs : starEach (e :: es) X.env = (false, eval e X.env) :: starEach es X.env := by rfl) : XA X (e :: es) Γ (ysC T S) (some (d, ds)) :=
  xa_mk (pa_cons h.raw hr.pa hs) fun B σ Hs H Q c w hm q => by
    cases hm
    exact ⟨B, Hs, d, w, rfl, fun v Hs1 H1 s1 r1 => ⟨B, Hs1, ds, w.step s1, rfl, fun vs Hs2 H2 s2 r2 => q _ Hs2 H2 (s1.trans s2) ⟨v, vs, rfl, T.mono s2.es r1, r2⟩⟩⟩
theorem xa_hn : XA X [] Γ (ysH T 0) (some []) := xa_mk pa_nil fun B σ Hs H Q c w hm q => by
  cases hm
  exact q [] Hs H (Step.refl w.ex) ⟨rfl, .nil⟩
theorem xa_hc {n : Nat} {xs : List α} (h : XE X e Γ T (some d)) (hr : XA X es Γ (ysH T n) (some xs)) (hs : starEach (e :: es) X.env = (false, eval e X.env) :: starEach es X.env := by rfl) : XA X (e :: es) Γ (ysH T (n + 1)) (some (d :: xs)) :=
  xa_mk (pa_cons h.raw hr.pa hs) fun B σ Hs H Q c w hm q => by
    cases hm
    exact ⟨B, Hs, d, w, rfl, fun v Hs1 H1 s1 r1 => ⟨B, Hs1, xs, w.step s1, rfl, fun vs Hs2 H2 s2 ⟨r2, r3⟩ => q _ Hs2 H2 (s1.trans s2) ⟨by rw [List.length_cons, r2], .cons (T.mono s2.es r1) r3⟩⟩⟩
theorem x_tupN {x1} (h : XA X es Γ S (some ds)) (hl : Nat.ble S.ar 100 = true := by rfl) : XE X (.Tuple es x1 pos) Γ (tTupN S) (some ds) :=
  xe_mk (pe_tup h.pa) fun B σ Hs H Q c w hm q => by
    cases hm
    refine ⟨B, Hs, ds, w, rfl, fun vs Hs1 H1 s1 r1 => ⟨?_, fun p hp => q _ _ _ (s1.trans (Step.new s1.ss hp)) ⟨p, vs, rfl, upd_same, S.mono (Ex.new (s1.ss.none hp)) r1⟩⟩⟩
    rw [S.len r1]
    exact Nat.le_trans (Nat.le_of_ble_eq_true hl) (by decide)
theorem x_lstN (h : XA X es Γ S (some ds)) (hl : Nat.ble S.ar 100 = true := by rfl) : XE X (.List es pos) Γ (tLstN S) (some ds) :=
  xe_mk (pe_lst h.pa) fun B σ Hs H Q c w hm q => by
    cases hm
    refine ⟨B, Hs, ds, w, rfl, fun vs Hs1 H1 s1 r1 => ⟨?_, fun p hp => q _ _ _ (s1.trans (Step.new s1.ss hp)) ⟨p, vs, rfl, upd_same, S.mono (Ex.new (s1.ss.none hp)) r1⟩⟩⟩
    rw [S.len r1]
    exact Nat.le_trans (Nat.le_of_ble_eq_true hl) (by decide)
theorem x_tup {n : Nat} {xs : List α} {x1} (h : XA X es Γ (ysH T n) (some xs)) (hl : Nat.ble n 100 = true := by rfl) : XE X (.Tuple es x1 pos) Γ (tTup T) (some xs) :=
  x_as (x_tupN h hl) fun v Hs ⟨a, vs, h1, h2, h3⟩ => ⟨a, vs, h1, h2, h3.2⟩
theorem x_lst {n : Nat} {xs : List α} (h : XA X es Γ (ysH T n) (some xs)) (hl : Nat.ble n 100 = true := by rfl) : XE X (.List es pos) Γ (tLst T) (some xs) :=
  x_as (x_lstN h hl) fun v Hs ⟨a, vs, h1, h2, h3⟩ => ⟨a, vs, h1, h2, h3.2⟩
end

/-! ### + and * of lists, tuples -/
def catO {α : Type} (xs ys : List α) : Option (List α) := if xs.length + ys.length ≤ 100000 then some (xs ++ ys) else none
def repO {α : Type} (xs : List α) (k : Int) : Option (List α) := if 0 ≤ k ∧ k ≤ 100000 ∧ xs.length ≤ 10 then some (List.replicate k.toNat xs).flatten else none
section
variable {X : Cx} {Γ : Cn} {a b : Expr} {pos : Pos} {α : Type} {T : Ty α} {xs ys : List α} {i : Int}
theorem x_catL (ha : XE X a Γ (tLst T) (some xs)) (hb : XE X b Γ (tLst T) (some ys)) : XE X (.BinOp a .Add b pos) Γ (tLst T) (catO xs ys) :=
  xe_bin op_cat ha hb fun u v Hs H Q c hm e ⟨p, us, r1, r2, r3⟩ ⟨q, vs, t1, t2, t3⟩ k => by
    obtain ⟨hz, rfl⟩ := if_some hm
    refine ⟨p, q, us, vs, r1, t1, e _ _ r2, e _ _ t2, by rw [Paired.length r3, Paired.length t3]; exact Nat.le_trans hz (by decide), fun z hz => ?_⟩
    exact k _ _ _ (Step.new e hz) ⟨z, _, rfl, upd_same, pr_mono (Ex.new (e.none hz)) (pr_app r3 t3)⟩
theorem x_catT (ha : XE X a Γ (tTup T) (some xs)) (hb : XE X b Γ (tTup T) (some ys)) : XE X (.BinOp a .Add b pos) Γ (tTup T) (catO xs ys) :=
  xe_bin op_catA ha hb fun u v Hs H Q c hm e ⟨p, us, r1, r2, r3⟩ ⟨q, vs, t1, t2, t3⟩ k => by
    obtain ⟨hz, rfl⟩ := if_some hm
    refine ⟨p, q, us, vs, r1, t1, SqT.of (e _ _ r2), SqT.of (e _ _ t2), by rw [Paired.length r3, Paired.length t3]; exact Nat.le_trans hz (by decide), fun h0 => ?_, fun h0 h1 => ?_, fun h0 h1 z hz => ?_⟩
    · subst h0
      cases r3
      exact k _ _ _ (Step.refl e) ⟨q, vs, rfl, t2, t3⟩
    · subst h1
      cases t3
      rw [List.append_nil] at k
      exact k _ _ _ (Step.refl e) ⟨p, us, rfl, r2, r3⟩
    · exact k _ _ _ (Step.new e hz) ⟨z, _, rfl, upd_same, pr_mono (Ex.new (e.none hz)) (pr_app r3 t3)⟩
theorem pr_flat {F : V → α → Prop} {us : List V} {xs : List α} (p : Paired F us xs) : ∀ n : Nat, Paired F (List.replicate n us).flatten (List.replicate n xs).flatten
  | 0 => .nil
  | n + 1 => by
    rw [List.replicate_succ, List.replicate_succ, List.flatten_cons, List.flatten_cons]
    exact pr_app p (pr_flat p n)
theorem x_rep (ha : XE X a Γ (tLst T) (some xs)) (hb : XE X b Γ tInt (some i)) : XE X (.BinOp a .Mult b pos) Γ (tLst T) (repO xs i) :=
  xe_bin op_rep ha hb fun u v Hs H Q c hm e ⟨p, us, r1, r2, r3⟩ t1 k => by
    obtain ⟨⟨h0, h1, h2⟩, rfl⟩ := if_some hm
    refine ⟨p, i, us, r1, t1, e _ _ r2, by omega, by omega, ?_, fun z hz => ?_⟩
    · rw [Paired.length r3]
      have h3 : i.toNat ≤ 100000 := by omega
      exact Nat.le_trans (Nat.mul_le_mul h2 h3) (by decide)
    · exact k _ _ _ (Step.new e hz) ⟨z, _, rfl, upd_same, pr_mono (Ex.new (e.none hz)) (pr_flat r3 _)⟩
end
end Pg
set_option Elab.async false
set_option linter.all false
set_option maxRecDepth 100000
set_option maxHeartbeats 4000000
namespace Pg
open PySem PySem.Spec PyProof.Rows L2

/-! ### what a statement comes to -/
inductive Out (S B R : Type) where
  | nx (s : S)
  | ret (r : R)
  | brk (b : B)
def OutOk {S B R : Type} (Bs0 : Bs) (Hs : Hp) (Gn : S → Cn) (Gb : B → Cn) (T : Ty R) (D : Ends) : Out S B R → Prop
  | .nx s => ∀ σ' Hs' H', Ex Hs Hs' → W Bs0 (Gn s) σ' Hs' H' → D.nx σ' H'
  | .ret r => ∀ v Hs' H', Ex Hs Hs' → Step Bs0.Hs Bs0.H Hs' H' → T.R v Hs' r → D.rt v H'
  | .brk b => ∀ σ' Hs' H', Ex Hs Hs' → W Bs0 (Gb b) σ' Hs' H' → D.bk σ' H'
theorem OutOk.ex {S B R : Type} {Bs0 : Bs} {Hs Hs1 : Hp} {Gn : S → Cn} {Gb : B → Cn} {T : Ty R} {D : Ends} {o : Out S B R} (h : OutOk Bs0 Hs Gn Gb T D o) (e : Ex Hs Hs1) : OutOk Bs0 Hs1 Gn Gb T D o := by
  cases o with
  | nx s => exact fun σ' Hs' H' e' => h σ' Hs' H' (e.trans e')
  | ret r => exact fun v Hs' H' e' => h v Hs' H' (e.trans e')
  | brk b => exact fun σ' Hs' H' e' => h σ' Hs' H' (e.trans e')
def tMS {S B R : Type} (Γ : Cn) (Gn : S → Cn) (Gb : B → Cn) (T : Ty R) (m : Option (Out S B R)) : TS := fun D σ H => ∃ Bs0 Hs o, W Bs0 Γ σ Hs H ∧ m = some o ∧ OutOk Bs0 Hs Gn Gb T D o
structure XS (X : Cx) (st : Stmt) (Γ : Cn) {S B R : Type} (Gn : S → Cn) (Gb : B → Cn) (T : Ty R) (m : Option (Out S B R)) : Prop where
  ps : PS X st (tMS Γ Gn Gb T m)
structure XSs (X : Cx) (sts : List Stmt) (Γ : Cn) {S B R : Type} (Gn : S → Cn) (Gb : B → Cn) (T : Ty R) (m : Option (Out S B R)) : Prop where
  pss : PSs X sts (tMS Γ Gn Gb T m)
def thenO {S S1 B R : Type} (m : Option (Out S1 B R)) (f : S1 → Option (Out S B R)) : Option (Out S B R) := m.bind fun o => match o with
  | .nx s => f s
  | .ret r => some (.ret r)
  | .brk b => some (.brk b)
/-- weaker -/
def Wk (Γ Γ' : Cn) : Prop := ∀ B σ Hs H, W B Γ σ Hs H → W B Γ' σ Hs H
inductive SubL : List Slot → List Slot → Prop where
  | nil : SubL [] []
  | non {a as bs} : SubL as bs → SubL (a :: as) (.non :: bs)
  | same {a as bs} : SubL as bs → SubL (a :: as) (a :: bs)
theorem SubL.len {as bs : List Slot} (h : SubL as bs) : as.length = bs.length := by
  induction h with
  | nil => rfl
  | non _ ih => rw [List.length_cons, List.length_cons, ih]
  | same _ ih => rw [List.length_cons, List.length_cons, ih]
theorem SubL.at {as bs : List Slot} (h : SubL as bs) : ∀ (i : Nat) (s : Slot), bs[i]? = some s → s = .non ∨ as[i]? = some s := by
  induction h with
  | nil => intro i s e; simp at e
  | non _ ih =>
    intro i s e
    cases i with
    | zero => exact .inl (by simpa using e.symm)
    | succ i => simpa using ih i s (by simpa using e)
  | same _ ih =>
    intro i s e
    cases i with
    | zero => exact .inr e
    | succ i => simpa using ih i s (by simpa using e)
theorem wk_of {ρ ρ' : List Slot} {μ : Mu} (h : SubL ρ ρ') : Wk ⟨ρ, μ⟩ ⟨ρ', μ⟩ := fun B σ Hs H w => by
  refine ⟨w.st, ⟨h.len.symm.trans w.sl.1, fun i s e => ?_⟩, w.mu⟩
  rcases h.at i s e with q | q
  · subst q
    have hi : i < ρ.length := by
      rw [h.len]
      exact (List.getElem?_eq_some_iff.mp e).1
    have q := w.sl.1
    have q2 : i < σ.length := by
      have q3 : ρ.length = σ.length := q
      omega
    exact ⟨σ[i], List.getElem?_eq_getElem q2, trivial⟩
  · exact w.sl.2 i s q
/-- the list that was made is no longer of interest -/
theorem wk_0 {ρ ρ' : List Slot} {μ : Mu} (h : SubL ρ ρ') : Wk ⟨ρ, μ⟩ ⟨ρ', mu0⟩ := fun B σ Hs H w => let w' := wk_of (μ := μ) h B σ Hs H w
  ⟨w'.st, w'.sl, trivial⟩

section
variable {X : Cx} {Γ : Cn} {S S1 B R : Type} {Gn : S → Cn} {Gb : B → Cn} {G1 : S1 → Cn} {T : Ty R} {m : Option (Out S B R)} {pos : Pos} {st : Stmt} {rest sts : List Stmt}
theorem ps_imp {t t' : TS} (h : PS X st t) (hi : ∀ D σ H, t' D σ H → t D σ H) : PS X st t' := ⟨fun pins s σ H D I hw => h.run pins s σ H D I (hi _ _ _ hw)⟩
theorem pss_imp {t t' : TS} (h : PSs X sts t) (hi : ∀ D σ H, t' D σ H → t D σ H) : PSs X sts t' := ⟨fun pins s σ H D I hw => h.run pins s σ H D I (hi _ _ _ hw)⟩
/-- what never comes to an end that is asked for -/
theorem xs_fail : XSs X sts Γ Gn Gb T (none : Option (Out S B R)) := ⟨⟨fun _ _ _ _ _ _ ⟨_, _, _, _, hm, _⟩ => nomatch hm⟩⟩
theorem xs_let {β : Type} {m : Option β} {F : β → Option (Out S B R)} (h : ∀ d, m = some d → XSs X sts Γ Gn Gb T (F d)) : XSs X sts Γ Gn Gb T (m.bind F) := by
  cases m with
  | none => exact xs_fail
  | some d => exact h d rfl
theorem xs_nil (s : S) (h : Wk Γ (Gn s)) : XSs X [] Γ Gn Gb T (some (.nx s)) := ⟨pss_imp pss_nil fun D σ H ⟨Bs0, Hs, o, w, hm, k⟩ => by
  cases hm
  exact k σ Hs H (Ex.refl _) (h _ _ _ _ w)⟩
theorem xs_seq {m1 : Option (Out S1 B R)} {m2 : S1 → Option (Out S B R)} (h1 : XS X st Γ G1 Gb T m1) (h2 : ∀ s, XSs X rest (G1 s) Gn Gb T (m2 s)) : XSs X (st :: rest) Γ Gn Gb T (thenO m1 m2) := by
  have h2' : PSs X rest (fun D σ H => ∃ s, tMS (G1 s) Gn Gb T (m2 s) D σ H) := ⟨fun pins s σ H D I ⟨z, hz⟩ => (h2 z).pss.run pins s σ H D I hz⟩
  refine ⟨pss_imp (pss_cons h1.ps h2') fun D σ H ⟨Bs0, Hs, o, w, hm, k⟩ => ?_⟩
  cases e : m1 with
  | none =>
    rw [e] at hm
    cases hm
  | some o1 =>
    rw [e] at hm
    refine ⟨Bs0, Hs, o1, w, rfl, ?_⟩
    cases o1 with
    | nx s => exact fun σ' Hs' H' ex w' => ⟨s, Bs0, Hs', o, w', hm, k.ex ex⟩
    | ret r =>
      cases hm
      exact k
    | brk b =>
      cases hm
      exact k
theorem xs_last (h1 : XS X st Γ Gn Gb T m) : XSs X [st] Γ Gn Gb T m := ⟨pss_one h1.ps⟩
theorem xs_ret {e : Expr} {d : R} (he : XE X e Γ T (some d)) : XSs X (.Return (some e) pos :: rest) Γ Gn Gb T (some (.ret d)) := by
  have h2 : PSs X rest (fun _ _ _ => False) := ⟨fun _ _ _ _ _ _ h => h.elim⟩
  refine ⟨pss_imp (pss_cons (ps_ret he.raw) h2) fun D σ H ⟨Bs0, Hs, o, w, hm, k⟩ => ⟨Bs0, Hs, d, w, rfl, fun v Hs' H' s r => ?_⟩⟩
  cases hm
  exact k v Hs' H' s.es (w.st.trans s) r
theorem xs_set (i : Nat) {α : Type} {A : Ty α} {d : α} {x : Str} {e : Expr} {p' : Pos} (hN : X.N.Nodup) (he : XE X e Γ A (some d)) (hr : XSs X rest (Γ.set i (.val A d)) Gn Gb T m) (hi : X.N[i]? = some x := by rfl)
    (hx : Loc X.env.scope x := by first | exact Or.inl rfl | exact Or.inr rfl) (hd : Γ.μ.dep.contains i = false := by rfl) (hs : swapsWith e (some (.Name x p')) pos.line X.env = pure false := by rfl)
    (hf : X.fn x = true ∨ X.env.scope.names.lookup x = some .local := by first | exact .inl rfl | exact .inr rfl) : XSs X (.Assign [.Name x p'] e pos :: rest) Γ Gn Gb T m :=
  ⟨pss_imp (pss_cons (ps_set hN hi hx he.raw hs hf) hr.pss) fun D σ H ⟨Bs0, Hs, o, w, hm, k⟩ => ⟨Bs0, Hs, d, w, rfl, fun v Hs' H' s r => ⟨Bs0, Hs', o, (w.step s).set hd ⟨v, rfl, r⟩, hm, k.ex s.es⟩⟩⟩
theorem xs_expr {α : Type} {A : Ty α} {d : α} {e : Expr} (he : XE X e Γ A (some d)) (hr : XSs X rest Γ Gn Gb T m) (hs : swapsWith e none pos.line X.env = pure false := by rfl) : XSs X (.Expr e pos :: rest) Γ Gn Gb T m :=
  ⟨pss_imp (pss_cons (ps_expr he.raw hs) hr.pss) fun D σ H ⟨Bs0, Hs, o, w, hm, k⟩ => ⟨Bs0, Hs, d, w, rfl, fun v Hs' H' s r => ⟨Bs0, Hs', o, w.step s, hm, k.ex s.es⟩⟩⟩
theorem xs_if {c : Expr} {a b : List Stmt} {x : Bool} {m1 m2 : Option (Out S B R)} (hc : XT X c Γ (some x)) (ha : x = true → XSs X a Γ Gn Gb T m1) (hb : x = false → XSs X b Γ Gn Gb T m2) : XS X (.If c a b pos) Γ Gn Gb T (if x = true then m1 else m2) := by
  have h1 : PSs X a (fun D σ H => x = true ∧ tMS Γ Gn Gb T m1 D σ H) := ⟨fun pins s σ H D I ⟨hx, h⟩ => (ha hx).pss.run pins s σ H D I h⟩
  have h2 : PSs X b (fun D σ H => x = false ∧ tMS Γ Gn Gb T m2 D σ H) := ⟨fun pins s σ H D I ⟨hx, h⟩ => (hb hx).pss.run pins s σ H D I h⟩
  refine ⟨ps_imp (ps_if hc.pt h1 h2) fun D σ H ⟨Bs0, Hs, o, w, hm, k⟩ => ⟨Bs0, Hs, x, w, rfl, fun Hs' H' s => ?_⟩⟩
  cases x with
  | true => exact ⟨rfl, Bs0, Hs', o, w.step s, hm, k.ex s.es⟩
  | false => exact ⟨rfl, Bs0, Hs', o, w.step s, hm, k.ex s.es⟩
/-- a branch that never goes on -/
def gF {S : Type} (ρ : List Slot) : S → Cn := fun _ => ⟨ρ, muF⟩
theorem xs_ifx {c : Expr} {a : List Stmt} {x : Bool} {m1 m2 : Option (Out S B R)} (hc : XT X c Γ (some x)) (ha : x = true → XSs X a Γ (gF (S := S) []) Gb T m1) (hb : x = false → XSs X rest Γ Gn Gb T m2) :
    XSs X (.If c a [] pos :: rest) Γ Gn Gb T (if x = true then m1 else m2) := by
  have h1 : PSs X a (fun D σ H => x = true ∧ tMS Γ (gF (S := S) []) Gb T m1 D σ H) := ⟨fun pins s σ H D I ⟨hx, h⟩ => (ha hx).pss.run pins s σ H D I h⟩
  have h3 : PSs X rest (fun D σ H => x = false ∧ tMS Γ Gn Gb T m2 D σ H) := ⟨fun pins s σ H D I ⟨hx, h⟩ => (hb hx).pss.run pins s σ H D I h⟩
  refine ⟨pss_imp (pss_cons (ps_if hc.pt h1 pss_nil) h3) fun D σ H ⟨Bs0, Hs, o, w, hm, k⟩ => ⟨Bs0, Hs, x, w, rfl, fun Hs' H' s => ?_⟩⟩
  cases x with
  | true =>
    refine ⟨rfl, Bs0, Hs', o, w.step s, hm, ?_⟩
    have k' := k.ex s.es
    cases o with
    | nx s => exact fun _ _ _ _ w' => False.elim w'.mu
    | ret r => exact k'
    | brk b => exact k'
  | false => exact ⟨rfl, Bs0, Hs', o, w.step s, hm, k.ex s.es⟩
theorem xs_brk {b : B} (h : Wk Γ (Gb b)) : XSs X (.Break pos :: rest) Γ Gn Gb T (some (.brk b)) := by
  have h2 : PSs X rest (fun _ _ _ => False) := ⟨fun _ _ _ _ _ _ h => h.elim⟩
  refine ⟨pss_imp (pss_cons ps_break h2) fun D σ H ⟨Bs0, Hs, o, w, hm, k⟩ => ?_⟩
  cases hm
  exact k σ Hs H (Ex.refl _) (h _ _ _ _ w)
end

/-! ### targets -/
def tG {α : Type} (T : Ty α) (G : α → Cn → Cn) (is : List Nat) : TG := fun v σ H Q => ∃ (x : α) (B : Bs) (Γ : Cn) (Hs : Hp), (∀ i ∈ is, Γ.μ.dep.contains i = false) ∧ W B Γ σ Hs H ∧ T.R v Hs x ∧ ∀ σ', (∀ j, j ∉ is → σ'[j]? = σ[j]?) → σ'.length = σ.length → W B (G x Γ) σ' Hs H → Q σ' H
def tGs {α : Type} (S : Tys α) (G : α → Cn → Cn) (is : List Nat) : TGs := fun vs σ H Q => ∃ (x : α) (B : Bs) (Γ : Cn) (Hs : Hp), (∀ i ∈ is, Γ.μ.dep.contains i = false) ∧ W B Γ σ Hs H ∧ S.R vs Hs x ∧ ∀ σ', (∀ j, j ∉ is → σ'[j]? = σ[j]?) → σ'.length = σ.length → W B (G x Γ) σ' Hs H → Q σ' H
structure XG (X : Cx) (tg : Expr) {α : Type} (T : Ty α) (G : α → Cn → Cn) (is : List Nat) : Prop where
  pg : PG X tg (tG T G is)
  mu : ∀ x Γ, (G x Γ).μ = Γ.μ
structure XGs (X : Cx) (tgs : List Expr) {α : Type} (S : Tys α) (G : α → Cn → Cn) (is : List Nat) : Prop where
  pg : PGs X tgs (tGs S G is)
  mu : ∀ x Γ, (G x Γ).μ = Γ.μ
theorem pg_imp {X : Cx} {tg : Expr} {t t' : TG} (h : PG X tg t) (hi : ∀ v σ H Q, t' v σ H Q → t v σ H Q) : PG X tg t' := ⟨fun pins s σ H v u Q I r hw => h.run pins s σ H v u Q I r (hi _ _ _ _ hw)⟩
theorem pgs_imp {X : Cx} {tg : List Expr} {t t' : TGs} (h : PGs X tg t) (hi : ∀ v σ H Q, t' v σ H Q → t v σ H Q) : PGs X tg t' := ⟨fun pins s σ H v u Q I r hw => h.run pins s σ H v u Q I r (hi _ _ _ _ hw)⟩
section
variable {X : Cx} {pos : Pos} {α β : Type} {T : Ty α}
theorem xg_name (i : Nat) {x : Str} (hN : X.N.Nodup) (hi : X.N[i]? = some x := by rfl) (hx : Loc X.env.scope x := by first | exact Or.inl rfl | exact Or.inr rfl)
    (hf : X.fn x = true ∨ X.env.scope.names.lookup x = some .local := by first | exact .inl rfl | exact .inr rfl) : XG X (.Name x pos) T (fun d Γ => Γ.set i (.val T d)) [i] := by
  refine ⟨pg_imp (pg_name hN hi hx hf) fun v σ H Q ⟨x, B, Γ, Hs, hd, w, r, q⟩ => ?_, fun _ _ => rfl⟩
  exact q _ (fun j hj => List.getElem?_set_ne (fun e => hj (by rw [e]; exact List.mem_cons_self))) (by simp) (w.set (hd i List.mem_cons_self) ⟨v, rfl, r⟩)
theorem xgs_nil : XGs X [] ysN (fun _ Γ => Γ) [] := ⟨pgs_imp pgs_nil fun vs σ H Q ⟨x, B, Γ, Hs, _, w, r, q⟩ => ⟨r, q σ (fun _ _ => rfl) rfl w⟩, fun _ _ => rfl⟩
theorem xgs_cons {e : Expr} {es : List Expr} {S : Tys β} {G1 : α → Cn → Cn} {G2 : β → Cn → Cn} {is js : List Nat} (h1 : XG X e T G1 is) (h2 : XGs X es S G2 js)
    (hs : (assignEach (e :: es) X.env).map (·.2) = assign e X.env :: (assignEach es X.env).map (·.2) := by rfl) : XGs X (e :: es) (ysC T S) (fun d Γ => G2 d.2 (G1 d.1 Γ)) (is ++ js) := by
  refine ⟨pgs_imp (pgs_cons h1.pg h2.pg hs) fun vs σ H Q ⟨x, B, Γ, Hs, hd, w, ⟨v, r, e1, r1, r2⟩, q⟩ => ⟨v, r, e1, ?_⟩, fun x Γ => (h2.mu _ _).trans (h1.mu _ _)⟩
  refine ⟨x.1, B, Γ, Hs, fun i hi => hd i (List.mem_append_left _ hi), w, r1, fun σ1 a1 l1 w1 => ?_⟩
  refine ⟨x.2, B, _, Hs, fun i hi => by rw [h1.mu]; exact hd i (List.mem_append_right _ hi), w1, r2, fun σ2 a2 l2 w2 => ?_⟩
  exact q σ2 (fun j hj => (a2 j fun z => hj (List.mem_append_right _ z)).trans (a1 j fun z => hj (List.mem_append_left _ z))) (l2.trans l1) w2
theorem xg_tup {es : List Expr} {k : Nat} {S : Tys α} {G : α → Cn → Cn} {is : List Nat} {n : Nat} (h : XGs X es S G is) (hc : X.calm = true := by rfl) (hn : (assignEach es X.env).length = n := by rfl) (ha : S.ar = n := by rfl) (hst : (assignEach es X.env).findIdx? (·.1) = none := by rfl) :
    XG X (.Tuple es k pos) (tTupN S) G is :=
  ⟨pg_imp (pg_tup hc h.pg hn hst) fun v σ H Q ⟨x, B, Γ, Hs, hd, w, ⟨a, vs, e1, r1, r2⟩, q⟩ => ⟨a, vs, e1, SqT.of (w.ex _ _ r1), (S.len r2).trans ha, x, B, Γ, Hs, hd, w, r2, q⟩, h.mu⟩
end

/-! ### what is walked -/
def Walks (J : It) {α : Type} (T : Ty α) (xs : List α) (Hs0 : Hp) : Prop := ∀ Hs H (i : Nat), Ex Hs0 Hs → Ex Hs H → (xs.length ≤ i → J.stop i H) ∧ ∀ x, xs[i]? = some x → J.go i H ∧ ∀ y H', J.yld i H y H' → ∃ Hs', Step Hs H Hs' H' ∧ T.R y Hs' x
def tI (Γ : Cn) {α : Type} (T : Ty α) (xs : List α) : TI := fun σ H R => ∃ B Hs, W B Γ σ Hs H ∧ ∀ J Hs' H', Step Hs H Hs' H' → xs.length ≤ sizeLine → Walks J T xs Hs' → R J H'
structure XI (X : Cx) (tg iter : Expr) (Γ : Cn) {α : Type} (T : Ty α) (xs : List α) : Prop where
  pi : PI X tg iter (tI Γ T xs)
theorem pi_imp {X : Cx} {tg iter : Expr} {t t' : TI} (h : PI X tg iter t) (hi : ∀ σ H R, t' σ H R → t σ H R) : PI X tg iter t' := ⟨fun pins s σ H R I hw => h.run pins s σ H R I (hi _ _ _ hw)⟩
theorem walk_l {K : PySem.W.Frag} {a : Addr} {vs : List V} {α : Type} {T : Ty α} {xs : List α} {Hs0 : Hp} (h : Hs0 a = some (.lst vs)) (p : Paired (fun v x => T.R v Hs0 x) vs xs) : Walks (Itl K a) T xs Hs0 := fun Hs H i e1 e2 => by
  have h2 : SqL K H a vs := SqL.of (e2 _ _ (e1 _ _ h))
  refine ⟨fun hi => ⟨vs, h2, by rw [Paired.length p]; exact hi⟩, fun x hx => ?_⟩
  obtain ⟨v, hv, r⟩ := pr_getR p hx
  refine ⟨⟨vs, v, h2, hv⟩, fun y H' ⟨eh, z⟩ => ?_⟩
  subst eh
  have q := z vs h2
  rw [hv] at q
  cases q
  exact ⟨Hs, Step.refl e2, T.mono e1 r⟩
theorem walk_t {K : PySem.W.Frag} {a : Addr} {vs : List V} {α : Type} {T : Ty α} {xs : List α} {Hs0 : Hp} (h : Hs0 a = some (.tup vs)) (p : Paired (fun v x => T.R v Hs0 x) vs xs) : Walks (Itt K a) T xs Hs0 := fun Hs H i e1 e2 => by
  have h2 : SqT K H a vs := SqT.of (e2 _ _ (e1 _ _ h))
  refine ⟨fun hi => ⟨vs, h2, by rw [Paired.length p]; exact hi⟩, fun x hx => ?_⟩
  obtain ⟨v, hv, r⟩ := pr_getR p hx
  refine ⟨⟨vs, v, h2, hv⟩, fun y H' ⟨eh, z⟩ => ?_⟩
  subst eh
  have q := z vs h2
  rw [hv] at q
  cases q
  exact ⟨Hs, Step.refl e2, T.mono e1 r⟩
theorem walk_s {K : PySem.W.Frag} {a : Addr} {xs : List Int} {Hs0 : Hp} (h : SqL K Hs0 a (xs.map V.int)) : Walks (Itl K a) tInt xs Hs0 := fun Hs H i e1 e2 => by
  have h2 : SqL K H a (xs.map V.int) := ex_l e2 (ex_l e1 h)
  refine ⟨fun hi => ⟨_, h2, by rw [List.length_map]; exact hi⟩, fun x hx => ?_⟩
  have hv : (xs.map V.int)[i]? = some (.int x) := by rw [List.getElem?_map, hx] <;> rfl
  refine ⟨⟨_, _, h2, hv⟩, fun y H' ⟨eh, z⟩ => ?_⟩
  subst eh
  have q := z _ h2
  rw [hv] at q
  cases q
  exact ⟨Hs, Step.refl e2, rfl⟩
/-- lo, lo + 1, .. below hi -/
def rng (lo hi : Int) : List Int := (List.range (hi - lo).toNat).map fun i : Nat => lo + (i : Int)
def rngO (lo hi : Int) : Option (List Int) := if -100000 ≤ lo ∧ lo ≤ 100000 ∧ -100000 ≤ hi ∧ hi ≤ 100000 then some (rng lo hi) else none
theorem rng_len (lo hi : Int) : (rng lo hi).length = (hi - lo).toNat := by
  unfold rng
  rw [List.length_map, List.length_range]
theorem walk_r {lo hi : Int} {Hs0 : Hp} : Walks (Itr lo (hi - lo).toNat) tInt (rng lo hi) Hs0 := fun Hs H i e1 e2 => by
  refine ⟨fun h => by rw [rng_len] at h; exact h, fun x hx => ?_⟩
  have hi' := (List.getElem?_eq_some_iff.mp hx).1
  rw [rng_len] at hi'
  refine ⟨hi', fun y H' ⟨eh, ey⟩ => ?_⟩
  subst eh
  unfold rng at hx
  rw [List.getElem?_map, List.getElem?_range hi'] at hx
  cases hx
  exact ⟨Hs, Step.refl e2, ey⟩
section
variable {X : Cx} {Γ : Cn} {tg e : Expr} {α : Type} {T : Ty α} {xs : List α}
theorem xi_list (h : XE X e Γ (tLst T) (some xs)) : XI X tg e Γ T xs := ⟨pi_imp (pi_list h.pe) fun σ H R ⟨B, Hs, w, q⟩ => ⟨B, Hs, xs, w, rfl, fun v Hs' H' s ⟨a, vs, r1, r2, r3⟩ b =>
  ⟨a, r1, ⟨vs, SqL.of (s.ss _ _ r2)⟩, q _ Hs' H' s (by rw [← Paired.length r3]; exact b a vs r1 (.inl (SqL.of (s.ss _ _ r2)))) (walk_l r2 r3)⟩⟩⟩
theorem xi_tup (h : XE X e Γ (tTup T) (some xs)) : XI X tg e Γ T xs := ⟨pi_imp (pi_tup h.pe) fun σ H R ⟨B, Hs, w, q⟩ => ⟨B, Hs, xs, w, rfl, fun v Hs' H' s ⟨a, vs, r1, r2, r3⟩ b =>
  ⟨a, r1, ⟨vs, SqT.of (s.ss _ _ r2)⟩, q _ Hs' H' s (by rw [← Paired.length r3]; exact b a vs r1 (.inr (SqT.of (s.ss _ _ r2)))) (walk_t r2 r3)⟩⟩⟩
theorem xi_scr {xs : List Int} (h : XE X e Γ (tScr X.K) (some xs)) : XI X tg e Γ tInt xs := ⟨pi_imp (pi_list h.pe) fun σ H R ⟨B, Hs, w, q⟩ => ⟨B, Hs, xs, w, rfl, fun v Hs' H' s ⟨a, r1, r2⟩ b =>
  ⟨a, r1, ⟨_, ex_l s.ss r2⟩, q _ Hs' H' s (by
    have z := b a _ r1 (.inl (ex_l s.ss r2))
    rw [List.length_map] at z
    exact z) (walk_s r2)⟩⟩⟩
theorem rngO_some {lo hi : Int} {xs : List Int} (h : rngO lo hi = some xs) : (-100000 ≤ lo ∧ lo ≤ 100000 ∧ -100000 ≤ hi ∧ hi ≤ 100000) ∧ xs = rng lo hi := by
  obtain ⟨a, b⟩ := if_some h
  exact ⟨a, b.symm⟩
theorem rng_small {lo hi : Int} (h : -100000 ≤ lo ∧ lo ≤ 100000 ∧ -100000 ≤ hi ∧ hi ≤ 100000) : (rng lo hi).length ≤ sizeLine := by
  rw [rng_len]
  exact Nat.le_trans (show (hi - lo).toNat ≤ 200000 by omega) (by decide)
theorem xi_rng1 {a : Expr} {p pos : Pos} {n : Int} {xs : List Int} (hm : X.mg "range" = none) (ha : XE X a Γ tInt (some n)) (hx : rngO 0 n = some xs) (hg : Gl X "range" := by rfl) (hs : starEach [a] X.env = [(false, eval a X.env)] := by rfl) : XI X tg (.Call (.Name "range" p) [a] [] pos) Γ tInt xs := by
  obtain ⟨hb, rfl⟩ := rngO_some hx
  refine ⟨pi_imp (pi_range1 hg hm (pa_cons ha.raw pa_nil hs) hs) fun σ H R ⟨B, Hs, w, q⟩ => ⟨B, Hs, n, w, rfl, fun v Hs' H' s r => ⟨n, by rw [show v = .int n from r], by omega, by omega, ?_⟩⟩⟩
  have z := q (Itr 0 (n - 0).toNat) Hs' H' s (rng_small hb) walk_r
  rw [Int.sub_zero] at z
  exact z
theorem xi_rng2 {a b : Expr} {p pos : Pos} {n k : Int} {xs : List Int} (hm : X.mg "range" = none) (ha : XE X a Γ tInt (some n)) (hb : XE X b Γ tInt (some k)) (hx : rngO n k = some xs) (hg : Gl X "range" := by rfl) (hs : starEach [a, b] X.env = [(false, eval a X.env), (false, eval b X.env)] := by rfl)
    (hs2 : starEach [b] X.env = [(false, eval b X.env)] := by rfl) : XI X tg (.Call (.Name "range" p) [a, b] [] pos) Γ tInt xs := by
  obtain ⟨hb', rfl⟩ := rngO_some hx
  refine ⟨pi_imp (pi_range2 hg hm (pa_cons ha.raw (pa_cons hb.raw pa_nil hs2) (by rw [hs, hs2])) hs hs2) fun σ H R ⟨B, Hs, w, q⟩ => ⟨B, Hs, n, w, rfl, fun v Hs' H' s r => ⟨B, Hs', k, w.step s, rfl, fun v2 Hs2 H2 s2 r2 => ⟨n, k, by rw [show v = .int n from r, show v2 = .int k from r2], ⟨by omega, by omega, by omega, by omega⟩, ?_⟩⟩⟩⟩
  exact q _ Hs2 H2 (s.trans s2) (rng_small hb') walk_r
end

/-! ### for, while -/
def forO {α S B R : Type} (f : α → S → Option (Out S S R)) : List α → S → Option (Out S B R)
  | [], s => some (.nx s)
  | x :: xs, s => (f x s).bind fun o => match o with
    | .nx s' => forO f xs s'
    | .ret r => some (.ret r)
    | .brk s' => some (.nx s')
theorem forO_cons {α S B R : Type} (f : α → S → Option (Out S S R)) (x : α) (xs : List α) (s : S) : forO (B := B) f (x :: xs) s = (f x s).bind fun o => match o with
    | .nx s' => forO f xs s'
    | .ret r => some (.ret r)
    | .brk s' => some (.nx s') := rfl
section
variable {X : Cx} {Γ : Cn} {α S B R : Type} {A : Ty α} {T : Ty R} {xs : List α} {Gl : S → Cn} {Gb : B → Cn} {G : α → Cn → Cn} {is : List Nat} {f : α → S → Option (Out S S R)} {tg iter : Expr} {body : List Stmt} {pos : Pos}
theorem xs_for (s0 : S) (hi : XI X tg iter Γ A xs) (hg : XG X tg A G is) (h0 : Wk Γ (Gl s0)) (hd : ∀ s, is.all (fun i => !(Gl s).μ.dep.contains i) = true) (hb : ∀ x s, XSs X body (G x (Gl s)) Gl Gl T (f x s))
    (hc : X.calm = true := by rfl) (hp : PassesOwn (model X.prog X.w) X.A X.env X.xe := by exact PassesOwn.never) (hs : ∀ x, foldedSetIterable iter X.env x = pure x := by intro _; rfl) : XS X (.For tg iter body [] pos) Γ Gl Gb T (forO f xs s0) := by
  have hd' : ∀ s, ∀ i ∈ is, (Gl s).μ.dep.contains i = false := fun s i him => by
    have z := List.all_eq_true.mp (hd s) i him
    simpa using z
  have hb' : PSs X body (fun D σ H => ∃ x s, tMS (G x (Gl s)) Gl Gl T (f x s) D σ H) := ⟨fun pins s σ H D I ⟨x, z, h⟩ => (hb x z).pss.run pins s σ H D I h⟩
  refine ⟨ps_imp (ps_for hp hc hi.pi hg.pg hb' hs) fun D σ H ⟨Bs0, Hs, o, w, hm, k⟩ => ?_⟩
  refine ⟨Bs0, Hs, w, fun J Hs1 H1 st1 hl wk => ?_⟩
  have k1 := k.ex st1.es
  refine ⟨fun i m σ' H' => m = xs.length - i ∧ ∃ s Hs', Ex Hs1 Hs' ∧ W Bs0 (Gl s) σ' Hs' H' ∧ forO f (xs.drop i) s = some o, ⟨xs.length, rfl, s0, Hs1, Ex.refl _, h0 _ _ _ _ (w.step st1), hm⟩, ?_⟩
  rintro i m σ' H' ⟨rfl, s, Hs', ex, w', hm'⟩
  obtain ⟨j1, j2⟩ := wk Hs' H' i ex w'.ex
  cases hx : xs[i]? with
  | none =>
    have hle : xs.length ≤ i := List.getElem?_eq_none_iff.mp hx
    rw [List.drop_of_length_le hle] at hm'
    cases hm'
    exact .inl ⟨j1 hle, k1 σ' Hs' H' ex w'⟩
  | some x =>
    obtain ⟨g1, g2⟩ := j2 x hx
    have hlt := (List.getElem?_eq_some_iff.mp hx).1
    have ed : xs.drop i = x :: xs.drop (i + 1) := by
      rw [List.drop_eq_getElem_cons hlt]
      congr 1
      exact (List.getElem?_eq_some_iff.mp hx).2
    rw [ed, forO_cons] at hm'
    refine .inr ⟨g1, fun σ2 H2 => ∃ s2 Hs2, Ex Hs1 Hs2 ∧ W Bs0 (Gl s2) σ2 Hs2 H2 ∧ forO f (xs.drop (i + 1)) s2 = some o, fun σ2 H2 ⟨s2, Hs2, e2, w2, m2⟩ => ⟨xs.length - (i + 1), by omega, rfl, s2, Hs2, e2, w2, m2⟩, fun y H2 hy => ?_⟩
    obtain ⟨Hs2, st2, r2⟩ := g2 y H2 hy
    refine ⟨x, Bs0, Gl s, Hs2, hd' s, w'.step st2, r2, fun σ3 _ _ w3 => ?_⟩
    cases e : f x s with
    | none =>
      rw [e] at hm'
      cases hm'
    | some o1 =>
      rw [e] at hm'
      refine ⟨x, s, Bs0, Hs2, o1, w3, e, ?_⟩
      cases o1 with
      | nx s' => exact fun σ4 Hs4 H4 e4 w4 => ⟨s', Hs4, (ex.trans st2.es).trans e4, w4, hm'⟩
      | ret r =>
        cases hm'
        exact fun v Hs4 H4 e4 s4 r4 => k1 v Hs4 H4 ((ex.trans st2.es).trans e4) s4 r4
      | brk s' =>
        cases hm'
        exact fun σ4 Hs4 H4 e4 w4 => k1 σ4 Hs4 H4 ((ex.trans st2.es).trans e4) w4
/-- while, at most n turns -/
def whlO {S B R : Type} (c : S → Option Bool) (f : S → Option (Out S S R)) : Nat → S → Option (Out S B R)
  | 0, _ => none
  | n + 1, s => (c s).bind fun b => if b = true then (f s).bind fun o => match o with
    | .nx s' => whlO c f n s'
    | .ret r => some (.ret r)
    | .brk s' => some (.nx s') else some (.nx s)
theorem whlO_succ {S B R : Type} (c : S → Option Bool) (f : S → Option (Out S S R)) (n : Nat) (s : S) : whlO (B := B) c f (n + 1) s = (c s).bind fun b => if b = true then (f s).bind fun o => match o with
    | .nx s' => whlO c f n s'
    | .ret r => some (.ret r)
    | .brk s' => some (.nx s') else some (.nx s) := rfl
theorem xs_while {cd : Expr} {c : S → Option Bool} {f : S → Option (Out S S R)} (n : Nat) (s0 : S) (h0 : Wk Γ (Gl s0)) (hc : ∀ s, XT X cd (Gl s) (c s)) (hb : ∀ s, XSs X body (Gl s) Gl Gl T (f s))
    (hp : PassesOwn (model X.prog X.w) X.A X.env X.xe := by exact PassesOwn.never) : XS X (.While cd body [] pos) Γ Gl Gb T (whlO c f n s0) := by
  have hc' : PT X cd (fun σ H Q => ∃ s, tMT (Gl s) (c s) σ H Q) := ⟨fun pins s σ H Q I ⟨z, h⟩ => (hc z).pt.run pins s σ H Q I h⟩
  have hb' : PSs X body (fun D σ H => ∃ s, tMS (Gl s) Gl Gl T (f s) D σ H) := ⟨fun pins s σ H D I ⟨z, h⟩ => (hb z).pss.run pins s σ H D I h⟩
  refine ⟨ps_imp (ps_while hp hc' hb') fun D σ H ⟨Bs0, Hs, o, w, hm, k⟩ => ?_⟩
  refine ⟨fun m σ' H' => ∃ s Hs', Ex Hs Hs' ∧ W Bs0 (Gl s) σ' Hs' H' ∧ whlO c f m s = some o, ⟨n, s0, Hs, Ex.refl _, h0 _ _ _ _ w, hm⟩, ?_⟩
  rintro m σ' H' ⟨s, Hs', ex, w', hm'⟩
  cases m with
  | zero => cases hm'
  | succ m =>
    rw [whlO_succ] at hm'
    cases e : c s with
    | none =>
      rw [e] at hm'
      cases hm'
    | some b =>
      rw [e] at hm'
      refine ⟨s, Bs0, Hs', b, w', e, fun Hs2 H2 s2 => ?_⟩
      cases b with
      | false =>
        have hm2 : some (Out.nx s) = some o := hm'
        cases hm2
        exact k σ' Hs2 H2 (ex.trans s2.es) (w'.step s2)
      | true =>
        refine ⟨fun σ4 H4 => ∃ s4 Hs4, Ex Hs Hs4 ∧ W Bs0 (Gl s4) σ4 Hs4 H4 ∧ whlO c f m s4 = some o, fun σ4 H4 z => ⟨m, Nat.lt_succ_self _, z⟩, ?_⟩
        cases e2 : f s with
        | none =>
          have hm2 : ((f s).bind fun o => match o with
            | .nx s' => whlO c f m s'
            | .ret r => some (.ret r)
            | .brk s' => some (.nx s')) = some o := hm'
          rw [e2] at hm2
          cases hm2
        | some o1 =>
          have hm2 : ((f s).bind fun o => match o with
            | .nx s' => whlO c f m s'
            | .ret r => some (.ret r)
            | .brk s' => some (.nx s')) = some o := hm'
          rw [e2] at hm2
          refine ⟨s, Bs0, Hs2, o1, w'.step s2, e2, ?_⟩
          cases o1 with
          | nx s' => exact fun σ4 Hs4 H4 e4 w4 => ⟨s', Hs4, (ex.trans s2.es).trans e4, w4, hm2⟩
          | ret r =>
            cases hm2
            exact fun v Hs4 H4 e4 s4 r4 => k v Hs4 H4 ((ex.trans s2.es).trans e4) s4 r4
          | brk s' =>
            cases hm2
            exact fun σ4 Hs4 H4 e4 w4 => k σ4 Hs4 H4 ((ex.trans s2.es).trans e4) w4
end
end Pg
set_option Elab.async false
set_option linter.all false
set_option maxRecDepth 100000
set_option maxHeartbeats 4000000
namespace Pg
open PySem PySem.Spec PyProof.Rows L2

/-! ### list comprehensions -/
def lcM {α β : Type} (mt : α → Option Bool) (me : α → Option β) : List α → Option (List β)
  | [] => some []
  | x :: xs => (mt x).bind fun b => if b = true then (me x).bind fun y => (lcM mt me xs).map (y :: ·) else lcM mt me xs
theorem lcM_cons {α β : Type} (mt : α → Option Bool) (me : α → Option β) (x : α) (xs : List α) : lcM mt me (x :: xs) = (mt x).bind fun b => if b = true then (me x).bind fun y => (lcM mt me xs).map (y :: ·) else lcM mt me xs := rfl
def mapO {α β : Type} (f : α → Option β) : List α → Option (List β)
  | [] => some []
  | x :: xs => (f x).bind fun y => (mapO f xs).map (y :: ·)
theorem lcM_map {α β : Type} (f : α → β) : ∀ xs : List α, lcM (fun _ => some true) (fun x => some (f x)) xs = some (xs.map f)
  | [] => rfl
  | x :: xs => by
    rw [lcM_cons, lcM_map f xs] <;> rfl
theorem lcM_mapO {α β : Type} (f : α → Option β) : ∀ xs : List α, lcM (fun _ => some true) f xs = mapO f xs
  | [] => rfl
  | x :: xs => by
    rw [lcM_cons, lcM_mapO f xs] <;> rfl
theorem lcM_filter {α β : Type} (p : α → Bool) (f : α → β) : ∀ xs : List α, lcM (fun x => some (p x)) (fun x => some (f x)) xs = some ((xs.filter p).map f)
  | [] => rfl
  | x :: xs => by
    rw [lcM_cons, lcM_filter p f xs, List.filter_cons]
    cases p x <;> rfl
def wipeS (ρ : List Slot) : List Nat → List Slot
  | [] => ρ
  | v :: vs => (wipeS ρ vs).set v .non
def wipeC (Γ : Cn) (vs : List Nat) : Cn := ⟨wipeS Γ.ρ vs, Γ.μ⟩
theorem wipe_out {σ : L2.St} {j : Nat} : ∀ {vs : List Nat}, j ∉ vs → (wipe σ vs)[j]? = σ[j]?
  | [], _ => rfl
  | v :: vs, h => by
    unfold wipe
    rw [List.getElem?_set_ne (fun e => h (by rw [e]; exact List.mem_cons_self)), wipe_out fun z => h (List.mem_cons_of_mem _ z)]
theorem wipe_in {σ : L2.St} {j : Nat} : ∀ {vs : List Nat}, j ∈ vs → j < σ.length → (wipe σ vs)[j]? = some none
  | v :: vs, h, hj => by
    unfold wipe
    by_cases e : v = j
    · subst e
      exact List.getElem?_set_self (by rw [wipe_length]; exact hj)
    · rw [List.getElem?_set_ne e]
      refine wipe_in ?_ hj
      rcases List.mem_cons.mp h with z | z
      · exact absurd z.symm e
      · exact z
theorem wipe_eq {σ σ2 : L2.St} {vs is : List Nat} (hl : σ2.length = (wipe σ vs).length) (h : ∀ j, j ∉ is → σ2[j]? = (wipe σ vs)[j]?) (hi : ∀ i ∈ is, i ∈ vs) : wipe σ2 vs = wipe σ vs := by
  have hl2 : σ2.length = σ.length := by rw [hl, wipe_length]
  refine List.ext_getElem? fun j => ?_
  by_cases hj : j ∈ vs
  · by_cases hlt : j < σ.length
    · rw [wipe_in hj (by rw [hl2]; exact hlt), wipe_in hj hlt]
    · rw [List.getElem?_eq_none (by rw [wipe_length, hl2]; omega), List.getElem?_eq_none (by rw [wipe_length]; omega)]
  · rw [wipe_out hj, h j fun z => hj (hi j z)]
theorem Sls.wipe {Hs : Hp} {ρ : List Slot} {σ : L2.St} (h : Sls Hs ρ σ) : ∀ vs : List Nat, Sls Hs (wipeS ρ vs) (L2.wipe σ vs)
  | [] => h
  | v :: vs => (Sls.wipe h vs).set (s := .non) (o := none) trivial v
theorem W.wipe {B : Bs} {Γ : Cn} {σ : L2.St} {Hs H : Hp} (w : W B Γ σ Hs H) {vs : List Nat} (hd : ∀ i ∈ vs, Γ.μ.dep.contains i = false) : W B (wipeC Γ vs) (L2.wipe σ vs) Hs H :=
  ⟨w.st, w.sl.wipe vs, Γ.μ.loc (fun i hi => wipe_out fun z => by
    have q := hd i z
    rw [List.contains_iff_mem.mpr hi] at q
    cases q) w.mu⟩
theorem Ex.mutD {H H' : Hp} {D : Addr} {o : HO} (e : Ex H H') (h : H D = Option.none) : Ex H (upd H' D o) := fun a u z => by
  rw [upd_ne (ne_of_none z h)]
  exact e a u z
theorem Step.mutD {Hs H Hs' H' : Hp} {D : Addr} {o : HO} (s : Step Hs H Hs' H') (h : H D = none) (hs : Hs' D = none) : Step Hs H Hs' (upd H' D o) := ⟨s.es, s.eh.mutD h, s.ss.mutD hs, s.nw⟩
theorem Step.frz {Hs H Hs' H' : Hp} {D : Addr} {o : HO} (s : Step Hs H Hs' H') (h : H D = none) (hs : Hs D = none) (hd : H' D = some o) : Step Hs H (upd Hs' D o) H' := by
  refine ⟨s.es.mutD hs, s.eh, fun a u z => ?_, fun a u z => ?_⟩
  · by_cases q : a = D
    · subst q
      rw [upd_same] at z
      rw [hd]
      exact z
    · rw [upd_ne q] at z
      exact s.ss a u z
  · by_cases q : a = D
    · subst q
      exact .inr h
    · rw [upd_ne q] at z
      exact s.nw a u z
theorem pr_snoc {α : Type} {F : V → α → Prop} {vs : List V} {ds : List α} {v : V} {d : α} (p : Paired F vs ds) (r : F v d) : Paired F (vs ++ [v]) (ds ++ [d]) := pr_app p (.cons r .nil)

section
variable {X : Cx} {Γ : Cn} {α β : Type} {A : Ty α} {C : Ty β} {xs : List α} {G : α → Cn → Cn} {is own : List Nat} {mt : α → Option Bool} {me : α → Option β} {ys : List β}
def ttO (Γw : Cn) (G : α → Cn → Cn) (mt : α → Option Bool) : TT := fun σ H Q => ∃ x, tMT (G x Γw) (mt x) σ H Q
def teO (Γw : Cn) (G : α → Cn → Cn) (C : Ty β) (me : α → Option β) : TE := fun σ H Q => ∃ x, tM (G x Γw) C (me x) σ H Q
theorem lc_read {B : Bs} {σ : L2.St} {Hs H : Hp} {Q : VK} (w : W B Γ σ Hs H) (hm : lcM mt me xs = some ys) (hdep : ∀ i ∈ own, Γ.μ.dep.contains i = false) (his : ∀ i ∈ is, i ∈ own) (hG : ∀ x Γ, (G x Γ).μ = Γ.μ)
    (q : ∀ v Hs' H', Step Hs H Hs' H' → (tLst C).R v Hs' ys → Q v H') : tLc (tI Γ A xs) (tG A G is) (ttO (wipeC Γ own) G mt) (teO (wipeC Γ own) G C me) own σ H Q := by
  refine ⟨B, Hs, w, fun J Hs1 H1 st1 hl wk D hD => ?_⟩
  have w1 := w.step st1
  refine ⟨fun i m H' => m = xs.length - i ∧ i ≤ xs.length ∧ ∃ Hs' vs ds, Step Hs1 H1 Hs' H' ∧ Hs' D = none ∧ H' D = some (.lst vs) ∧ Paired (fun v x => C.R v Hs' x) vs ds ∧ ds.length ≤ i ∧ (lcM mt me (xs.drop i)).map (ds ++ ·) = some ys, ⟨xs.length, rfl, Nat.zero_le _, Hs1, [], [], (Step.refl st1.ss).mutD hD (st1.ss.none hD), st1.ss.none hD, upd_same, .nil, Nat.le_refl _, ?_⟩, ?_⟩
  · rw [List.drop_zero, hm] <;> rfl
  rintro i m H' ⟨rfl, hile, Hs', vs, ds, st, n1, n2, p, hdl, hm'⟩
  obtain ⟨j1, j2⟩ := wk Hs' H' i st.es st.ss
  cases hx : xs[i]? with
  | none =>
    have hle : xs.length ≤ i := List.getElem?_eq_none_iff.mp hx
    rw [List.drop_of_length_le hle] at hm'
    have e1 : ds ++ [] = ys := Option.some.inj hm'
    rw [List.append_nil] at e1
    subst e1
    refine .inl ⟨j1 hle, q _ (upd Hs' D (.lst vs)) H' (st1.trans (st.frz hD (st1.ss.none hD) n2)) ⟨D, vs, rfl, upd_same, pr_mono (Ex.new n1) p⟩⟩
  | some x =>
    obtain ⟨g1, g2⟩ := j2 x hx
    have hlt := (List.getElem?_eq_some_iff.mp hx).1
    have ed : xs.drop i = x :: xs.drop (i + 1) := by
      rw [List.drop_eq_getElem_cons hlt]
      congr 1
      exact (List.getElem?_eq_some_iff.mp hx).2
    rw [ed, lcM_cons] at hm'
    refine .inr ⟨g1, fun H2 => i + 1 ≤ xs.length ∧ ∃ Hs' vs ds, Step Hs1 H1 Hs' H2 ∧ Hs' D = none ∧ H2 D = some (.lst vs) ∧ Paired (fun v x => C.R v Hs' x) vs ds ∧ ds.length ≤ i + 1 ∧ (lcM mt me (xs.drop (i + 1))).map (ds ++ ·) = some ys, fun H2 z => ⟨xs.length - (i + 1), by omega, rfl, z⟩, fun y H2 hy => ?_⟩
    obtain ⟨Hs2, st2, r2⟩ := g2 y H2 hy
    have s2 := st.trans st2
    have w2 := (w1.step s2).wipe hdep
    refine ⟨x, B, wipeC Γ own, Hs2, fun i hi => hdep i (his i hi), w2, r2, fun σ3 a3 l3 w3 => ⟨wipe_eq l3 a3 his, ?_⟩⟩
    cases e : mt x with
    | none =>
      rw [e] at hm'
      cases hm'
    | some b =>
      rw [e] at hm'
      refine ⟨x, B, Hs2, b, w3, e, fun Hs4 H4 st4 => ?_⟩
      have n4 : Hs4 D = none := st4.free (st2.free n1 n2) (st2.eh _ _ n2)
      have m4 : H4 D = some (.lst vs) := st4.eh _ _ (st2.eh _ _ n2)
      cases b with
      | false =>
        have hm2 : (lcM mt me (xs.drop (i + 1))).map (ds ++ ·) = some ys := hm'
        exact ⟨hlt, Hs4, vs, ds, s2.trans st4, n4, m4, pr_mono (st2.es.trans st4.es) p, Nat.le_succ_of_le hdl, hm2⟩
      | true =>
        cases e5 : me x with
        | none =>
          have hm2 : Option.map (ds ++ ·) ((me x).bind fun y => (lcM mt me (xs.drop (i + 1))).map (y :: ·)) = some ys := hm'
          rw [e5] at hm2
          cases hm2
        | some z =>
          have hm2 : Option.map (ds ++ ·) ((me x).bind fun y => (lcM mt me (xs.drop (i + 1))).map (y :: ·)) = some ys := hm'
          rw [e5] at hm2
          refine ⟨x, B, Hs4, z, w3.step st4, e5, fun v Hs5 H5 st5 r5 => ⟨vs, st5.eh _ _ m4, ?_, hlt, Hs5, vs ++ [v], ds ++ [z], ((s2.trans st4).trans st5).mutD hD (st5.free n4 m4), st5.free n4 m4, upd_same, ?_, ?_, ?_⟩⟩
          · rw [Paired.length p]
            omega
          · exact pr_snoc (pr_mono ((st2.es.trans st4.es).trans st5.es) p) r5
          · rw [List.length_append]
            exact Nat.succ_le_succ hdl
          · have hm3 : Option.map (ds ++ ·) ((lcM mt me (xs.drop (i + 1))).map (z :: ·)) = some ys := hm2
            rw [Option.map_map] at hm3
            rw [← hm3]
            congr 1
            funext l
            show ds ++ [z] ++ l = ds ++ z :: l
            rw [List.append_assoc] <;> rfl
end
section
variable {X : Cx} {Γ : Cn} {α β : Type} {A : Ty α} {C : Ty β} {xs : List α} {G : α → Cn → Cn} {is : List Nat} {mt : α → Option Bool} {me : α → Option β} {elt tg iter c : Expr} {ifs : List Expr} {scope : Scope} {pos : Pos}
/-- the tests of a clause -/
structure XF (X : Cx) (ifs : List Expr) (Γw : Cn) {α : Type} (G : α → Cn → Cn) (mt : α → Option Bool) (scope : Scope) : Prop where
  pt : ∀ (s : Shared) (H : Hp) (C : Addr) (cl : List (Str × Addr)) (fp : List Addr), PTs (X.blk s H scope (compEnvC scope cl C X.env) fp) ifs (ttO Γw G mt)
theorem pts_imp {X : Cx} {ifs : List Expr} {t t' : TT} (h : PTs X ifs t) (hi : ∀ σ H Q, t' σ H Q → t σ H Q) : PTs X ifs t' := ⟨fun pins s σ H Q I hw => h.run pins s σ H Q I (hi _ _ _ hw)⟩
theorem xf_no {Γw : Cn} : XF X [] Γw G (fun _ => some true) scope := ⟨fun s H C cl fp => pts_imp pts_nil fun σ H Q ⟨x, B, Hs, d, w, hm, q⟩ => by
  cases hm
  exact q Hs H (Step.refl w.ex)⟩
theorem xf_one {Γw : Cn} (h : ∀ (s : Shared) (H : Hp) (C : Addr) (cl : List (Str × Addr)) (fp : List Addr) x, XT (X.blk s H scope (compEnvC scope cl C X.env) fp) c (G x Γw) (mt x)) : XF X [c] Γw G mt scope := ⟨fun s H C cl fp =>
  pts_one ⟨fun pins s' σ H' Q I ⟨x, hx⟩ => (h s H C cl fp x).pt.run pins s' σ H' Q I hx⟩⟩
theorem x_lc (own : List (Str × Nat)) (hN : X.N.Nodup) (hi : XI X tg iter Γ A xs) (hg : ∀ (s : Shared) (H : Hp) (C : Addr) (cl : List (Str × Addr)) (fp : List Addr), XG (X.blk s H scope (compEnvC scope cl C X.env) fp) tg A G is) (ht : XF X ifs (wipeC Γ (own.map (·.2))) G mt scope)
    (he : ∀ (s : Shared) (H : Hp) (Ca : Addr) (cl : List (Str × Addr)) (fp : List Addr) x, XE (X.blk s H scope (compEnvC scope cl Ca X.env) fp) elt (G x (wipeC Γ (own.map (·.2)))) C (me x)) (ok : blkC X.N X.env.scope scope own = true := by kernel_rfl)
    (hdep : (own.map (·.2)).all (fun i => !Γ.μ.dep.contains i) = true := by rfl) (his : is.all (fun i => (own.map (·.2)).contains i) = true := by rfl) (hmu : ∀ x Γ, (G x Γ).μ = Γ.μ := by intro _ _; rfl) (hc : X.calm = true := by rfl) (hs : ∀ x, foldedSetIterable iter X.env x = pure x := by intro _; rfl) :
    XE X (.ListComp elt [⟨tg, iter, ifs, 0⟩] scope pos) Γ (tLst C) (lcM mt me xs) :=
  xe_mk (pe_lc hc hN hi.pi (blkOk_by ok) (fun s H C cl fp => (hg s H C cl fp).pg) ht.pt (fun s H Ca cl fp => ⟨fun pins s' σ H' Q I ⟨x, hx⟩ => (he s H Ca cl fp x).raw.run pins s' σ H' Q I hx⟩) hs) fun B σ Hs H Q d w hm q =>
    lc_read w hm (fun i hi => by simpa using List.all_eq_true.mp hdep i hi) (fun i hi => by simpa using List.all_eq_true.mp his i hi) hmu q
/-- y = [..], then the rest -/
theorem xs_lc {S B R : Type} {Gn : S → Cn} {Gb : B → Cn} {T : Ty R} {m : Option (Out S B R)} {rest : List Stmt} {y : Str} {py spos : Pos} {ys : List β} (i : Nat) (own : List (Str × Nat)) (hN : X.N.Nodup) (hi : XI X tg iter Γ A xs) (hg : ∀ (s : Shared) (H : Hp) (C : Addr) (cl : List (Str × Addr)) (fp : List Addr), XG (X.blk s H scope (compEnvC scope cl C X.env) fp) tg A G is)
    (ht : XF X ifs (wipeC Γ (own.map (·.2))) G mt scope)
    (he : ∀ (s : Shared) (H : Hp) (Ca : Addr) (cl : List (Str × Addr)) (fp : List Addr) x, XE (X.blk s H scope (compEnvC scope cl Ca X.env) fp) elt (G x (wipeC Γ (own.map (·.2)))) C (me x)) (hm : lcM mt me xs = some ys) (hr : XSs X rest (Γ.set i (.val (tLst C) ys)) Gn Gb T m)
    (hy : X.N[i]? = some y := by rfl) (hyl : X.env.scope.names.lookup y = some .local := by rfl) (hsw : swapsWith (.ListComp elt [⟨tg, iter, ifs, 0⟩] scope pos) (some (.Name y py)) spos.line X.env = pure true := by exact sw_true rfl rfl rfl (by decide +kernel))
    (ok : blkC X.N X.env.scope scope own = true := by kernel_rfl) (hd : Γ.μ.dep.contains i = false := by rfl)
    (hdep : (own.map (·.2)).all (fun i => !Γ.μ.dep.contains i) = true := by rfl) (his : is.all (fun i => (own.map (·.2)).contains i) = true := by rfl) (hmu : ∀ x Γ, (G x Γ).μ = Γ.μ := by intro _ _; rfl) (hc : X.calm = true := by rfl) (hs : ∀ x, foldedSetIterable iter X.env x = pure x := by intro _; rfl) :
    XSs X (.Assign [.Name y py] (.ListComp elt [⟨tg, iter, ifs, 0⟩] scope pos) spos :: rest) Γ Gn Gb T m := by
  have h1 := ps_setLc (te := teO (wipeC Γ (own.map (·.2))) G C me) hc hN hy hyl hsw hi.pi (blkOk_by ok) (fun s H C cl fp => (hg s H C cl fp).pg) ht.pt (fun s H Ca cl fp => ⟨fun pins s' σ H' Q I ⟨x, hx⟩ => (he s H Ca cl fp x).raw.run pins s' σ H' Q I hx⟩) hs
  refine ⟨pss_imp (pss_cons h1 hr.pss) fun D σ H ⟨Bs0, Hs, o, w, hm2, k⟩ => ?_⟩
  refine lc_read (C := C) (Q := fun v H' => tMS (Γ.set i (.val (tLst C) ys)) Gn Gb T m D (σ.set i (some v)) H') w hm (fun i hi => by simpa using List.all_eq_true.mp hdep i hi) (fun i hi => by simpa using List.all_eq_true.mp his i hi) hmu fun v Hs' H' s r => ?_
  exact ⟨Bs0, Hs', o, (w.step s).set hd ⟨v, rfl, r⟩, hm2, k.ex s.es⟩
end

/-! ### two fors -/
def lcM2 {α β γ : Type} (mi : α → Option (List β)) (me : α → β → Option γ) : List α → Option (List γ)
  | [] => some []
  | x :: xs => (mi x).bind fun zs => (mapO (me x) zs).bind fun ys => (lcM2 mi me xs).map (ys ++ ·)

/-! ### defs and calls -/
structure Has (P : Program) (w : World) (K : PySem.W.Frag) (mg : Str → Option Value) (base : Heap) (x : Str) (k : Nat) (sp : Sp) : Prop where
  ex : ∃ f fd ps, FnOk P w K mg base CX0 k f fd ps sp ∧ mg x = some (.ref f) ∧ PySem.W.keepIn K (.ref f) = true ∧ Binds K fd ps []
def SpF {α ρ : Type} (A : Tys α) (R : Ty ρ) (m : α → Option ρ) : Sp := fun vs H Q _ => ∃ Hs d r, Ex Hs H ∧ A.R vs Hs d ∧ m d = some r ∧ ∀ v Hs' H', Step Hs H Hs' H' → R.R v Hs' r → Q v H'
def retO {S B R : Type} : Option (Out S B R) → Option R
  | some (.ret r) => some r
  | _ => none
def endO {S B R : Type} : Option (Out S B R) → Option Unit
  | some (.nx _) => some ()
  | _ => none
theorem retO_some {S B R : Type} {m : Option (Out S B R)} {r : R} (h : retO m = some r) : m = some (.ret r) := by
  cases m with
  | none => cases h
  | some o =>
    cases o with
    | ret x =>
      cases h
      rfl
    | nx s => cases h
    | brk b => cases h
theorem endO_some {S B R : Type} {m : Option (Out S B R)} {u : Unit} (h : endO m = some u) : ∃ s, m = some (.nx s) := by
  cases m with
  | none => cases h
  | some o =>
    cases o with
    | nx s => exact ⟨s, rfl⟩
    | ret x => cases h
    | brk b => cases h
theorem x_call {X : Cx} {Γ : Cn} {x : Str} {k : Nat} {α ρ : Type} {A : Tys α} {R : Ty ρ} {m : α → Option ρ} {p pos : Pos} {e : Expr} {es : List Expr} {d : α} (F : Has X.prog X.w X.K X.mg X.base x k (SpF A R m)) (hr : Room k X.A) (ha : XA X (e :: es) Γ A (some d)) (hg : Gl X x := by rfl)
    (hdb : (x == ("__debug__" : Str)) = false := by decide) (he : starEach (e :: es) X.env = (false, eval e X.env) :: starEach es X.env := by rfl) (hpl : (backTo pos (starEach es X.env)).any (·.1) = false := by rfl) : XE X (.Call (.Name x p) (e :: es) [] pos) Γ R (m d) := by
  obtain ⟨f, fd, ps, F, hm, hk, hb⟩ := F.ex
  refine xe_mk (pe_call F hr hg hm hk hb .nil (E := E0) pass0 ha.pa hdb he hpl) fun B σ Hs H Q r w hr' q => ⟨B, Hs, d, w, rfl, fun vs Hs' H' s rv => ?_⟩
  show SpF A R m (vs ++ []) H' Q E0
  rw [List.append_nil]
  exact ⟨Hs', d, r, s.ss, rv, hr', fun v Hs2 H2 s2 r2 => q v Hs2 H2 (s.trans s2) r2⟩
/-- the slots of the parameters -/
structure Prm {α : Type} (A : Tys α) (sl : α → List Slot) : Prop where
  ok : ∀ vs Hs d, A.R vs Hs d → Sls Hs (sl d) (vs.map some)
theorem prm_nil : Prm ysN fun _ => [] := ⟨fun vs Hs d h => by
  have e : vs = [] := h
  subst e
  exact ⟨rfl, fun i s z => by simp at z⟩⟩
theorem prm_cons {α β : Type} {T : Ty α} {A : Tys β} {sl : β → List Slot} (h : Prm A sl) : Prm (ysC T A) fun d => .val T d.1 :: sl d.2 := ⟨fun vs Hs d ⟨v, r, e, h1, h2⟩ => by
  subst e
  have z := h.ok r Hs d.2 h2
  refine ⟨by rw [List.length_cons, List.map_cons, List.length_cons, z.1], fun i s q => ?_⟩
  cases i with
  | zero =>
    cases q
    exact ⟨some v, rfl, v, rfl, h1⟩
  | succ i => exact z.2 i s q⟩
theorem Sls.more {Hs : Hp} {ρ : List Slot} {σ : L2.St} (h : Sls Hs ρ σ) (n : Nat) : Sls Hs (ρ ++ List.replicate n .non) (σ ++ List.replicate n none) := by
  refine ⟨by rw [List.length_append, List.length_append, h.1, List.length_replicate, List.length_replicate], fun i s z => ?_⟩
  by_cases hi : i < ρ.length
  · rw [List.getElem?_append_left hi] at z
    rw [List.getElem?_append_left (by rw [← h.1]; exact hi)]
    exact h.2 i s z
  · rw [List.getElem?_append_right (by omega)] at z
    rw [List.getElem?_append_right (by rw [← h.1]; omega), ← h.1]
    obtain ⟨h1, h2⟩ := List.getElem?_eq_some_iff.mp z
    rw [List.length_replicate] at h1
    rw [List.getElem_replicate] at h2
    subst h2
    exact ⟨none, by rw [List.getElem?_replicate, if_pos h1], trivial⟩
/-- the slots at the entry -/
def gam {α : Type} (sl : α → List Slot) (n : Nat) (d : α) : Cn := ⟨sl d ++ List.replicate n .non, mu0⟩
section
variable {P : Program} {w : World} {K : PySem.W.Frag} {mg : Str → Option Value} {base : Heap} {x qual : Str} {st : Stmt} {f : Addr} {fd : FuncData} {N ps : List Str} {k : Nat} {α ρ : Type} {A : Tys α} {R : Ty ρ} {kws : List (Str × V)}
theorem fn_core {S B : Type} {sl : α → List Slot} {Gn : S → Cn} {Gb : B → Cn} {m : α → Option (Out S B ρ)} {sp : Sp} (F : FunD K x qual (defArgs st) (defBody st) (defScope st) [] kws f fd) (Sc : FnScope N ps (defScope st)) (hp : Prm A sl) (ha : A.ar = ps.length)
    (len : ∀ vs H Q E, sp vs H Q E → vs.length = ps.length)
    (hb : ∀ (cdv : Value) (Ar : Around) (outer : List Env) (s : Shared) (H : Hp) (E : XK) d, Room k (Ar.deeper (envOfC qual (defScope st) s.heap.objs.size f cdv)) → XSs (cxOf CX0 P w K mg base N qual (defScope st) f cdv Ar outer s H E).nox (defBody st) (gam sl (N.length - ps.length) d) Gn Gb R (m d))
    (hsp : ∀ vs H Q E, sp vs H Q E → ∃ B0 Hs d o, A.R vs Hs d ∧ Step B0.Hs B0.H Hs H ∧ m d = some o ∧ OutOk B0 Hs Gn Gb R { nx := fun _ H' => Q .non H', rt := Q } o) : FnOk P w K mg base CX0 (k + 1) f fd ps sp := by
  refine F.ok Sc len fun cdv Ar outer s H vs Q E hr h => ?_
  obtain ⟨B0, Hs, d, o, rv, ex, hm, k2⟩ := hsp vs H Q E h
  refine ⟨_, PSs.nox (hb cdv Ar outer s H E d hr).pss, B0, Hs, o, ⟨ex, ?_, trivial⟩, hm, k2⟩
  have e : vs.length = ps.length := (A.len rv).trans ha
  show Sls Hs (sl d ++ List.replicate (N.length - ps.length) .non) (vs.map some ++ List.replicate (N.length - vs.length) Option.none)
  rw [e]
  exact (hp.ok vs Hs d rv).more _
theorem has_def {S B : Type} {sl : α → List Slot} {Gn : S → Cn} {Gb : B → Cn} {m : α → Option (Out S B ρ)} (F : FunD K x qual (defArgs st) (defBody st) (defScope st) [] kws f fd) (hm : mg x = some (.ref f)) (Sc : FnScope N ps (defScope st)) (hp : Prm A sl) (ha : A.ar = ps.length)
    (bd : Binds K fd ps [])
    (hb : ∀ (cdv : Value) (Ar : Around) (outer : List Env) (s : Shared) (H : Hp) (E : XK) d, Room k (Ar.deeper (envOfC qual (defScope st) s.heap.objs.size f cdv)) → XSs (cxOf CX0 P w K mg base N qual (defScope st) f cdv Ar outer s H E).nox (defBody st) (gam sl (N.length - ps.length) d) Gn Gb R (m d)) :
    Has P w K mg base x (k + 1) (SpF A R fun d => retO (m d)) := by
  refine ⟨f, fd, ps, fn_core (R := R) F Sc hp ha (fun vs H Q E ⟨Hs, d, r, _, rv, _⟩ => (A.len rv).trans ha) hb fun vs H Q E ⟨Hs, d, r, ex, rv, hr, q⟩ => ⟨⟨Hs, H⟩, Hs, d, .ret r, rv, Step.refl ex, retO_some hr, fun v Hs' H' _ s2 r2 => q v Hs' H' s2 r2⟩, hm, F.kp, bd⟩
theorem has_end {S B : Type} {sl : α → List Slot} {Gn : S → Cn} {Gb : B → Cn} {m : α → Option (Out S B ρ)} (F : FunD K x qual (defArgs st) (defBody st) (defScope st) [] kws f fd) (hm : mg x = some (.ref f)) (Sc : FnScope N ps (defScope st)) (hp : Prm A sl) (ha : A.ar = ps.length)
    (bd : Binds K fd ps [])
    (hb : ∀ (cdv : Value) (Ar : Around) (outer : List Env) (s : Shared) (H : Hp) (E : XK) d, Room k (Ar.deeper (envOfC qual (defScope st) s.heap.objs.size f cdv)) → XSs (cxOf CX0 P w K mg base N qual (defScope st) f cdv Ar outer s H E).nox (defBody st) (gam sl (N.length - ps.length) d) Gn Gb R (m d)) :
    Has P w K mg base x (k + 1) (SpF A tNon fun d => endO (m d)) := by
  refine ⟨f, fd, ps, fn_core (R := R) F Sc hp ha (fun vs H Q E ⟨Hs, d, r, _, rv, _⟩ => (A.len rv).trans ha) hb fun vs H Q E ⟨Hs, d, r, ex, rv, hr, q⟩ => ?_, hm, F.kp, bd⟩
  obtain ⟨s, hs⟩ := endO_some hr
  exact ⟨⟨Hs, H⟩, Hs, d, .nx s, rv, Step.refl ex, hs, fun σ' Hs' H' _ w' => q _ Hs' H' w'.st rfl⟩
end
end Pg
set_option Elab.async false
set_option linter.all false
set_option maxRecDepth 100000
set_option maxHeartbeats 4000000
namespace Pg
open PySem PySem.Spec PyProof.Rows L2

/-! ### built-ins by name -/
section
variable {X : Cx} {Γ : Cn} {x : Str} {e a b : Expr} {es : List Expr} {p pos : Pos} {α β : Type} {S : Tys α} {C : Ty β} {d : α} {T0 : Ty α}
theorem x_cb {id : String} {r : List V → Hp → VK → Prop} {m : Option β} (hc : CallR X (.builtin id) r) (hm : X.mg x = none) (hv : bootBuiltins x = some (.builtin id)) (ha : XA X (e :: es) Γ S (some d))
    (hr : ∀ vs Hs H Q c, m = some c → Ex Hs H → S.R vs Hs d → (∀ z Hs' H', Step Hs H Hs' H' → C.R z Hs' c → Q z H') → r vs H Q) (hg : Gl X x) (hn : x ≠ "__name__") (hdb : (x == ("__debug__" : Str)) = false)
    (he : starEach (e :: es) X.env = (false, eval e X.env) :: starEach es X.env) (hpl : (backTo pos (starEach es X.env)).any (·.1) = false) : XE X (.Call (.Name x p) (e :: es) [] pos) Γ C m :=
  xe_mk (pe_callB hc hg hm hv ha.pa hn hdb he hpl) fun B σ Hs H Q c w hc' q => ⟨B, Hs, d, w, rfl, fun vs Hs' H' s rv => hr vs Hs' H' Q c hc' s.ss rv fun z Hs2 H2 s2 r2 => q z Hs2 H2 (s.trans s2) r2⟩
theorem x_ct {T : String} {r : List V → Hp → VK → Prop} {m : Option β} (hc : CallR X (.type T) r) (hm : X.mg x = none) (hv : bootBuiltins x = some (.type T)) (ha : XA X (e :: es) Γ S (some d))
    (hr : ∀ vs Hs H Q c, m = some c → Ex Hs H → S.R vs Hs d → (∀ z Hs' H', Step Hs H Hs' H' → C.R z Hs' c → Q z H') → r vs H Q) (hg : Gl X x) (hn : x ≠ "__name__") (hdb : (x == ("__debug__" : Str)) = false)
    (he : starEach (e :: es) X.env = (false, eval e X.env) :: starEach es X.env) (hpl : (backTo pos (starEach es X.env)).any (·.1) = false) : XE X (.Call (.Name x p) (e :: es) [] pos) Γ C m :=
  xe_mk (pe_callTy hc hg hm hv ha.pa hn hdb he hpl) fun B σ Hs H Q c w hc' q => ⟨B, Hs, d, w, rfl, fun vs Hs' H' s rv => hr vs Hs' H' Q c hc' s.ss rv fun z Hs2 H2 s2 r2 => q z Hs2 H2 (s.trans s2) r2⟩
theorem ys1 {T : Ty α} {vs : List V} {H : Hp} {d : α × Unit} (h : (ysC T ysN).R vs H d) : ∃ v, vs = [v] ∧ T.R v H d.1 := by
  obtain ⟨v, r, e, h1, h2⟩ := h
  have e2 : r = [] := h2
  subst e2
  exact ⟨v, e, h1⟩
theorem ys2 {T : Ty α} {T2 : Ty β} {vs : List V} {H : Hp} {d : α × β × Unit} (h : (ysC T (ysC T2 ysN)).R vs H d) : ∃ v u, vs = [v, u] ∧ T.R v H d.1 ∧ T2.R u H d.2.1 := by
  obtain ⟨v, r, e, h1, h2⟩ := h
  obtain ⟨u, e2, h3⟩ := ys1 h2
  subst e2
  exact ⟨v, u, e, h1, h3⟩
theorem boot_lenB : bootBuiltins "len" = some (.builtin "len") := by first | exact PySem.boot_len | decide +kernel
theorem x_lenL {T : Ty α} {xs : List α} (hm : X.mg "len" = none) (ha : XE X a Γ (tLst T) (some xs)) (hg : Gl X "len" := by rfl) (he : starEach [a] X.env = (false, eval a X.env) :: starEach [] X.env := by rfl) (hpl : (backTo pos (starEach [] X.env)).any (·.1) = false := by rfl) :
    XE X (.Call (.Name "len" p) [a] [] pos) Γ tInt (some (xs.length : Int)) :=
  x_cb call_len_seq hm boot_lenB (xa_cons ha xa_nil he) (fun vs Hs H Q c hc e r q => by
    obtain ⟨v, e1, l, us, r1, r2, r3⟩ := ys1 r
    subst e1 r1
    cases hc
    refine ⟨l, us, rfl, .inl (SqL.of (e _ _ r2)), ?_⟩
    rw [Paired.length r3]
    exact q _ _ _ (Step.refl e) rfl) hg (by decide) (by decide) he hpl
theorem x_lenT {T : Ty α} {xs : List α} (hm : X.mg "len" = none) (ha : XE X a Γ (tTup T) (some xs)) (hg : Gl X "len" := by rfl) (he : starEach [a] X.env = (false, eval a X.env) :: starEach [] X.env := by rfl) (hpl : (backTo pos (starEach [] X.env)).any (·.1) = false := by rfl) :
    XE X (.Call (.Name "len" p) [a] [] pos) Γ tInt (some (xs.length : Int)) :=
  x_cb call_len_seq hm boot_lenB (xa_cons ha xa_nil he) (fun vs Hs H Q c hc e r q => by
    obtain ⟨v, e1, l, us, r1, r2, r3⟩ := ys1 r
    subst e1 r1
    cases hc
    refine ⟨l, us, rfl, .inr (SqT.of (e _ _ r2)), ?_⟩
    rw [Paired.length r3]
    exact q _ _ _ (Step.refl e) rfl) hg (by decide) (by decide) he hpl
theorem x_lenS {xs : List Int} (hm : X.mg "len" = none) (ha : XE X a Γ (tScr X.K) (some xs)) (hg : Gl X "len" := by rfl) (he : starEach [a] X.env = (false, eval a X.env) :: starEach [] X.env := by rfl) (hpl : (backTo pos (starEach [] X.env)).any (·.1) = false := by rfl) :
    XE X (.Call (.Name "len" p) [a] [] pos) Γ tInt (some (xs.length : Int)) :=
  x_cb call_len_seq hm boot_lenB (xa_cons ha xa_nil he) (fun vs Hs H Q c hc e r q => by
    obtain ⟨v, e1, l, r1, r2⟩ := ys1 r
    subst e1 r1
    cases hc
    refine ⟨l, _, rfl, .inl (ex_l e r2), ?_⟩
    rw [List.length_map]
    exact q _ _ _ (Step.refl e) rfl) hg (by decide) (by decide) he hpl
/-- a tuple of a known number of items -/
theorem x_lenN {S : Tys α} {d : α} (hm : X.mg "len" = none) (ha : XE X a Γ (tTupN S) (some d)) (hg : Gl X "len" := by rfl) (he : starEach [a] X.env = (false, eval a X.env) :: starEach [] X.env := by rfl) (hpl : (backTo pos (starEach [] X.env)).any (·.1) = false := by rfl) :
    XE X (.Call (.Name "len" p) [a] [] pos) Γ tInt (some (S.ar : Int)) :=
  x_cb call_len_seq hm boot_lenB (xa_cons ha xa_nil he) (fun vs Hs H Q c hc e r q => by
    obtain ⟨v, e1, l, us, r1, r2, r3⟩ := ys1 r
    subst e1 r1
    cases hc
    refine ⟨l, us, rfl, .inr (SqT.of (e _ _ r2)), ?_⟩
    rw [S.len r3]
    exact q _ _ _ (Step.refl e) rfl) hg (by decide) (by decide) he hpl
theorem x_toint {i : Int} (hm : X.mg "int" = none) (ha : XE X a Γ tInt (some i)) (hg : Gl X "int" := by rfl) (he : starEach [a] X.env = (false, eval a X.env) :: starEach [] X.env := by rfl) (hpl : (backTo pos (starEach [] X.env)).any (·.1) = false := by rfl) :
    XE X (.Call (.Name "int" p) [a] [] pos) Γ tInt (some i) :=
  x_ct call_int1 hm (by decide +kernel) (xa_cons ha xa_nil he) (fun vs Hs H Q c hc e r q => by
    obtain ⟨v, e1, r1⟩ := ys1 r
    cases (show v = .int i from r1)
    subst e1
    cases hc
    exact .inl ⟨i, rfl, q _ _ _ (Step.refl e) rfl⟩) hg (by decide) (by decide) he hpl
theorem x_tointB {b : Bool} (hm : X.mg "int" = none) (ha : XE X a Γ tBool (some b)) (hg : Gl X "int" := by rfl) (he : starEach [a] X.env = (false, eval a X.env) :: starEach [] X.env := by rfl) (hpl : (backTo pos (starEach [] X.env)).any (·.1) = false := by rfl) :
    XE X (.Call (.Name "int" p) [a] [] pos) Γ tInt (some (if b = true then 1 else 0)) :=
  x_ct call_int1 hm (by decide +kernel) (xa_cons ha xa_nil he) (fun vs Hs H Q c hc e r q => by
    obtain ⟨v, e1, r1⟩ := ys1 r
    cases (show v = .bl b from r1)
    subst e1
    cases hc
    exact .inr ⟨b, rfl, q _ _ _ (Step.refl e) rfl⟩) hg (by decide) (by decide) he hpl
theorem x_min2 {i j : Int} (hm : X.mg "min" = none) (ha : XE X a Γ tInt (some i)) (hb : XE X b Γ tInt (some j)) (hc0 : X.calm = true := by rfl) (hg : Gl X "min" := by rfl) (he : starEach [a, b] X.env = (false, eval a X.env) :: starEach [b] X.env := by rfl) (he2 : starEach [b] X.env = (false, eval b X.env) :: starEach [] X.env := by rfl)
    (hpl : (backTo pos (starEach [b] X.env)).any (·.1) = false := by rfl) : XE X (.Call (.Name "min" p) [a, b] [] pos) Γ tInt (some (if j < i then j else i)) :=
  x_cb (call_min2 hc0) hm (by decide +kernel) (xa_cons ha (xa_cons hb xa_nil he2) he) (fun vs Hs H Q c hc e r q => by
    obtain ⟨v, u, e1, r1, r2⟩ := ys2 r
    cases (show v = .int i from r1)
    cases (show u = .int j from r2)
    subst e1
    cases hc
    exact ⟨i, j, rfl, q _ _ _ (Step.refl e) rfl⟩) hg (by decide) (by decide) he hpl
theorem x_max2 {i j : Int} (hm : X.mg "max" = none) (ha : XE X a Γ tInt (some i)) (hb : XE X b Γ tInt (some j)) (hc0 : X.calm = true := by rfl) (hg : Gl X "max" := by rfl) (he : starEach [a, b] X.env = (false, eval a X.env) :: starEach [b] X.env := by rfl) (he2 : starEach [b] X.env = (false, eval b X.env) :: starEach [] X.env := by rfl)
    (hpl : (backTo pos (starEach [b] X.env)).any (·.1) = false := by rfl) : XE X (.Call (.Name "max" p) [a, b] [] pos) Γ tInt (some (if j > i then j else i)) :=
  x_cb (call_max2 hc0) hm (by decide +kernel) (xa_cons ha (xa_cons hb xa_nil he2) he) (fun vs Hs H Q c hc e r q => by
    obtain ⟨v, u, e1, r1, r2⟩ := ys2 r
    cases (show v = .int i from r1)
    cases (show u = .int j from r2)
    subst e1
    cases hc
    exact ⟨i, j, rfl, q _ _ _ (Step.refl e) rfl⟩) hg (by decide) (by decide) he hpl
theorem pr_int : ∀ {vs : List V} {H : Hp} {xs : List Int}, Paired (fun v x => tInt.R v H x) vs xs → vs = xs.map V.int
  | _, _, _, .nil => rfl
  | _, H, _, .cons r t => by
    rw [List.map_cons, pr_int (H := H) t, show _ = V.int _ from r]
theorem pr_bl : ∀ {vs : List V} {H : Hp} {xs : List Bool}, Paired (fun v x => tBool.R v H x) vs xs → vs = xs.map V.bl
  | _, _, _, .nil => rfl
  | _, H, _, .cons r t => by
    rw [List.map_cons, pr_bl (H := H) t, show _ = V.bl _ from r]
theorem int_pr {H : Hp} : ∀ xs : List Int, Paired (fun v x => tInt.R v H x) (xs.map V.int) xs
  | [] => .nil
  | x :: xs => .cons rfl (int_pr xs)
/-- the greatest, the least -/
def maxL : List Int → Option Int
  | [] => none
  | x :: xs => some (xs.foldl max x)
def minL : List Int → Option Int
  | [] => none
  | x :: xs => some (xs.foldl min x)
theorem foldl_max : ∀ (xs : List Int) (x : Int), (xs.foldl max x = x ∨ xs.foldl max x ∈ xs) ∧ x ≤ xs.foldl max x ∧ ∀ y ∈ xs, y ≤ xs.foldl max x
  | [], x => ⟨.inl rfl, Int.le_refl _, fun y h => by simp at h⟩
  | z :: xs, x => by
    obtain ⟨h1, h2, h3⟩ := foldl_max xs (max x z)
    rw [List.foldl_cons]
    refine ⟨?_, by omega, fun y hy => ?_⟩
    · rcases h1 with h | h
      · rcases Int.le_total x z with k | k
        · exact .inr (by rw [h, Int.max_eq_right k]; exact List.mem_cons_self)
        · exact .inl (by rw [h, Int.max_eq_left k])
      · exact .inr (List.mem_cons_of_mem _ h)
    · rcases List.mem_cons.mp hy with e | e
      · subst e
        omega
      · exact h3 y e
theorem foldl_min : ∀ (xs : List Int) (x : Int), (xs.foldl min x = x ∨ xs.foldl min x ∈ xs) ∧ xs.foldl min x ≤ x ∧ ∀ y ∈ xs, xs.foldl min x ≤ y
  | [], x => ⟨.inl rfl, Int.le_refl _, fun y h => by simp at h⟩
  | z :: xs, x => by
    obtain ⟨h1, h2, h3⟩ := foldl_min xs (min x z)
    rw [List.foldl_cons]
    refine ⟨?_, by omega, fun y hy => ?_⟩
    · rcases h1 with h | h
      · rcases Int.le_total x z with k | k
        · exact .inl (by rw [h, Int.min_eq_left k])
        · exact .inr (by rw [h, Int.min_eq_right k]; exact List.mem_cons_self)
      · exact .inr (List.mem_cons_of_mem _ h)
    · rcases List.mem_cons.mp hy with e | e
      · subst e
        omega
      · exact h3 y e
theorem maxL_mem {xs : List Int} {m : Int} (h : maxL xs = some m) : m ∈ xs ∧ ∀ y ∈ xs, y ≤ m := by
  cases xs with
  | nil => cases h
  | cons x xs =>
    cases h
    obtain ⟨h1, h2, h3⟩ := foldl_max xs x
    refine ⟨?_, fun y hy => ?_⟩
    · rcases h1 with h | h
      · rw [h]
        exact List.mem_cons_self
      · exact List.mem_cons_of_mem _ h
    · rcases List.mem_cons.mp hy with e | e
      · rw [e]
        exact h2
      · exact h3 y e
theorem minL_mem {xs : List Int} {m : Int} (h : minL xs = some m) : m ∈ xs ∧ ∀ y ∈ xs, m ≤ y := by
  cases xs with
  | nil => cases h
  | cons x xs =>
    cases h
    obtain ⟨h1, h2, h3⟩ := foldl_min xs x
    refine ⟨?_, fun y hy => ?_⟩
    · rcases h1 with h | h
      · rw [h]
        exact List.mem_cons_self
      · exact List.mem_cons_of_mem _ h
    · rcases List.mem_cons.mp hy with e | e
      · rw [e]
        exact h2
      · exact h3 y e
theorem x_maxL {xs : List Int} (hm : X.mg "max" = none) (ha : XE X a Γ (tLst tInt) (some xs)) (hc0 : X.calm = true := by rfl) (hg : Gl X "max" := by rfl) (he : starEach [a] X.env = (false, eval a X.env) :: starEach [] X.env := by rfl) (hpl : (backTo pos (starEach [] X.env)).any (·.1) = false := by rfl) :
    XE X (.Call (.Name "max" p) [a] [] pos) Γ tInt (maxL xs) :=
  x_cb (cr_max hc0) hm (by decide +kernel) (xa_cons ha xa_nil he) (fun vs Hs H Q c hc e r q => by
    obtain ⟨v, e1, l, us, r1, r2, r3⟩ := ys1 r
    subst e1 r1
    rw [pr_int r3] at r2
    obtain ⟨m1, m2⟩ := maxL_mem hc
    refine ⟨l, xs, rfl, SqL.of (e _ _ r2), List.length_pos_of_mem m1, fun m h1 h2 => ?_⟩
    have e2 : m = c := by
      have := h2 c m1
      have := m2 m h1
      omega
    rw [e2]
    exact q _ _ _ (Step.refl e) rfl) hg (by decide) (by decide) he hpl
theorem x_sum {xs : List Int} (hm : X.mg "sum" = none) (ha : XE X a Γ (tLst tInt) (some xs)) (hc0 : X.calm = true := by rfl) (hg : Gl X "sum" := by rfl) (he : starEach [a] X.env = (false, eval a X.env) :: starEach [] X.env := by rfl) (hpl : (backTo pos (starEach [] X.env)).any (·.1) = false := by rfl) :
    XE X (.Call (.Name "sum" p) [a] [] pos) Γ tInt (some xs.sum) :=
  x_cb (cr_sum hc0) hm (by decide +kernel) (xa_cons ha xa_nil he) (fun vs Hs H Q c hc e r q => by
    obtain ⟨v, e1, l, us, r1, r2, r3⟩ := ys1 r
    subst e1 r1
    rw [pr_int r3] at r2
    cases hc
    exact ⟨l, xs, rfl, SqL.of (e _ _ r2), q _ _ _ (Step.refl e) rfl⟩) hg (by decide) (by decide) he hpl
theorem x_all {xs : List Bool} (hm : X.mg "all" = none) (ha : XE X a Γ (tLst tBool) (some xs)) (hc0 : X.calm = true := by rfl) (hg : Gl X "all" := by rfl) (he : starEach [a] X.env = (false, eval a X.env) :: starEach [] X.env := by rfl) (hpl : (backTo pos (starEach [] X.env)).any (·.1) = false := by rfl) :
    XE X (.Call (.Name "all" p) [a] [] pos) Γ tBool (some (xs.all id)) :=
  x_cb (cr_all hc0) hm (by decide +kernel) (xa_cons ha xa_nil he) (fun vs Hs H Q c hc e r q => by
    obtain ⟨v, e1, l, us, r1, r2, r3⟩ := ys1 r
    subst e1 r1
    rw [pr_bl r3] at r2
    cases hc
    exact ⟨l, xs, rfl, SqL.of (e _ _ r2), q _ _ _ (Step.refl e) rfl⟩) hg (by decide) (by decide) he hpl
/-- tuple(list), tuple(tuple), list(list) -/
theorem x_tuple {T : Ty α} {xs : List α} (hm : X.mg "tuple" = none) (ha : XE X a Γ (tLst T) (some xs)) (hg : Gl X "tuple" := by rfl) (he : starEach [a] X.env = (false, eval a X.env) :: starEach [] X.env := by rfl) (hpl : (backTo pos (starEach [] X.env)).any (·.1) = false := by rfl) :
    XE X (.Call (.Name "tuple" p) [a] [] pos) Γ (tTup T) (some xs) :=
  x_ct call_tuple_of hm (by decide +kernel) (xa_cons ha xa_nil he) (fun vs Hs H Q c hc e r q => by
    obtain ⟨v, e1, l, us, r1, r2, r3⟩ := ys1 r
    subst e1 r1
    cases hc
    exact ⟨l, us, rfl, .inl ⟨SqL.of (e _ _ r2), fun z hz => q _ _ _ (Step.new e hz) ⟨z, us, rfl, upd_same, pr_mono (Ex.new (e.none hz)) r3⟩⟩⟩) hg (by decide) (by decide) he hpl
theorem x_tupleT {T : Ty α} {xs : List α} (hm : X.mg "tuple" = none) (ha : XE X a Γ (tTup T) (some xs)) (hg : Gl X "tuple" := by rfl) (he : starEach [a] X.env = (false, eval a X.env) :: starEach [] X.env := by rfl) (hpl : (backTo pos (starEach [] X.env)).any (·.1) = false := by rfl) :
    XE X (.Call (.Name "tuple" p) [a] [] pos) Γ (tTup T) (some xs) :=
  x_ct call_tuple_of hm (by decide +kernel) (xa_cons ha xa_nil he) (fun vs Hs H Q c hc e r q => by
    obtain ⟨v, e1, l, us, r1, r2, r3⟩ := ys1 r
    subst e1 r1
    cases hc
    exact ⟨l, us, rfl, .inr ⟨SqT.of (e _ _ r2), q _ _ _ (Step.refl e) ⟨l, us, rfl, r2, r3⟩⟩⟩) hg (by decide) (by decide) he hpl
theorem x_listL {T : Ty α} {xs : List α} (hm : X.mg "list" = none) (ha : XE X a Γ (tLst T) (some xs)) (hg : Gl X "list" := by rfl) (he : starEach [a] X.env = (false, eval a X.env) :: starEach [] X.env := by rfl) (hpl : (backTo pos (starEach [] X.env)).any (·.1) = false := by rfl) :
    XE X (.Call (.Name "list" p) [a] [] pos) Γ (tLst T) (some xs) :=
  x_ct call_list_of hm (by decide +kernel) (xa_cons ha xa_nil he) (fun vs Hs H Q c hc e r q => by
    obtain ⟨v, e1, l, us, r1, r2, r3⟩ := ys1 r
    subst e1 r1
    cases hc
    exact ⟨l, us, rfl, .inl (SqL.of (e _ _ r2)), fun z hz => q _ _ _ (Step.new e hz) ⟨z, us, rfl, upd_same, pr_mono (Ex.new (e.none hz)) r3⟩⟩) hg (by decide) (by decide) he hpl
theorem x_listT {T : Ty α} {xs : List α} (hm : X.mg "list" = none) (ha : XE X a Γ (tTup T) (some xs)) (hg : Gl X "list" := by rfl) (he : starEach [a] X.env = (false, eval a X.env) :: starEach [] X.env := by rfl) (hpl : (backTo pos (starEach [] X.env)).any (·.1) = false := by rfl) :
    XE X (.Call (.Name "list" p) [a] [] pos) Γ (tLst T) (some xs) :=
  x_ct call_list_of hm (by decide +kernel) (xa_cons ha xa_nil he) (fun vs Hs H Q c hc e r q => by
    obtain ⟨v, e1, l, us, r1, r2, r3⟩ := ys1 r
    subst e1 r1
    cases hc
    exact ⟨l, us, rfl, .inr (SqT.of (e _ _ r2)), fun z hz => q _ _ _ (Step.new e hz) ⟨z, us, rfl, upd_same, pr_mono (Ex.new (e.none hz)) r3⟩⟩) hg (by decide) (by decide) he hpl
end

/-! ### in, not in: flat values -/
/-- flat values: == of them decides equality -/
structure FE {α β : Type} (A : Ty α) (B : Ty β) (f : α → β → Bool) : Prop where
  fa : ∀ u H x, A.R u H x → flatV u = true
  fb : ∀ v H y, B.R v H y → flatV v = true
  ev : ∀ u v H x y, A.R u H x → B.R v H y → eqV v u = f x y
theorem fe_int : FE tInt tInt fun x y => decide (x = y) := ⟨fun u H x h => by
  rw [show u = .int x from h] <;> rfl, fun u H x h => by
  rw [show u = .int x from h] <;> rfl, fun u v H x y h1 h2 => by
  rw [show u = .int x from h1, show v = .int y from h2]
  show (y == x) = decide (x = y)
  by_cases e : x = y
  · subst e
    simp
  · rw [decide_eq_false e]
    exact beq_eq_false_iff_ne.mpr (Ne.symm e)⟩
theorem fe_oi : FE (tOpt tInt) tInt fun x y => decide (x = some y) := ⟨fun u H x h => by
  cases x with
  | none => rw [show u = .non from h] <;> rfl
  | some x => rw [show u = .int x from h.2] <;> rfl, fun u H x h => by
  rw [show u = .int x from h] <;> rfl, fun u v H x y h1 h2 => by
  rw [show v = .int y from h2]
  cases x with
  | none => rw [show u = .non from h1] <;> rfl
  | some x =>
    rw [show u = .int x from h1.2]
    show (y == x) = decide (some x = some y)
    by_cases e : x = y
    · subst e
      simp
    · rw [decide_eq_false fun z => e (Option.some.inj z)]
      exact beq_eq_false_iff_ne.mpr (Ne.symm e)⟩
section
variable {X : Cx} {Γ : Cn} {a b : Expr} {pos : Pos} {α β : Type} {A : Ty α} {B : Ty β} {x : α} {ys : List β} {f : α → β → Bool}
theorem fe_in (h : FE A B f) {u : V} {H : Hp} (r : A.R u H x) : ∀ {vs : List V} {ys : List β}, Paired (fun v y => B.R v H y) vs ys → inV u vs = ys.any (f x) ∧ vs.all flatV = true
  | _, _, .nil => ⟨rfl, rfl⟩
  | _, _, .cons (a := v) (b := y) (l₁ := vs) (l₂ := ys) r1 t => by
    obtain ⟨h1, h2⟩ := fe_in h r t
    refine ⟨?_, ?_⟩
    · show (eqV v u || inV u vs) = (f x y || ys.any (f x))
      rw [h1, h.ev u v H x y r r1]
    · rw [List.all_cons, h.fb v H y r1, h2] <;> rfl
theorem xr_in {neg : Bool} {u v : V} {Hs H : Hp} {Q : VK} (h : FE A B f) (e : Ex Hs H) (r : A.R u Hs x) (r2 : (tLst B).R v Hs ys ∨ (tTup B).R v Hs ys) {K : PySem.W.Frag} (q : Q (.bl (if neg = true then !ys.any (f x) else ys.any (f x))) H) : rIn K neg u v H Q := by
  rcases r2 with ⟨p, vs, r1, r2, r3⟩ | ⟨p, vs, r1, r2, r3⟩
  · obtain ⟨h1, h2⟩ := fe_in h r r3
    exact ⟨p, vs, r1, .inl (SqL.of (e _ _ r2)), h.fa u Hs x r, h2, by rw [h1]; exact q⟩
  · obtain ⟨h1, h2⟩ := fe_in h r r3
    exact ⟨p, vs, r1, .inr (SqT.of (e _ _ r2)), h.fa u Hs x r, h2, by rw [h1]; exact q⟩
theorem x_inL (h : FE A B f) (ha : XE X a Γ A (some x)) (hb : XE X b Γ (tLst B) (some ys)) (hk : behindInMarks .In b = false := by rfl) : XE X (.Compare a [.In] [b] pos) Γ tBool (some (ys.any (f x))) :=
  xe_cmp op_in_seq hk ha hb fun u v Hs H Q c hm e r1 r2 q => by
    cases hm
    exact xr_in (neg := false) h e r1 (.inl r2) (q _ _ (Step.refl e))
theorem xt_inL (h : FE A B f) (ha : XE X a Γ A (some x)) (hb : XE X b Γ (tLst B) (some ys)) (hk : behindInMarks .In b = false := by rfl) : XT X (.Compare a [.In] [b] pos) Γ (some (ys.any (f x))) :=
  xt_cmp op_in_seq hk ha hb fun u v Hs H Q c hm e r1 r2 q => by
    cases hm
    exact xr_in (neg := false) h e r1 (.inl r2) (q _ _ (Step.refl e))
theorem xt_niL (h : FE A B f) (ha : XE X a Γ A (some x)) (hb : XE X b Γ (tLst B) (some ys)) (hk : behindInMarks .NotIn b = false := by rfl) : XT X (.Compare a [.NotIn] [b] pos) Γ (some (!ys.any (f x))) :=
  xt_cmp op_notIn_seq hk ha hb fun u v Hs H Q c hm e r1 r2 q => by
    cases hm
    exact xr_in (neg := true) h e r1 (.inl r2) (q _ _ (Step.refl e))
theorem x_inT (h : FE A B f) (ha : XE X a Γ A (some x)) (hb : XE X b Γ (tTup B) (some ys)) (hk : behindInMarks .In b = false := by rfl) : XE X (.Compare a [.In] [b] pos) Γ tBool (some (ys.any (f x))) :=
  xe_cmp op_in_seq hk ha hb fun u v Hs H Q c hm e r1 r2 q => by
    cases hm
    exact xr_in (neg := false) h e r1 (.inr r2) (q _ _ (Step.refl e))
theorem xt_inT (h : FE A B f) (ha : XE X a Γ A (some x)) (hb : XE X b Γ (tTup B) (some ys)) (hk : behindInMarks .In b = false := by rfl) : XT X (.Compare a [.In] [b] pos) Γ (some (ys.any (f x))) :=
  xt_cmp op_in_seq hk ha hb fun u v Hs H Q c hm e r1 r2 q => by
    cases hm
    exact xr_in (neg := false) h e r1 (.inr r2) (q _ _ (Step.refl e))
theorem xt_niT (h : FE A B f) (ha : XE X a Γ A (some x)) (hb : XE X b Γ (tTup B) (some ys)) (hk : behindInMarks .NotIn b = false := by rfl) : XT X (.Compare a [.NotIn] [b] pos) Γ (some (!ys.any (f x))) :=
  xt_cmp op_notIn_seq hk ha hb fun u v Hs H Q c hm e r1 r2 q => by
    cases hm
    exact xr_in (neg := true) h e r1 (.inr r2) (q _ _ (Step.refl e))
end
end Pg
set_option Elab.async false
set_option linter.all false
set_option maxRecDepth 100000
set_option maxHeartbeats 4000000
namespace PySem
open Sem (wp)
theorem meets_enumerate_newT (l : Addr) (items : Array Value) :
    Meets (Builtin.«enumerate.__new__» ⟨[.type "enumerate", .ref l], []⟩) (fun _ R s => s.heap.IsTuple l items ∧
      R (.ok (.ret (.ref (s.heap.push { cls := .type "tuple_iterator", data := .fields #[.ref l, .int 0 0] }).objs.size)))
        { s with heap := (s.heap.push { cls := .type "tuple_iterator", data := .fields #[.ref l, .int 0 0] }).push { cls := .type "enumerate", data := .fields #[.none, .bool false, .ref s.heap.objs.size, rawInt 0, .none, .none] } }) :=
  .of_wp fun prog w A R s h => by
    obtain ⟨hp, g, d, tk, os⟩ := s; obtain ⟨hl, h⟩ := h
    have hsub := sub_enumerate
    have hL : Heap.IsTuple (Shared.heap ⟨hp, g, d, tk, os⟩) l items := hl
    wp_walk using wpAny_pyIter_tuple hL
    refine wpAny_stack_any fun st => wpAny_pure ?_
    split
    · rename_i c _ _ _ _ _
      cases (c == Value.type "enumerate")
      · wp_walk using wpAny_pyIter_tuple hL
        exact ⟨_, rfl, h⟩
      · wp_walk using wpAny_pyIter_tuple hL
        exact ⟨_, rfl, h⟩
    · wp_walk using wpAny_pyIter_tuple hL
      exact ⟨_, rfl, h⟩
theorem call_enumerate_tuple {prog : Program} {w : World} {A : Around} {E : Value → Shared → Prop} {s : Shared} {l : Addr} {items : Array Value} {Q : Value → Shared → Prop} (hL : s.heap.IsTuple l items)
    (h : ∀ h', IsEnum h' (s.heap.objs.size + 1) s.heap.objs.size 0 .none → h'.IsTupleIter s.heap.objs.size l 0 → h'.objs.size = s.heap.objs.size + 2 →
      (∀ b o, s.heap.get? b = some o → h'.get? b = some o) → Q (.ref (s.heap.objs.size + 1)) { s with heap := h' }) :
    wpAny (model prog w) A (call (.type "enumerate") [.ref l]) Q E s := by
  refine callType_new F.called_enumerate (by decide) (F.typeCall_enumerate_1 _) (F.newCall_enumerate_1 _) (fun obj => F.args_object_init_2 obj _) F.entry_enumerate_new
    (meets_enumerate_newT l items) ⟨hL, ?_⟩
  have hz : (s.heap.push { cls := .type "tuple_iterator", data := .fields #[.ref l, .int 0 0] }).objs.size = s.heap.objs.size + 1 := Heap.size_push ..
  show _ ∧ _
  rw [hz]
  have he : IsEnum ((s.heap.push { cls := .type "tuple_iterator", data := .fields #[.ref l, .int 0 0] }).push
      { cls := .type "enumerate", data := .fields #[.none, .bool false, .ref s.heap.objs.size, rawInt 0, .none, .none] }) (s.heap.objs.size + 1) s.heap.objs.size 0 .none := by
    have := Heap.get?_push_size (s.heap.push { cls := .type "tuple_iterator", data := .fields #[.ref l, .int 0 0] })
      (o := { cls := .type "enumerate", data := .fields #[.none, .bool false, .ref s.heap.objs.size, rawInt 0, .none, .none] }) rfl
    rw [hz] at this; exact this
  refine ⟨⟨_, he, rfl⟩, h _ he ⟨_, Heap.get?_push_of_some _ (Heap.get?_push_size _ rfl), rfl, rfl⟩ (by rw [Heap.size_push, hz]) fun b o x => Heap.get?_push_of_some _ (Heap.get?_push_of_some _ x)⟩
end PySem
namespace Pg
open PySem PySem.Spec PyProof.Rows L2 RZ

/-! ### enumerate(tuple) -/
def IteT (K : PySem.W.Frag) (a : Addr) : It :=
  ⟨fun i H => ∃ (xs : List V) (x : V), SqT K H a xs ∧ xs[i]? = some x, fun i H v H' => ∃ T x, v = .ref T ∧ H T = none ∧ H' = upd H T (.tup [.int (i : Nat), x]) ∧ ∀ xs, SqT K H a xs → xs[i]? = some x, fun i H => ∃ xs : List V, SqT K H a xs ∧ xs.length ≤ i⟩
theorem turn_enumT {P : Program} {w : World} {K : PySem.W.Frag} {elts : List Expr} {kk : Nat} {tpos : Pos} (a e it : Addr) :
    Turn P w K (.Tuple elts kk tpos) (IteT K a) [e, it] e (fun i h => (∃ old, IsEnum h e it ((i : Nat) : Int) old) ∧ h.IsTupleIter it a i ∧ e ≠ it ∧ e ≠ a ∧ it ≠ a) where
  mem := by simp
  obj := fun i h st b hb => by
    obtain ⟨⟨old, he⟩, ⟨o, ho, hc, hd⟩, _⟩ := st
    have e' : b = e ∨ b = it := by simpa using hb
    rcases e' with z | z
    · rw [z]; exact ⟨_, he, fun v q => nomatch q⟩
    · rw [z]; exact ⟨o, ho, fun v q => by rw [hd] at q; cases q⟩
  keep := fun i h h' st k => let ⟨⟨old, he⟩, hi, hne⟩ := st; ⟨⟨old, k e (by simp) _ he⟩, hi.at fun o q => k it (by simp) o q, hne⟩
  item := by
    intro X hP hw hK hc i pins s σ H E I hf st hg
    subst hP hw hK
    obtain ⟨⟨old, he⟩, hit, hne, hea, hia⟩ := st
    obtain ⟨xs, x, hq, hx⟩ := hg
    obtain ⟨its, rv, p, hz⟩ := I.tuple hq
    obtain ⟨u, hu, ru⟩ := rv.get hx
    have hel : e < s.heap.objs.size := Heap.lt_size he
    have hil : it < s.heap.objs.size := by obtain ⟨_, q, _⟩ := hit; exact Heap.lt_size q
    have hh : X.A.in1.handled = none := I.ok.hd hc
    have D := Draws.tuple (prog := X.prog) (w := X.w) hh it a (Ne.symm hia) its.toArray
    have hlt : i < its.toArray.size := by
      have := (List.getElem?_eq_some_iff.mp hu).1
      simpa using this
    refine wpAny_pyNext_enum_itemD D he ⟨hit, p⟩ hlt hne (by
      intro z
      rcases List.mem_cons.mp z with z | z
      · exact hne z
      · exact hea (by simpa using z)) fun y h' tk hy ho st' hT hsz hk => ?_
    have ey : y = u := by
      have q : its.toArray[i]? = some y := hy
      have q2 : its[i]? = some y := by simpa using q
      rw [hu] at q2
      exact (Option.some.inj q2).symm
    subst ey
    refine ⟨_, rfl, wpAny_letOwnedTupleGo_enum (s := { s with heap := h', toks := tk + 1 }) ho fun h'' he' sb => ?_⟩
    have hT2 : h''.get? s.heap.objs.size = some { cls := .type "tuple", data := .seq #[.int i tk, y] } := (sb.2 _ (Nat.ne_of_gt hel)).trans hT
    have new : ObjOk X.prog X.w (upd H s.heap.objs.size (.tup [.int (i : Nat), x])) h'' s.heap.objs.size (.tup [.int (i : Nat), x]) :=
      ⟨by show 2 ≤ sizeLine; decide, [.int i tk, y], .cons ⟨_, rfl⟩ (.cons ru .nil), ⟨_, hT2, rfl, _, rfl⟩⟩
    have I1 : Inv X pins σ (upd H s.heap.objs.size (.tup [.int (i : Nat), x])) { s with heap := h'', toks := tk + 1 } :=
      I.turnedNew (ch := [e, it]) (fun b ob hb q => (sb.2 b (fun z => hb (by simp [z]))).trans (hk b ob (fun z => hb (by simp [z])) (fun z => hb (by simp [z])) q)) hf (Nat.le_refl _) new
    refine ⟨.ref s.heap.objs.size, _, I1, rfl, ⟨_, x, rfl, I.hok.fresh (Nat.le_refl _), rfl, fun ys hy => by rw [I.tuple_inj hy hq]; exact hx⟩, ⟨⟨y, ?_⟩, st'.1.at fun o q => (sb.2 it (Ne.symm hne)).trans q, hne, hea, hia⟩, fun b hb => ?_⟩
    · have e1 : ((i + 1 : Nat) : Int) = (i : Int) + 1 := by omega
      rw [e1]; exact he'
    · have hb' : b < s.heap.objs.size := by
        have e' : b = e ∨ b = it := by simpa using hb
        rcases e' with z | z
        · rw [z]; exact hel
        · rw [z]; exact hil
      rw [upd_ne (Nat.ne_of_lt hb')]
      exact (hf b hb).1
  done := by
    intro X hP hw hK hc i pins s σ H E I hf st hg
    subst hP hw hK
    obtain ⟨⟨old, he⟩, hit, hne, hea, hia⟩ := st
    obtain ⟨xs, hq, hx⟩ := hg
    obtain ⟨its, rv, p, hz⟩ := I.tuple hq
    obtain ⟨f0, f1, f2, f3, f4, f5⟩ := hf it (by simp)
    have hl := rv.length
    have hh : X.A.in1.handled = none := I.ok.hd hc
    have D := Draws.tuple (prog := X.prog) (w := X.w) hh it a (Ne.symm hia) its.toArray
    have hsz : its.toArray.size ≤ i := by
      rw [List.size_toArray]
      omega
    unfold pyNext
    refine wpAny_bind (wpAny_attempt (wpAny_callSpecial?_slot (name := Str.ofString "__next__") (show s.TypeIs (.ref e) "enumerate" from ⟨_, he, rfl⟩) F.slot_enumerate_next
      (wpAny_call_entry F.slot_enumerate_next (show s.TypeIs (.ref e) "enumerate" from ⟨_, he, rfl⟩) F.entry_enumerate_next ?_ (F.args_enumerate_next_1 _))))
    show wpAny _ _ (field (.ref e) 2 >>= _) _ _ _
    refine wpAny_bind (wpAny_field he rfl (x := .ref it) rfl ?_)
    refine wpAny_bind (wpAny_nextOf_tuple_end (A := _) (by exact I.ok.hd hc) hit (show s.heap.IsTuple a its.toArray from p) (by simpa using hsz) fun h' x he' hx' => ?_)
    obtain ⟨o, ho, hc'⟩ := hx'
    refine wpAny_bind (wpAny_isInstance (T := "StopIteration") (b := true) ⟨o, ho, hc'⟩ isSubtype_stop ?_)
    exact wpAny_pure ⟨rfl, I.turned (t' := s.toks) (fun b o hb q => he' b o hb q) f0 f1 f3 f4 f5⟩
  self := fun A i s Q E st h => let ⟨⟨_, he⟩, _⟩ := st; wpAny_pyIter_enum he h
def iEnumT (K : PySem.W.Frag) (ta : TA) : TI := fun σ H R => ta σ H fun vs H1 => ∃ a xs, vs = [.ref a] ∧ SqT K H1 a xs ∧ R (IteT K a) H1
theorem pi_enumT {X : Cx} {e : Expr} {ta : TA} {p pos tpos : Pos} {elts : List Expr} {kk : Nat} (hg : Gl X "enumerate") (hm : X.mg "enumerate" = none) (ha : PA X [e] ta) (hs : starEach [e] X.env = [(false, eval e X.env)] := by rfl) :
    PI X (.Tuple elts kk tpos) (.Call (.Name "enumerate" p) [e] [] pos) (iEnumT X.K ta) := by
  refine ⟨fun pins s σ H R I h => ?_⟩
  refine Call_ (ld_blt I hg hm boot_enumerate (PyProof.Rows.callWith_type1 (thn (ha.run pos pins s σ H _ I h) fun us s1 ⟨vs, H1, I1, r1, q1⟩ => ?_) hs rfl))
  obtain ⟨a, xs, ex, hq, q⟩ := q1
  subst ex
  cases r1 with
  | cons r rr =>
    cases rr
    cases r
    obtain ⟨its, rv, p', hz⟩ := I1.tuple hq
    have hal : a < s1.heap.objs.size := p'.lt
    refine call_enumerate_tuple (show s1.heap.IsTuple a its.toArray from p') fun h' he hit hsz hk => wpAny_pyIter_enum he ?_
    have I2 : Inv X pins σ H1 { s1 with heap := h' } := I1.kept (t' := s1.toks) hk
    refine ⟨s1.heap.objs.size + 1, [s1.heap.objs.size + 1, s1.heap.objs.size], _, _, H1, rfl, I2, turn_enumT a (s1.heap.objs.size + 1) s1.heap.objs.size, ⟨⟨.none, he⟩, hit, Nat.succ_ne_self _, Nat.ne_of_gt (Nat.lt_succ_of_lt hal), Nat.ne_of_gt hal⟩, fun b hb => ?_, q⟩
    have e' : b = s1.heap.objs.size + 1 ∨ b = s1.heap.objs.size := by simpa using hb
    have hle : s1.heap.objs.size ≤ b := by
      rcases e' with z | z
      · rw [z]; exact Nat.le_add_right _ _
      · rw [z]; exact Nat.le_refl _
    exact I1.fpOk hle (I1.hok.fresh hle)

/-! ### enumerate, zip in the typed layer -/
/-- the items with their places -/
def enumL {α : Type} (xs : List α) : List (Int × α × Unit) := xs.zipIdx.map fun p => ((p.2 : Int), p.1, ())
def zipL {α β : Type} (xs : List α) (ys : List β) : List (α × β × Unit) := (xs.zip ys).map fun p => (p.1, p.2, ())
theorem enumL_len {α : Type} (xs : List α) : (enumL xs).length = xs.length := by
  unfold enumL
  rw [List.length_map, List.length_zipIdx]
theorem enumL_get {α : Type} {xs : List α} {i : Nat} {x : Int × α × Unit} (h : (enumL xs)[i]? = some x) : x.1 = (i : Int) ∧ xs[i]? = some x.2.1 := by
  unfold enumL at h
  rw [List.getElem?_map, List.getElem?_zipIdx] at h
  cases e : xs[i]? with
  | none =>
    rw [e] at h
    cases h
  | some z =>
    rw [e] at h
    cases h
    exact ⟨by simp, rfl⟩
theorem zipL_get {α β : Type} {xs : List α} {ys : List β} {i : Nat} {x : α × β × Unit} (h : (zipL xs ys)[i]? = some x) : xs[i]? = some x.1 ∧ ys[i]? = some x.2.1 := by
  unfold zipL at h
  rw [List.getElem?_map] at h
  cases e : (xs.zip ys)[i]? with
  | none =>
    rw [e] at h
    cases h
  | some z =>
    rw [e] at h
    cases h
    exact List.getElem?_zip_eq_some.mp e
theorem zipL_len {α β : Type} (xs : List α) (ys : List β) : (zipL xs ys).length = min xs.length ys.length := by
  unfold zipL
  rw [List.length_map, List.length_zip]
section
variable {X : Cx} {Γ : Cn} {e a b : Expr} {p pos tpos : Pos} {elts : List Expr} {kk : Nat} {α β : Type} {T : Ty α} {U : Ty β} {xs : List α} {ys : List β}
theorem walk_eT {K : PySem.W.Frag} {a : Addr} {vs : List V} {Hs0 : Hp} (h : Hs0 a = some (.tup vs)) (q : Paired (fun v x => T.R v Hs0 x) vs xs) : Walks (IteT K a) (tPair tInt T) (enumL xs) Hs0 := fun Hs H i e1 e2 => by
  have h2 : SqT K H a vs := SqT.of (e2 _ _ (e1 _ _ h))
  refine ⟨fun hi => ⟨vs, h2, by rw [Paired.length q]; rw [enumL_len] at hi; exact hi⟩, fun x hx => ?_⟩
  obtain ⟨x1, x2⟩ := enumL_get hx
  obtain ⟨v, hv, r⟩ := pr_getR q x2
  refine ⟨⟨vs, v, h2, hv⟩, fun y H' ⟨t, u, ey, ht, eh, z⟩ => ?_⟩
  subst ey eh
  have q2 := z vs h2
  rw [hv] at q2
  cases q2
  exact ⟨upd Hs t (.tup [.int (i : Nat), v]), Step.new e2 ht, t, _, rfl, upd_same, .int (i : Nat), [v], rfl, by rw [x1] <;> rfl, v, [], rfl, T.mono (e1.trans (Ex.new (e2.none ht))) r, rfl⟩
theorem walk_eL {K : PySem.W.Frag} {a : Addr} {vs : List V} {Hs0 : Hp} (h : Hs0 a = some (.lst vs)) (q : Paired (fun v x => T.R v Hs0 x) vs xs) : Walks (Ite K a) (tPair tInt T) (enumL xs) Hs0 := fun Hs H i e1 e2 => by
  have h2 : SqL K H a vs := SqL.of (e2 _ _ (e1 _ _ h))
  refine ⟨fun hi => ⟨vs, h2, by rw [Paired.length q]; rw [enumL_len] at hi; exact hi⟩, fun x hx => ?_⟩
  obtain ⟨x1, x2⟩ := enumL_get hx
  obtain ⟨v, hv, r⟩ := pr_getR q x2
  refine ⟨⟨vs, v, h2, hv⟩, fun y H' ⟨t, u, ey, ht, eh, z⟩ => ?_⟩
  subst ey eh
  have q2 := z vs h2
  rw [hv] at q2
  cases q2
  exact ⟨upd Hs t (.tup [.int (i : Nat), v]), Step.new e2 ht, t, _, rfl, upd_same, .int (i : Nat), [v], rfl, by rw [x1] <;> rfl, v, [], rfl, T.mono (e1.trans (Ex.new (e2.none ht))) r, rfl⟩
theorem xi_enumT (hm : X.mg "enumerate" = none) (ha : XE X a Γ (tTup T) (some xs)) (hg : Gl X "enumerate" := by rfl) (hs : starEach [a] X.env = [(false, eval a X.env)] := by rfl) (hs2 : starEach [a] X.env = (false, eval a X.env) :: starEach [] X.env := by rfl) : XI X (.Tuple elts kk tpos) (.Call (.Name "enumerate" p) [a] [] pos) Γ (tPair tInt T) (enumL xs) :=
  ⟨pi_imp (pi_enumT hg hm (pa_cons ha.pe pa_nil hs2) hs) fun σ H R ⟨B, Hs, w, q⟩ => ⟨B, Hs, xs, w, rfl, fun v Hs' H' s ⟨l, vs, r1, r2, r3⟩ bd => by
    subst r1
    exact ⟨l, vs, rfl, SqT.of (s.ss _ _ r2), q _ Hs' H' s (by rw [enumL_len, ← Paired.length r3]; exact bd l vs rfl (.inr (SqT.of (s.ss _ _ r2)))) (walk_eT r2 r3)⟩⟩⟩
theorem xi_enumL (hm : X.mg "enumerate" = none) (ha : XE X a Γ (tLst T) (some xs)) (hg : Gl X "enumerate" := by rfl) (hs : starEach [a] X.env = [(false, eval a X.env)] := by rfl) (hs2 : starEach [a] X.env = (false, eval a X.env) :: starEach [] X.env := by rfl) : XI X (.Tuple elts kk tpos) (.Call (.Name "enumerate" p) [a] [] pos) Γ (tPair tInt T) (enumL xs) :=
  ⟨pi_imp (pi_enum hg hm (pa_cons ha.pe pa_nil hs2) hs) fun σ H R ⟨B, Hs, w, q⟩ => ⟨B, Hs, xs, w, rfl, fun v Hs' H' s ⟨l, vs, r1, r2, r3⟩ bd => by
    subst r1
    exact ⟨l, vs, rfl, SqL.of (s.ss _ _ r2), q _ Hs' H' s (by rw [enumL_len, ← Paired.length r3]; exact bd l vs rfl (.inl (SqL.of (s.ss _ _ r2)))) (walk_eL r2 r3)⟩⟩⟩
theorem walk_zT {K : PySem.W.Frag} {a b : Addr} {vs us : List V} {Hs0 : Hp} (h : Hs0 a = some (.tup vs)) (q : Paired (fun v x => T.R v Hs0 x) vs xs) (h' : Hs0 b = some (.tup us)) (q' : Paired (fun v x => U.R v Hs0 x) us ys) : Walks (ItzT K a b) (tPair T U) (zipL xs ys) Hs0 := fun Hs H i e1 e2 => by
  have h2 : SqT K H a vs := SqT.of (e2 _ _ (e1 _ _ h))
  have h3 : SqT K H b us := SqT.of (e2 _ _ (e1 _ _ h'))
  refine ⟨fun hi => ⟨vs, us, h2, h3, by rw [Paired.length q, Paired.length q']; rw [zipL_len] at hi; omega⟩, fun x hx => ?_⟩
  obtain ⟨x1, x2⟩ := zipL_get hx
  obtain ⟨v, hv, r⟩ := pr_getR q x1
  obtain ⟨u, hu, r'⟩ := pr_getR q' x2
  refine ⟨⟨vs, us, v, u, h2, h3, hv, hu⟩, fun y H' ⟨t, v', u', ey, ht, eh, z, z'⟩ => ?_⟩
  subst ey eh
  have q2 := z vs h2
  rw [hv] at q2
  cases q2
  have q3 := z' us h3
  rw [hu] at q3
  cases q3
  have ex := e1.trans (Ex.new (o := .tup [v, u]) (e2.none ht))
  exact ⟨upd Hs t (.tup [v, u]), Step.new e2 ht, t, _, rfl, upd_same, v, [u], rfl, T.mono ex r, u, [], rfl, U.mono ex r', rfl⟩
theorem xi_zipT (hm : X.mg "zip" = none) (ha : XE X a Γ (tTup T) (some xs)) (hb : XE X b Γ (tTup U) (some ys)) (hg : Gl X "zip" := by rfl) (hs : starEach [a, b] X.env = (false, eval a X.env) :: starEach [b] X.env := by rfl) (hs2 : starEach [b] X.env = (false, eval b X.env) :: starEach [] X.env := by rfl)
    (hpl : (backTo pos (starEach [b] X.env)).any (·.1) = false := by rfl) : XI X (.Tuple elts kk tpos) (.Call (.Name "zip" p) [a, b] [] pos) Γ (tPair T U) (zipL xs ys) :=
  ⟨pi_imp (pi_zipA hg hm (pa_cons ha.pe (pa_cons hb.raw pa_nil hs2) hs) hs hpl) fun σ H R ⟨B, Hs, w, q⟩ => ⟨B, Hs, xs, w, rfl, fun v Hs' H' s ⟨l, vs, r1, r2, r3⟩ bd => ⟨B, Hs', ys, w.step s, rfl, fun v2 Hs2 H2 s2 ⟨l2, us, t1, t2, t3⟩ => by
    subst r1 t1
    have k2 := s2.ss _ _ (s2.es _ _ r2)
    refine ⟨l, l2, vs, us, rfl, .inr ⟨SqT.of k2, SqT.of (s2.ss _ _ t2), q _ Hs2 H2 (s.trans s2) ?_ (walk_zT (s2.es _ _ r2) (pr_mono s2.es r3) t2 t3)⟩⟩
    have z := bd l vs rfl (.inr (SqT.of (s.ss _ _ r2)))
    rw [zipL_len, ← Paired.length r3]
    omega⟩⟩⟩
end
end Pg
set_option Elab.async false
set_option linter.all false
set_option maxRecDepth 100000
set_option maxHeartbeats 4000000
namespace Pg
open PySem PySem.Spec PyProof.Rows L2

/-! ### lists that are being made -/
def del (H : Hp) (l : Addr) : Hp := fun a => if a = l then none else H a
theorem del_ne {H : Hp} {l a : Addr} (h : a ≠ l) : del H l a = H a := by
  unfold del
  rw [if_neg h]
theorem del_at {H : Hp} {l : Addr} : del H l l = none := by
  unfold del
  rw [if_pos rfl]
theorem del_some {H : Hp} {l a : Addr} {o : HO} (h : del H l a = some o) : a ≠ l ∧ H a = some o := by
  by_cases e : a = l
  · subst e
    rw [del_at] at h
    cases h
  · rw [del_ne e] at h
    exact ⟨e, h⟩
/-- a type whose values do not lean on lists -/
structure Solid {α : Type} (A : Ty α) : Prop where
  so : ∀ {v H l d vs}, H l = some (.lst vs) → A.R v H d → A.R v (del H l) d
theorem so_int : Solid tInt := ⟨fun _ h => h⟩
theorem so_bl : Solid tBool := ⟨fun _ h => h⟩
theorem so_str : Solid tStr := ⟨fun _ h => h⟩
theorem so_non : Solid tNon := ⟨fun _ h => h⟩
theorem so_opt {α : Type} {A : Ty α} (s : Solid A) : Solid (tOpt A) := ⟨fun {v H l d vs} e h => by
  cases d with
  | none => exact h
  | some d => exact ⟨h.1, s.so e h.2⟩⟩
theorem so_tup {α : Type} {A : Ty α} (s : Solid A) : Solid (tTup A) := ⟨fun {v H l d vs} e ⟨a, us, h1, h2, h3⟩ => ⟨a, us, h1, by
  rw [del_ne (ne_of h2 e fun z => nomatch z)]
  exact h2, L2.Paired.mapP h3 fun _ _ z => s.so e z⟩⟩
structure Solids {α : Type} (S : Tys α) : Prop where
  so : ∀ {v H l d vs}, H l = some (.lst vs) → S.R v H d → S.R v (del H l) d
theorem so_n : Solids ysN := ⟨fun _ h => h⟩
theorem so_c {α β : Type} {A : Ty α} {S : Tys β} (a : Solid A) (s : Solids S) : Solids (ysC A S) := ⟨fun e ⟨v, r, h1, h2, h3⟩ => ⟨v, r, h1, a.so e h2, s.so e h3⟩⟩
theorem so_tupN {α : Type} {S : Tys α} (s : Solids S) : Solid (tTupN S) := ⟨fun {v H l d vs} e ⟨a, us, h1, h2, h3⟩ => ⟨a, us, h1, by
  rw [del_ne (ne_of h2 e fun z => nomatch z)]
  exact h2, s.so e h3⟩⟩
theorem Step.thaw {Hs H Hs2 H2 : Hp} {l : Addr} {o : HO} (n : Hs l = none) (hl : H l = some o) (s : Step (upd Hs l o) H Hs2 H2) : Step Hs H (del Hs2 l) H2 := by
  refine ⟨fun a u z => ?_, s.eh, fun a u z => s.ss a u (del_some z).2, fun a u z => ?_⟩
  · have e : a ≠ l := ne_of_none z n
    rw [del_ne e]
    exact s.es a u (by rw [upd_ne e]; exact z)
  · obtain ⟨e, z⟩ := del_some z
    rcases s.nw a u z with q | q
    · rw [upd_ne e] at q
      exact .inl q
    · exact .inr q
theorem set_same {σ : L2.St} {i : Nat} {o : Option V} (h : σ[i]? = some o) : σ.set i o = σ := by
  refine List.ext_getElem? fun j => ?_
  by_cases e : i = j
  · subst e
    rw [List.getElem?_set_self (List.getElem?_eq_some_iff.mp h).1, h]
  · rw [List.getElem?_set_ne e]
section
variable {X : Cx} {ρ : List Slot} {i : Nat} {α β : Type} {T : Ty α} {A : Ty β} {ds : List α} {e : Expr} {m : Option β}
theorem W.hold {B : Bs} {σ : L2.St} {Hs H : Hp} (w : W B ⟨ρ, muL i T ds⟩ σ Hs H) : ∃ l vs, Hs l = none ∧ B.H l = none ∧ H l = some (.lst vs) ∧ σ[i]? = some (some (.ref l)) ∧ Paired (fun v x => T.R v Hs x) vs ds ∧ W B ⟨ρ.set i (.val (tLst T) ds), mu0⟩ σ (upd Hs l (.lst vs)) H := by
  obtain ⟨l, vs, h1, h2, h3, h4, h5⟩ := w.mu
  refine ⟨l, vs, h3, h2, h4, h1, h5, w.st.frz h2 ?_ h4, ?_, trivial⟩
  · cases q : B.Hs l with
    | none => rfl
    | some o =>
      rw [w.st.es l o q] at h3
      cases h3
  · have z := (w.sl.mono (Ex.new (o := .lst vs) h3)).set (s := .val (tLst T) ds) (o := some (.ref l)) ⟨.ref l, rfl, l, vs, rfl, upd_same, pr_mono (Ex.new h3) h5⟩ i
    rw [set_same h1] at z
    exact z
/-- the list is read -/
theorem x_mu (so : Solid A) (h : XE X e ⟨ρ.set i (.val (tLst T) ds), mu0⟩ A m) : XE X e ⟨ρ, muL i T ds⟩ A m := xe_mk h.raw fun B σ Hs H Q d w hm q => by
  obtain ⟨l, vs, h1, _, h2, _, _, w2⟩ := w.hold
  exact ⟨B, _, d, w2, hm, fun v Hs' H' s r => q v (del Hs' l) H' (s.thaw h1 h2) (so.so (s.es _ _ upd_same) r)⟩
theorem xt_mu {m : Option Bool} (h : XT X e ⟨ρ.set i (.val (tLst T) ds), mu0⟩ m) : XT X e ⟨ρ, muL i T ds⟩ m := xt_mk h.pt fun B σ Hs H Q d w hm q => by
  obtain ⟨l, vs, h1, _, h2, _, _, w2⟩ := w.hold
  exact ⟨B, _, d, w2, hm, fun Hs' H' s => q (del Hs' l) H' (s.thaw h1 h2)⟩
variable {S B R : Type} {Gn : S → Cn} {Gb : B → Cn} {Tr : Ty R} {mm : Option (Out S B R)} {rest : List Stmt}
/-- the list is done -/
theorem xs_hold (h : XSs X rest ⟨ρ.set i (.val (tLst T) ds), mu0⟩ Gn Gb Tr mm) : XSs X rest ⟨ρ, muL i T ds⟩ Gn Gb Tr mm := ⟨pss_imp h.pss fun D σ H ⟨Bs0, Hs, o, w, hm, k⟩ => by
  obtain ⟨l, vs, h1, _, h2, _, _, w2⟩ := w.hold
  exact ⟨Bs0, _, o, w2, hm, k.ex (Ex.new h1)⟩⟩
def appO {α : Type} (ds : List α) (d : α) : Option (List α) := if ds.length < 100000 then some (ds ++ [d]) else none
/-- xs.append(e) -/
theorem xs_app {x : Str} {px ap cp pos : Pos} {d : α} {ds' : List α} (he : XE X e ⟨ρ, muL i T ds⟩ T (some d)) (hl : appO ds d = some ds') (hr : XSs X rest ⟨ρ, muL i T ds'⟩ Gn Gb Tr mm)
    (h0 : PE X (.Call (.Attribute (.Name x px) "append" ap) [e] [] cp) (tBM X.K "list" rAppend (tVar i) (tCons (tM ⟨ρ, muL i T ds⟩ T (some d)) tNil)))
    (hs : swapsWith (.Call (.Attribute (.Name x px) "append" ap) [e] [] cp) none pos.line X.env = pure false := by rfl) : XSs X (.Expr (.Call (.Attribute (.Name x px) "append" ap) [e] [] cp) pos :: rest) ⟨ρ, muL i T ds⟩ Gn Gb Tr mm := by
  obtain ⟨hlen, rfl⟩ := if_some hl
  refine ⟨pss_imp (pss_cons (ps_expr h0 hs) hr.pss) fun D σ H ⟨Bs0, Hs, o, w, hm, k⟩ => ?_⟩
  obtain ⟨l, vs, h1, h2, h3, h4, h5⟩ := w.mu
  refine ⟨.ref l, h1, Or.inl ⟨rfl, vs, SqL.of h4⟩, Bs0, Hs, d, w, rfl, fun v Hs' H' s r => ⟨l, vs, v, rfl, rfl, s.eh _ _ h4, ?_, Bs0, Hs', o, ?_, hm, k.ex s.es⟩⟩
  · rw [Paired.length h5]
    exact Nat.lt_of_lt_of_le hlen (by decide)
  · have n := s.free h3 h4
    refine ⟨(w.st.trans s).mutD h2 n, w.sl.mono s.es, l, _, h1, h2, n, upd_same, pr_snoc (pr_mono s.es h5) r⟩
/-- a list just made -/
def tMF (Γ : Cn) (T : Ty α) (m : Option (List α)) : TE := fun σ H Q => ∃ B Hs ds, W B Γ σ Hs H ∧ m = some ds ∧ ∀ l vs Hs' H', H l = none → Step Hs H Hs' H' → Hs' l = none → H' l = some (.lst vs) → Paired (fun v x => T.R v Hs' x) vs ds → Q (.ref l) H'
structure XF1 (X : Cx) (e : Expr) (Γ : Cn) (T : Ty α) (m : Option (List α)) : Prop where
  pe : PE X e (tMF Γ T m)
theorem xf_lst {Γ : Cn} {es : List Expr} {pos : Pos} {n : Nat} {xs : List α} (h : XA X es Γ (ysH T n) (some xs)) (hl : Nat.ble n 100 = true := by rfl) : XF1 X (.List es pos) Γ T (some xs) :=
  ⟨pe_imp (pe_lst h.pa) fun σ H Q ⟨B, Hs, d, w, hm, q⟩ => by
    cases hm
    refine ⟨B, Hs, xs, w, rfl, fun vs Hs1 H1 s1 ⟨r1, r2⟩ => ⟨?_, fun p hp => q p vs Hs1 _ (s1.eh.none hp) (s1.mutD (s1.eh.none hp) (s1.ss.none hp)) (s1.ss.none hp) upd_same r2⟩⟩
    rw [r1]
    exact Nat.le_trans (Nat.le_of_ble_eq_true hl) (by decide)⟩
theorem xf_rep {Γ : Cn} {a b : Expr} {pos : Pos} {xs : List α} {k : Int} {ys : List α} (ha : XE X a Γ (tLst T) (some xs)) (hb : XE X b Γ tInt (some k)) (hk : repO xs k = some ys) : XF1 X (.BinOp a .Mult b pos) Γ T (some ys) :=
  ⟨pe_imp (pe_op op_rep ha.raw hb.raw) fun σ H Q ⟨B, Hs, d, w, hm, q⟩ => by
    cases hm
    obtain ⟨⟨h0, h1, h2⟩, rfl⟩ := if_some hk
    refine ⟨B, Hs, xs, w, rfl, fun u Hs1 H1 s1 ⟨p, us, r1, r2, r3⟩ => ⟨B, Hs1, k, w.step s1, rfl, fun v Hs2 H2 s2 t1 => ?_⟩⟩
    refine ⟨p, k, us, r1, t1, s2.ss _ _ (s2.es _ _ r2), by omega, by omega, ?_, fun z hz => ?_⟩
    · rw [Paired.length r3]
      have h3 : k.toNat ≤ 100000 := by omega
      exact Nat.le_trans (Nat.mul_le_mul h2 h3) (by decide)
    · have n0 := (s1.trans s2).eh.none hz
      exact q z _ Hs2 _ n0 ((s1.trans s2).mutD n0 (s2.ss.none hz)) (s2.ss.none hz) upd_same (pr_flat (pr_mono s2.es r3) _)⟩
/-- x = [..], a list that will grow -/
theorem xs_new (i : Nat) {Γ : Cn} {x : Str} {p' pos : Pos} (hN : X.N.Nodup) (h0 : Γ.μ = mu0) (he : XF1 X e Γ T (some ds)) (hr : XSs X rest ⟨Γ.ρ.set i .non, muL i T ds⟩ Gn Gb Tr mm) (hi : X.N[i]? = some x := by rfl)
    (hx : Loc X.env.scope x := by first | exact Or.inl rfl | exact Or.inr rfl) (hs : swapsWith e (some (.Name x p')) pos.line X.env = pure false := by rfl)
    (hf : X.fn x = true ∨ X.env.scope.names.lookup x = some .local := by first | exact .inl rfl | exact .inr rfl) (hil : Nat.blt i Γ.ρ.length = true := by rfl) : XSs X (.Assign [.Name x p'] e pos :: rest) Γ Gn Gb Tr mm :=
  ⟨pss_imp (pss_cons (ps_set hN hi hx he.pe hs hf) hr.pss) fun D σ H ⟨Bs0, Hs, o, w, hm, k⟩ => ⟨Bs0, Hs, ds, w, rfl, fun l vs Hs' H' n0 s n1 hl p => by
    refine ⟨Bs0, Hs', o, ⟨w.st.trans s, (w.sl.mono s.es).set (s := .non) (o := some (.ref l)) trivial i, l, vs, ?_, w.st.eh.none n0, n1, hl, p⟩, hm, k.ex s.es⟩
    exact List.getElem?_set_self (by rw [← w.sl.1]; exact Nat.le_of_ble_eq_true hil)⟩⟩
/-- return of the list that was made -/
theorem xs_retMu {x : Str} {p' pos : Pos} (hN : X.N[i]? = some x := by rfl) (hv : Vis X.env.scope x := by first | exact Or.inl rfl | exact Or.inr (Or.inl rfl) | exact Or.inr (Or.inr rfl)) (hd : (x == ("__debug__" : Str)) = false := by decide)
    (hcd : (x == ("__classdict__" : Str)) = false := by decide) : XSs X (.Return (some (.Name x p')) pos :: rest) ⟨ρ, muL i T ds⟩ Gn Gb (tLst T) (some (.ret ds)) := by
  have h2 : PSs X rest (fun _ _ _ => False) := ⟨fun _ _ _ _ _ _ h => h.elim⟩
  refine ⟨pss_imp (pss_cons (ps_ret (pe_var hN hv hd hcd)) h2) fun D σ H ⟨Bs0, Hs, o, w, hm, k⟩ => ?_⟩
  cases hm
  obtain ⟨l, vs, h1, _, h3, h4, h5, w2⟩ := w.hold
  exact ⟨.ref l, h4, k _ (upd Hs l (.lst vs)) H (Ex.new h1) w2.st ⟨l, vs, rfl, upd_same, pr_mono (Ex.new h1) h5⟩⟩
/-- xs[j] = e -/
def setO {α : Type} (ds : List α) (j : Int) (d : α) : Option (List α) := (ixN ds.length j).map fun k => ds.set k d
theorem xs_put {x : Str} {px pos sp : Pos} {b : Expr} {d : α} {j : Int} {ds' : List α} (he : XE X e ⟨ρ, muL i T ds⟩ T (some d)) (hb : XE X b ⟨ρ, muL i T ds⟩ tInt (some j)) (hl : setO ds j d = some ds') (hr : XSs X rest ⟨ρ, muL i T ds'⟩ Gn Gb Tr mm)
    (h0 : PS X (.Assign [.Subscript (.Name x px) b sp] e pos) (tAsg (tM ⟨ρ, muL i T ds⟩ T (some d)) (gSub (tVar i) (tM ⟨ρ, muL i T ds⟩ tInt (some j)) rSetL))) : XSs X (.Assign [.Subscript (.Name x px) b sp] e pos :: rest) ⟨ρ, muL i T ds⟩ Gn Gb Tr mm := by
  refine ⟨pss_imp (pss_cons h0 hr.pss) fun D σ H ⟨Bs0, Hs, o, w, hm, k⟩ => ?_⟩
  refine ⟨Bs0, Hs, d, w, rfl, fun v Hs1 H1 s1 r1 => ?_⟩
  obtain ⟨l, vs, h1, h2, h3, h4, h5⟩ := (w.step s1).mu
  refine ⟨.ref l, h1, Bs0, Hs1, j, w.step s1, rfl, fun u Hs2 H2 s2 r2 => ?_⟩
  unfold setO at hl
  rw [← Paired.length h5] at hl
  cases q : ixN vs.length j with
  | none =>
    rw [q] at hl
    cases hl
  | some z =>
    rw [q] at hl
    cases hl
    have n := s2.free h3 h4
    have n0 := (s1.trans s2).eh
    refine ⟨l, vs, j, z, rfl, r2, s2.eh _ _ h4, q, Bs0, Hs2, o, ⟨((w.st.trans s1).trans s2).mutD h2 n, w.sl.mono (s1.es.trans s2.es), l, _, h1, h2, n, upd_same, pr_set (F := fun v x => T.R v Hs2 x) (T.mono s2.es r1) z (pr_mono s2.es h5)⟩, hm, k.ex (s1.es.trans s2.es)⟩
end

/-! ### == of data at any depth -/
structure DE {α : Type} [DecidableEq α] (T : Ty α) (enc : α → PyData) (n : Nat) : Prop where
  dp : ∀ {v H d K}, T.R v H d → Dp K H v (enc d)
  lay : ∀ d, (enc d).canLay0 = true
  dep : ∀ d, (enc d).depth ≤ n
  ev : ∀ a b, PyData.eqv (enc a) (enc b) = decide (a = b)
theorem DE.sh {α : Type} [DecidableEq α] {T : Ty α} {enc : α → PyData} {n : Nat} (h : DE T enc n) (hn : n ≤ 64) (d : α) : SeqAt.shaped (enc d) = true := by
  show ((enc d).canLay0 && decide ((enc d).depth ≤ 64)) = true
  rw [h.lay, decide_eq_true (Nat.le_trans (h.dep d) hn)] <;> rfl
theorem de_int : DE tInt PyData.int 0 := ⟨fun {v H d K} h => by
  rw [show v = .int d from h]
  exact Dp.int d, fun d => by simp only [PyData.canLay0], fun d => by simp only [PyData.depth]; exact Nat.le_refl _, fun a b => by
  simp only [PyData.eqv]
  by_cases e : a = b
  · subst e
    simp
  · rw [decide_eq_false e]
    exact beq_eq_false_iff_ne.mpr e⟩
def encO {α : Type} (enc : α → PyData) : Option α → PyData
  | none => .none
  | some x => enc x
theorem depthAll_le {n : Nat} : ∀ {ds : List PyData}, (∀ d ∈ ds, d.depth ≤ n) → PyData.depthAll ds ≤ n
  | [], _ => by simp only [PyData.depthAll]; exact Nat.zero_le _
  | d :: ds, h => by
    have h1 := h d List.mem_cons_self
    have h2 := depthAll_le (ds := ds) fun x hx => h x (List.mem_cons_of_mem _ hx)
    simp only [PyData.depthAll]
    omega
theorem layAll {ds : List PyData} (h : ∀ d ∈ ds, d.canLay0 = true) : PyData.canLayAll0 ds = true := by
  induction ds with
  | nil => simp only [PyData.canLayAll0]
  | cons d ds ih =>
    simp only [PyData.canLayAll0]
    rw [h d List.mem_cons_self, ih fun x hx => h x (List.mem_cons_of_mem _ hx)] <;> rfl
section
variable {α : Type} [DecidableEq α] {T : Ty α} {enc : α → PyData} {n : Nat}
theorem de_all (h : DE T enc n) {K : PySem.W.Frag} {H : Hp} : ∀ {vs : List V} {xs : List α}, Paired (fun v x => T.R v H x) vs xs → DpAll K H vs (xs.map enc)
  | _, _, .nil => DpAll.nil
  | _, _, .cons r t => DpAll.cons (h.dp r) (de_all h t)
theorem ev_all (h : DE T enc n) : ∀ xs ys : List α, PyData.eqvAll (xs.map enc) (ys.map enc) = decide (xs = ys)
  | [], [] => by simp [PyData.eqvAll]
  | [], y :: ys => by simp [PyData.eqvAll]
  | x :: xs, [] => by simp [PyData.eqvAll]
  | x :: xs, y :: ys => by
    simp only [List.map_cons, PyData.eqvAll, h.ev, ev_all h xs ys]
    by_cases e : x = y
    · by_cases e2 : xs = ys
      · rw [e, e2]
        simp
      · rw [decide_eq_false e2, decide_eq_false fun z => e2 (List.cons.inj z).2, Bool.and_false]
    · rw [decide_eq_false e, decide_eq_false fun z => e (List.cons.inj z).1, Bool.false_and]
theorem de_lst (h : DE T enc n) : DE (tLst T) (fun xs => .list (xs.map enc)) (n + 1) := ⟨fun {v H d K} ⟨a, vs, h1, h2, h3⟩ => by
  rw [h1]
  exact Dp.lst (SqL.of h2) (de_all h h3), fun d => by
  simp only [PyData.canLay0]
  exact layAll fun x hx => by
    obtain ⟨y, _, rfl⟩ := List.mem_map.mp hx
    exact h.lay y, fun d => by
  have q : PyData.depthAll (d.map enc) ≤ n := depthAll_le fun x hx => by
    obtain ⟨y, _, rfl⟩ := List.mem_map.mp hx
    exact h.dep y
  simp only [PyData.depth]
  omega, fun a b => by
  simp only [PyData.eqv]
  exact ev_all h a b⟩
theorem de_tup (h : DE T enc n) : DE (tTup T) (fun xs => .tuple (xs.map enc)) (n + 1) := ⟨fun {v H d K} ⟨a, vs, h1, h2, h3⟩ => by
  rw [h1]
  exact Dp.tup (SqT.of h2) (de_all h h3), fun d => by
  simp only [PyData.canLay0]
  exact layAll fun x hx => by
    obtain ⟨y, _, rfl⟩ := List.mem_map.mp hx
    exact h.lay y, fun d => by
  have q : PyData.depthAll (d.map enc) ≤ n := depthAll_le fun x hx => by
    obtain ⟨y, _, rfl⟩ := List.mem_map.mp hx
    exact h.dep y
  simp only [PyData.depth]
  omega, fun a b => by
  simp only [PyData.eqv]
  exact ev_all h a b⟩
/-- None, or a tuple of data -/
theorem de_opt {S : Ty α} (h : DE T enc n) (hn : ∀ d, ∃ xs, enc d = .tuple xs) : DE (tOpt T) (encO enc) n := ⟨fun {v H d K} r => by
  cases d with
  | none =>
    rw [show v = .non from r]
    exact Dp.non
  | some d => exact h.dp r.2, fun d => by
  cases d with
  | none =>
    show PyData.canLay0 .none = true
    simp only [PyData.canLay0]
  | some d => exact h.lay d, fun d => by
  cases d with
  | none =>
    show PyData.depth .none ≤ n
    simp only [PyData.depth]
    exact Nat.zero_le _
  | some d => exact h.dep d, fun a b => by
  cases a with
  | none =>
    cases b with
    | none =>
      show PyData.eqv .none .none = _
      simp [PyData.eqv]
    | some b =>
      obtain ⟨xs, e⟩ := hn b
      show PyData.eqv .none (enc b) = _
      rw [e]
      simp [PyData.eqv]
  | some a =>
    cases b with
    | none =>
      obtain ⟨xs, e⟩ := hn a
      show PyData.eqv (enc a) .none = _
      rw [e]
      simp [PyData.eqv]
    | some b =>
      show PyData.eqv (enc a) (enc b) = _
      rw [h.ev]
      by_cases e : a = b
      · rw [e]
        simp
      · rw [decide_eq_false e, decide_eq_false fun z => e (Option.some.inj z)]⟩
end
def encP (p : Int × Int × Unit) : PyData := .tuple [.int p.1, .int p.2.1]
theorem de_pair : DE (tPair tInt tInt) encP 1 := ⟨fun {v H d K} ⟨a, vs, h1, h2, v1, r1, e1, h3, v2, r2, e2, h4, h5⟩ => by
  have e3 : r2 = [] := h5
  rw [show v1 = .int d.1 from h3] at e1
  rw [show v2 = .int d.2.1 from h4, e3] at e2
  rw [e2] at e1
  rw [h1]
  rw [e1] at h2
  exact Dp.tup (SqT.of h2) (DpAll.cons (Dp.int _) (DpAll.cons (Dp.int _) DpAll.nil)), fun d => by
  simp [encP, PyData.canLay0, PyData.canLayAll0], fun d => by
  simp [encP, PyData.depth, PyData.depthAll], fun a b => by
  obtain ⟨a1, a2, _⟩ := a
  obtain ⟨b1, b2, _⟩ := b
  have e : PyData.eqv (encP (a1, a2, ())) (encP (b1, b2, ())) = ((a1 == b1) && ((a2 == b2) && true)) := by simp only [encP, PyData.eqv, PyData.eqvAll]
  rw [e]
  by_cases e1 : a1 = b1
  · by_cases e2 : a2 = b2
    · subst e1 e2
      simp
    · have q : (a2 == b2) = false := beq_eq_false_iff_ne.mpr e2
      rw [q, Bool.false_and, Bool.and_false, decide_eq_false fun z => e2 (Prod.mk.inj (Prod.mk.inj z).2).1]
  · have q : (a1 == b1) = false := beq_eq_false_iff_ne.mpr e1
    rw [q, Bool.false_and, decide_eq_false fun z => e1 (Prod.mk.inj z).1]⟩
section
variable {X : Cx} {Γ : Cn} {a b : Expr} {pos : Pos} {α : Type} [DecidableEq α] {T : Ty α} {enc : α → PyData} {n : Nat} {x y : α} {ys : List α}
theorem x_eqD (h : DE T enc n) (hu : X.A.units + 64 < cLine) (ha : XE X a Γ T (some x)) (hb : XE X b Γ T (some y)) (hn : Nat.ble n 64 = true := by rfl) : XE X (.Compare a [.Eq] [b] pos) Γ tBool (some (decide (x = y))) :=
  xe_cmp (op_eqD hu) (nomark _) ha hb fun u v Hs H Q c hm e r1 r2 q => ⟨enc x, enc y, h.dp (T.mono e r1), h.dp (T.mono e r2), h.sh (Nat.le_of_ble_eq_true hn) x, h.sh (Nat.le_of_ble_eq_true hn) y, by
    cases hm
    rw [h.ev]
    exact q Hs H (Step.refl e)⟩
theorem x_neD (h : DE T enc n) (hu : X.A.units + 64 < cLine) (ha : XE X a Γ T (some x)) (hb : XE X b Γ T (some y)) (hn : Nat.ble n 64 = true := by rfl) : XE X (.Compare a [.NotEq] [b] pos) Γ tBool (some (!decide (x = y))) :=
  xe_cmp (op_neD hu) (nomark _) ha hb fun u v Hs H Q c hm e r1 r2 q => ⟨enc x, enc y, h.dp (T.mono e r1), h.dp (T.mono e r2), h.sh (Nat.le_of_ble_eq_true hn) x, h.sh (Nat.le_of_ble_eq_true hn) y, by
    cases hm
    rw [h.ev]
    exact q Hs H (Step.refl e)⟩
theorem xt_eqD (h : DE T enc n) (hu : X.A.units + 64 < cLine) (ha : XE X a Γ T (some x)) (hb : XE X b Γ T (some y)) (hn : Nat.ble n 64 = true := by rfl) : XT X (.Compare a [.Eq] [b] pos) Γ (some (decide (x = y))) :=
  xt_cmp (op_eqD hu) (nomark _) ha hb fun u v Hs H Q c hm e r1 r2 q => ⟨enc x, enc y, h.dp (T.mono e r1), h.dp (T.mono e r2), h.sh (Nat.le_of_ble_eq_true hn) x, h.sh (Nat.le_of_ble_eq_true hn) y, by
    cases hm
    rw [h.ev]
    exact q Hs H (Step.refl e)⟩
theorem xt_neD (h : DE T enc n) (hu : X.A.units + 64 < cLine) (ha : XE X a Γ T (some x)) (hb : XE X b Γ T (some y)) (hn : Nat.ble n 64 = true := by rfl) : XT X (.Compare a [.NotEq] [b] pos) Γ (some (!decide (x = y))) :=
  xt_cmp (op_neD hu) (nomark _) ha hb fun u v Hs H Q c hm e r1 r2 q => ⟨enc x, enc y, h.dp (T.mono e r1), h.dp (T.mono e r2), h.sh (Nat.le_of_ble_eq_true hn) x, h.sh (Nat.le_of_ble_eq_true hn) y, by
    cases hm
    rw [h.ev]
    exact q Hs H (Step.refl e)⟩
theorem any_enc (h : DE T enc n) : ∀ ys : List α, ((ys.map enc).any fun z => PyData.eqv z (enc x)) = decide (x ∈ ys)
  | [] => by simp
  | y :: ys => by
    rw [List.map_cons, List.any_cons, h.ev, any_enc h ys]
    by_cases e : y = x
    · subst e
      simp
    · rw [decide_eq_false e, Bool.false_or]
      by_cases e2 : x ∈ ys
      · rw [decide_eq_true e2, decide_eq_true (List.mem_cons_of_mem _ e2)]
      · rw [decide_eq_false e2, decide_eq_false fun z => (List.mem_cons.mp z).elim (fun q => e q.symm) e2]
theorem xt_inD (h : DE T enc n) (hu : X.A.units + 65 < cLine) (ha : XE X a Γ T (some x)) (hb : XE X b Γ (tLst T) (some ys)) (hk : behindInMarks .In b = false := by rfl) (hn : Nat.ble (n + 1) 64 = true := by rfl) : XT X (.Compare a [.In] [b] pos) Γ (some (decide (x ∈ ys))) :=
  xt_cmp (op_inD hu) hk ha hb fun u v Hs H Q c hm e r1 r2 q => ⟨enc x, ys.map enc, h.dp (T.mono e r1), (de_lst h).dp ((tLst T).mono e r2), h.sh (by have := Nat.le_of_ble_eq_true hn; omega) x, (de_lst h).sh (Nat.le_of_ble_eq_true hn) ys, by
    cases hm
    rw [any_enc h]
    exact q Hs H (Step.refl e)⟩
theorem x_inD (h : DE T enc n) (hu : X.A.units + 65 < cLine) (ha : XE X a Γ T (some x)) (hb : XE X b Γ (tLst T) (some ys)) (hk : behindInMarks .In b = false := by rfl) (hn : Nat.ble (n + 1) 64 = true := by rfl) : XE X (.Compare a [.In] [b] pos) Γ tBool (some (decide (x ∈ ys))) :=
  xe_cmp (op_inD hu) hk ha hb fun u v Hs H Q c hm e r1 r2 q => ⟨enc x, ys.map enc, h.dp (T.mono e r1), (de_lst h).dp ((tLst T).mono e r2), h.sh (by have := Nat.le_of_ble_eq_true hn; omega) x, (de_lst h).sh (Nat.le_of_ble_eq_true hn) ys, by
    cases hm
    rw [any_enc h]
    exact q Hs H (Step.refl e)⟩
theorem xt_niD (h : DE T enc n) (hu : X.A.units + 65 < cLine) (ha : XE X a Γ T (some x)) (hb : XE X b Γ (tLst T) (some ys)) (hk : behindInMarks .NotIn b = false := by rfl) (hn : Nat.ble (n + 1) 64 = true := by rfl) : XT X (.Compare a [.NotIn] [b] pos) Γ (some (!decide (x ∈ ys))) :=
  xt_cmp (op_notInD hu) hk ha hb fun u v Hs H Q c hm e r1 r2 q => ⟨enc x, ys.map enc, h.dp (T.mono e r1), (de_lst h).dp ((tLst T).mono e r2), h.sh (by have := Nat.le_of_ble_eq_true hn; omega) x, (de_lst h).sh (Nat.le_of_ble_eq_true hn) ys, by
    cases hm
    rw [any_enc h]
    exact q Hs H (Step.refl e)⟩
end
end Pg
set_option Elab.async false
set_option linter.all false
set_option maxRecDepth 100000
set_option maxHeartbeats 4000000
namespace Pg
open PySem PySem.Spec PyProof.Rows L2
section
variable {P : Program} {w : World} {A : Around} {E : Value → Shared → Prop} {s : Shared}
set_option maxHeartbeats 6400000 in
theorem call_set_tupsT {l : Addr} {items : Array Value} (ks : List (Addr × List Int)) {Q : Value → Shared → Prop} (hh : A.handled = none) (hl : s.heap.IsTuple l items) (hit : items.toList = ks.map fun p => Value.ref p.1)
    (hk : ∀ p ∈ ks, IsT P w s.heap p.2 p.1) (hfew : ks.length < 64) (hu : A.units + 3 < cLine)
    (h : ∀ (h' : Heap) (tk : Nat) L es ep t, SetTR P w h' s.heap.objs.size L es ep t → Got ks ks.length L → (∀ b o, s.heap.get? b = some o → h'.get? b = some o) → Q (.ref s.heap.objs.size) { s with heap := h', toks := tk }) :
    wpAny (model P w) A (call (.type "set") [.ref l]) Q E s := by
  have hisz : items.size = ks.length := by
    have q := congrArg List.length hit
    rw [Array.length_toList, List.length_map] at q
    exact q
  obtain ⟨c, tl, hmro⟩ := F.called_set.mro
  have hmade := F.called_set.made
  have hsub := F.called_set.sub
  refine wpAny_call (codeAny_of_tree ?_)
  show wpAny _ _ (callAny (.type "set") _) _ _ _
  refine wpAny_pure ⟨Code.quiet_builtin _ (by decide +kernel), codeAny_builtin F.entry_type_call ?_⟩
  rw [Around.under_plain (weight_type_call_type "set" [.ref l] []) rfl]
  have h1 := F.called_set.notType
  have h2 := F.called_set.canCreate
  have hct := F.typeCall_set_1 (.ref l)
  repeat (any_goals (first | assumption | wp_step))

  refine codeAny_mono (code_set_led1 (.ref l) (E := E) (Q₁ := fun obj s₁ => obj = .ref s.heap.objs.size ∧ s₁ = { s with heap := s.heap.push { cls := .type "set", dict := none, data := .set #[] 0 (.fresh 0 0 (!w.params.followText "set-order")) } }) ⟨rfl, rfl⟩) fun r s₁ hr => ?_
  cases r with
  | error e => exact hr
  | ok fl =>
    cases fl with
    | ret obj =>
      obtain ⟨rfl, rfl⟩ := hr
      have hS : (s.heap.push { cls := .type "set", dict := none, data := .set #[] 0 (.fresh 0 0 (!w.params.followText "set-order")) }).get? s.heap.objs.size = some { cls := .type "set", dict := none, data := .set #[] 0 (.fresh 0 0 (!w.params.followText "set-order")) } := Heap.get?_push_size _ rfl
      have hT : Shared.TypeIs { s with heap := s.heap.push { cls := .type "set", dict := none, data := .set #[] 0 (.fresh 0 0 (!w.params.followText "set-order")) } } (.ref s.heap.objs.size) "set" := ⟨_, hS, rfl⟩
      have hli := F.called_set.init.lookup
      have hbi := F.called_set.init.bind (.ref s.heap.objs.size)
      repeat (any_goals (first | assumption | wp_step))

      refine codeAny_mono (codeAny_call_builtin (R := wants (fun r s₂ => r = .none ∧ ∃ h' tk L es ep t, s₂ = { s with heap := h', toks := tk } ∧ SetTR P w h' s.heap.objs.size L es ep t ∧ Got ks ks.length L ∧
          (∀ b o, s.heap.get? b = some o → h'.get? b = some o)) E) F.called_set.init.plain F.entry_set_init (check_set_init_1 hT ?_)) fun r₂ s₂ hr₂ => ?_
      · obtain ⟨ol, hol, hcl, nl, hdl⟩ := hl
        obtain ⟨ocls, odict, odata, oslots⟩ := ol
        simp only at hcl hdl
        subst hcl; subst hdl
        have hol' : (s.heap.push { cls := .type "set", dict := none, data := .set #[] 0 (.fresh 0 0 (!w.params.followText "set-order")) }).get? l = some { cls := .type "tuple", dict := odict, data := .seq items nl, slots := oslots } := Heap.get?_push_of_some _ hol
        have hsls := F.sub_tuple_set
        have hslf := F.sub_tuple_frozenset
        have hne : (Value.type "tuple" == Value.type "dict") = false := by decide
        have hl1 : (s.heap.push { cls := .type "set", dict := none, data := .set #[] 0 (.fresh 0 0 (!w.params.followText "set-order")) }).IsTuple l items := ⟨_, hol', rfl, nl, rfl⟩
        unfold Builtin.«set.__init__» noKeywords Builtin.Frozenset.updateFrom
        generalize hPI : pyIter = PI
        wp_walk
        subst hPI

        refine wpAny_pyIter_tuple hl1 ?_
        refine wpAny_bind (wpAny_runValue ?_)
        have hlS : l < s.heap.objs.size := Heap.lt_size hol
        have hh3 : A.in1.in1.in1.handled = none := by simp [hh]
        have hz1 : (s.heap.push { cls := .type "set", dict := none, data := .set #[] 0 (.fresh 0 0 (!w.params.followText "set-order")) }).objs.size = s.heap.objs.size + 1 := Heap.size_push ..
        have hneI : l ≠ (s.heap.push { cls := .type "set", dict := none, data := .set #[] 0 (.fresh 0 0 (!w.params.followText "set-order")) }).objs.size := by
          rw [Heap.size_push]; exact Nat.ne_of_lt (Nat.lt_succ_of_lt hlS)
        have hSf : s.heap.objs.size ∉ [(s.heap.push { cls := .type "set", dict := none, data := .set #[] 0 (.fresh 0 0 (!w.params.followText "set-order")) }).objs.size, l] := by
          rw [Heap.size_push]; simp only [List.mem_cons, List.mem_singleton, List.not_mem_nil, or_false, not_or]
          exact ⟨Nat.ne_of_lt (Nat.lt_succ_self _), Nat.ne_of_gt hlS⟩
        have hval : ∀ (i : Nat) (v : Value), items[i]? = some v → ∃ p, ks[i]? = some p ∧ v = .ref p.1 := fun i v hv => by
          have q : items.toList[i]? = some v := by rw [Array.getElem?_toList]; exact hv
          rw [hit, List.getElem?_map] at q
          cases hq : ks[i]? with
          | none => rw [hq] at q; cases q
          | some p =>
            rw [hq] at q
            exact ⟨p, rfl, (Option.some.inj q).symm⟩
        have none_of : ∀ b, s.heap.objs.size ≤ b → s.heap.get? b = none := fun b hb => by
          cases q : s.heap.get? b with
          | none => rfl
          | some o => exact absurd (Nat.lt_of_lt_of_le (Heap.lt_size q) hb) (Nat.lt_irrefl _)
        refine set_update_tups ((Walks.tuple hh3 _ l hneI items).toS) s.heap.objs.size
          hSf ks hisz hfew hval s.heap hk (none_of _ (Nat.le_refl _)) (fun b hb => none_of b (by
            rw [List.mem_singleton.mp hb, Heap.size_push]
            exact Nat.le_succ _)) hu (items.size - 0) 0 _ (by omega) (Nat.zero_le _)
          ⟨⟨_, Heap.get?_push_size _ rfl, rfl, rfl⟩, (hl1.at fun o q => Heap.get?_push_of_some _ q)⟩ (fun b o e => Heap.get?_push_of_some _ (Heap.get?_push_of_some _ e)) ?hS0 ?hR
        case hS0 =>
          have hget : ((s.heap.push { cls := .type "set", dict := none, data := .set #[] 0 (.fresh 0 0 (!w.params.followText "set-order")) }).push { cls := .type "tuple_iterator", data := .fields #[.ref l, .int 0 0] }).get? s.heap.objs.size
              = some { cls := .type "set", dict := none, data := .set #[] 0 (.fresh 0 0 (!w.params.followText "set-order")) } := Heap.get?_push_of_some _ hS
          exact ⟨[], #[], 0, _, setTR_fresh hget, Got.zero ks⟩
        case hR =>
          intro s' L es ep t hm hS' g' hkp
          obtain ⟨h', g2, d', tk', os'⟩ := s'
          have eg : g2 = s.gens := hm.gens
          have ed : d' = s.drawn := hm.drawn
          have eo : os' = s.os := hm.os
          subst eg; subst ed; subst eo
          show wpAny _ _ _ _ _ _
          refine wpAny_pure ?_
          show wpAny _ _ (ret Value.none) _ _ _
          rw [hisz] at g'
          exact wpAny_pure ⟨rfl, h', tk', L, es, ep, t, rfl, hS', g', hkp⟩

      · cases r₂ with
        | error e => exact hr₂
        | ok fl₂ =>
          cases fl₂ with
          | ret r =>
            obtain ⟨rfl, h', tk, L, es, ep, t, rfl, hS', g', hk'⟩ := hr₂
            repeat (any_goals (first | assumption | wp_step))
            exact h _ _ _ _ _ _ hS' g' hk'
          | _ => exact hr₂.elim
    | _ => exact hr.elim

end
section
variable {X : Cx}
/-- set(xs), xs a tuple of tuples of ints -/
def rSetT (K : PySem.W.Frag) (P : Program) (w : World) : List V → Hp → VK → Prop := fun xs H Q => ∃ (l : Addr) (ks : List (Addr × List Int)), xs = [V.ref l] ∧ SqT K H l (ks.map fun p => V.ref p.1) ∧ (∀ p ∈ ks, SqT K H p.1 (p.2.map V.int)) ∧ ks.length < 64 ∧
  ∀ a L, H a = none → (∀ p ∈ L, p ∈ ks) → (∀ p ∈ ks, p.2 ∈ L.map (·.2)) → Q (.ref a) (upd H a (SetTO P w a L))
theorem cr_setT (hc : X.calm = true) (hu : X.A.units + 64 < cLine) : CallR X (.type "set") (rSetT X.K X.prog X.w) := by
  intro pins s σ H xs us Q I r h
  obtain ⟨l, ks, rfl, hl, hk, hf, q⟩ := h
  rw [Vals.ref1 r]
  obtain ⟨its, rv, pl, hz⟩ := I.tuple hl
  have hn : H s.heap.objs.size = none := I.hok.fresh (Nat.le_refl _)
  refine call_set_tupsT (P := X.prog) (w := X.w) ks (I.ok.hd hc) (show s.heap.IsTuple l its.toArray from pl) (by simpa using refs_of_vals rv) (fun p hp => I.isT (hk p hp)) hf (by omega) fun h' tk L es ep t R g k => ?_
  exact ⟨.ref s.heap.objs.size, upd H s.heap.objs.size (SetTO X.prog X.w s.heap.objs.size L), I.laid (t' := tk) k (Nat.le_refl _) (setTO_new R.t0), rfl, q _ L hn (fun p hp => List.mem_of_mem_take (g.sub p hp)) fun p hp => g.all p (by rw [List.take_length]; exact hp)⟩
end
end Pg
set_option Elab.async false
set_option linter.all false
set_option maxRecDepth 100000
set_option maxHeartbeats 4000000
namespace Pg
open PySem PySem.Spec PyProof.Rows L2

/-! ### pairs of ints in their order -/
abbrev P2 := Int × Int × Unit
def plt (p q : P2) : Bool := decide (p.1 < q.1 ∨ (p.1 = q.1 ∧ p.2.1 < q.2.1))
theorem plt_iff {p q : P2} : plt p q = true ↔ p.1 < q.1 ∨ (p.1 = q.1 ∧ p.2.1 < q.2.1) := by
  unfold plt
  exact decide_eq_true_iff
theorem plt_no {p q : P2} : plt p q = false ↔ ¬ (p.1 < q.1 ∨ (p.1 = q.1 ∧ p.2.1 < q.2.1)) := by
  unfold plt
  exact decide_eq_false_iff_not
theorem plt_anti {p q : P2} (h1 : plt p q = false) (h2 : plt q p = false) : p = q := by
  have a := plt_no.mp h1
  have b := plt_no.mp h2
  obtain ⟨p1, p2, _⟩ := p
  obtain ⟨q1, q2, _⟩ := q
  have e1 : p1 = q1 := by
    have a' : ¬ (p1 < q1 ∨ (p1 = q1 ∧ p2 < q2)) := a
    have b' : ¬ (q1 < p1 ∨ (q1 = p1 ∧ q2 < p2)) := b
    omega
  have e2 : p2 = q2 := by
    have a' : ¬ (p1 < q1 ∨ (p1 = q1 ∧ p2 < q2)) := a
    have b' : ¬ (q1 < p1 ∨ (q1 = p1 ∧ q2 < p2)) := b
    omega
  rw [e1, e2]
abbrev Srt (l : List P2) : Prop := l.Pairwise fun x y => plt y x = false
theorem srt_uniq : ∀ {l m : List P2}, l.Perm m → Srt l → Srt m → l = m
  | [], m, p, _, _ => (List.Perm.nil_eq p)
  | a :: l, m, p, s1, s2 => by
    cases m with
    | nil => exact absurd p.symm.nil_eq (by simp)
    | cons b m =>
      obtain ⟨h1, t1⟩ := List.pairwise_cons.mp s1
      obtain ⟨h2, t2⟩ := List.pairwise_cons.mp s2
      have e : a = b := by
        have ha : a ∈ b :: m := p.mem_iff.mp List.mem_cons_self
        have hb : b ∈ a :: l := p.mem_iff.mpr List.mem_cons_self
        rcases List.mem_cons.mp ha with e | ha
        · exact e
        · rcases List.mem_cons.mp hb with e | hb
          · exact e.symm
          · exact plt_anti (h2 a ha) (h1 b hb)
      subst e
      rw [srt_uniq (List.Perm.cons_inv p) t1 t2]
/-- put in its place -/
def insS (x : P2) : List P2 → List P2
  | [] => [x]
  | y :: ys => if plt y x = true then y :: insS x ys else x :: y :: ys
def sortS (xs : List P2) : List P2 := xs.foldr insS []
theorem insS_perm (x : P2) : ∀ ys, (insS x ys).Perm (x :: ys)
  | [] => List.Perm.refl _
  | y :: ys => by
    unfold insS
    by_cases h : plt y x = true
    · rw [if_pos h]
      exact ((insS_perm x ys).cons y).trans (List.Perm.swap _ _ _)
    · rw [if_neg h]
theorem insS_srt (x : P2) : ∀ {ys}, Srt ys → Srt (insS x ys)
  | [], _ => List.pairwise_singleton _ _
  | y :: ys, s => by
    obtain ⟨h1, t⟩ := List.pairwise_cons.mp s
    unfold insS
    by_cases h : plt y x = true
    · rw [if_pos h]
      refine List.pairwise_cons.mpr ⟨fun z hz => ?_, insS_srt x t⟩
      rcases List.mem_cons.mp ((insS_perm x ys).mem_iff.mp hz) with e | hz
      · subst e
        have a := plt_iff.mp h
        exact plt_no.mpr (by omega)
      · exact h1 z hz
    · rw [if_neg h]
      have hn : plt y x = false := by
        cases q : plt y x with
        | true => exact absurd q h
        | false => rfl
      refine List.pairwise_cons.mpr ⟨fun z hz => ?_, s⟩
      rcases List.mem_cons.mp hz with e | hz
      · subst e
        exact hn
      · have a := plt_no.mp (h1 z hz)
        have b := plt_no.mp hn
        exact plt_no.mpr (by omega)
theorem sortS_perm : ∀ xs, (sortS xs).Perm xs
  | [] => List.Perm.refl _
  | x :: xs => (insS_perm x (sortS xs)).trans ((sortS_perm xs).cons x)
theorem sortS_srt : ∀ xs, Srt (sortS xs)
  | [] => List.Pairwise.nil
  | x :: xs => insS_srt x (sortS_srt xs)
/-- each once, in order -/
def dedupS (xs : List P2) : List P2 := xs.foldr (fun x ys => if x ∈ ys then ys else x :: ys) []
def ascL (xs : List P2) : List P2 := sortS (dedupS xs)
theorem dedupS_cons (x : P2) (xs : List P2) : dedupS (x :: xs) = if x ∈ dedupS xs then dedupS xs else x :: dedupS xs := rfl
theorem dedupS_mem {x : P2} : ∀ {xs}, x ∈ dedupS xs ↔ x ∈ xs
  | [] => Iff.rfl
  | y :: ys => by
    rw [dedupS_cons]
    by_cases h : y ∈ dedupS ys
    · rw [if_pos h, dedupS_mem, List.mem_cons]
      refine ⟨.inr, fun z => z.elim (fun e => ?_) id⟩
      rw [e]
      exact dedupS_mem.mp h
    · rw [if_neg h, List.mem_cons, List.mem_cons, dedupS_mem]
theorem dedupS_nodup : ∀ xs, (dedupS xs).Nodup
  | [] => List.nodup_nil
  | y :: ys => by
    rw [dedupS_cons]
    by_cases h : y ∈ dedupS ys
    · rw [if_pos h]
      exact dedupS_nodup ys
    · rw [if_neg h]
      exact List.nodup_cons.mpr ⟨h, dedupS_nodup ys⟩
theorem ascL_mem {x : P2} {xs : List P2} : x ∈ ascL xs ↔ x ∈ xs := (sortS_perm _).mem_iff.trans dedupS_mem
theorem pair_at {v : V} {H : Hp} {p : P2} : (tPair tInt tInt).R v H p ↔ ∃ a, v = .ref a ∧ H a = some (.tup [.int p.1, .int p.2.1]) := by
  refine ⟨fun ⟨a, vs, h1, h2, v1, r1, e1, h3, v2, r2, e2, h4, h5⟩ => ?_, fun ⟨a, h1, h2⟩ => ⟨a, _, h1, h2, .int p.1, _, rfl, rfl, .int p.2.1, _, rfl, rfl, rfl⟩⟩
  have e3 : r2 = [] := h5
  rw [show v1 = .int p.1 from h3] at e1
  rw [show v2 = .int p.2.1 from h4, e3] at e2
  rw [e2] at e1
  rw [e1] at h2
  exact ⟨a, h1, h2⟩
/-- the pair that a value stands for -/
def pOf (H : Hp) : V → P2
  | .ref a => match H a with
    | some (.tup [.int i, .int j]) => (i, j, ())
    | _ => (0, 0, ())
  | _ => (0, 0, ())
theorem pOf_at {v : V} {H : Hp} {p : P2} (h : (tPair tInt tInt).R v H p) : pOf H v = p := by
  obtain ⟨a, e, h2⟩ := pair_at.mp h
  subst e
  show (match H a with
    | some (.tup [.int i, .int j]) => ((i, j, ()) : P2)
    | _ => (0, 0, ())) = p
  rw [h2]
theorem pOf_map {H : Hp} : ∀ {vs : List V} {ps : List P2}, Paired (fun v p => (tPair tInt tInt).R v H p) vs ps → vs.map (pOf H) = ps
  | _, _, .nil => rfl
  | _, _, .cons r t => by rw [List.map_cons, pOf_at r, pOf_map t]
theorem pOf_pr {H : Hp} : ∀ {vs : List V}, (∀ v ∈ vs, ∃ p, (tPair tInt tInt).R v H p) → Paired (fun v p => (tPair tInt tInt).R v H p) vs (vs.map (pOf H))
  | [], _ => .nil
  | v :: vs, h => by
    obtain ⟨p, hp⟩ := h v List.mem_cons_self
    refine .cons ?_ (pOf_pr fun u hu => h u (List.mem_cons_of_mem _ hu))
    rw [pOf_at hp]
    exact hp
theorem pr_mem {α : Type} {F : V → α → Prop} : ∀ {vs : List V} {xs : List α} {v : V}, Paired F vs xs → v ∈ vs → ∃ x ∈ xs, F v x
  | _, _, v, .cons (a := a) (b := b) r t, h => by
    rcases List.mem_cons.mp h with e | h
    · subst e
      exact ⟨b, List.mem_cons_self, r⟩
    · obtain ⟨x, h1, h2⟩ := pr_mem t h
      exact ⟨x, List.mem_cons_of_mem _ h1, h2⟩
section
variable {X : Cx} {Γ : Cn} {a b : Expr} {p p2 pos q2 : Pos} {xs : List P2}
theorem x_sort (hm : X.mg "sorted" = none) (ha : XE X a Γ (tLst (tPair tInt tInt)) (some xs)) (hg : Gl X "sorted" := by rfl) (he : starEach [a] X.env = (false, eval a X.env) :: starEach [] X.env := by rfl) (hpl : (backTo pos (starEach [] X.env)).any (·.1) = false := by rfl) :
    XE X (.Call (.Name "sorted" p) [a] [] pos) Γ (tLst (tPair tInt tInt)) (some (sortS xs)) :=
  x_cb cr_sortedPO hm (by decide +kernel) (xa_cons ha xa_nil he) (fun vs Hs H Q c hc e r q => by
    obtain ⟨v, e1, l, us, r1, r2, r3⟩ := ys1 r
    subst e1 r1
    cases hc
    have r4 := pr_mono (T := tPair tInt tInt) e r3
    refine ⟨l, us, fun v => ((pOf H v).1, (pOf H v).2.1), rfl, SqL.of (e _ _ r2), fun x hx => ?_, fun ys z h1 h2 hz => ?_⟩
    · obtain ⟨y, _, hy⟩ := pr_mem r4 hx
      obtain ⟨t, e2, h3⟩ := pair_at.mp hy
      refine ⟨t, e2, ?_⟩
      show H t = some (.tup [.int (pOf H x).1, .int (pOf H x).2.1])
      rw [pOf_at hy]
      exact h3
    · have hys : ∀ v ∈ ys, ∃ p, (tPair tInt tInt).R v Hs p := fun v hv => by
        obtain ⟨y, _, hy⟩ := pr_mem r3 (h2.perm.mem_iff.mp hv)
        exact ⟨y, hy⟩
      have hys' : ∀ v ∈ ys, pOf H v = pOf Hs v := fun v hv => by
        obtain ⟨p, hp⟩ := hys v hv
        rw [pOf_at hp, pOf_at ((tPair tInt tInt).mono e hp)]
      have pe : (ys.map (pOf Hs)).Perm xs := by
        have e3 : us.map (pOf Hs) = xs := pOf_map r3
        rw [← e3]
        exact h2.perm.map _
      have se : Srt (ys.map (pOf Hs)) := by
        refine List.pairwise_map.mpr (List.Pairwise.imp_of_mem (fun {x y} hx hy k => ?_) h1)
        rw [← hys' x hx, ← hys' y hy]
        have k2 := SrtO.lexB_no.mp k
        exact plt_no.mpr k2
      have eq : ys.map (pOf Hs) = sortS xs := srt_uniq (pe.trans (sortS_perm xs).symm) se (sortS_srt xs)
      refine q _ _ _ (Step.new e hz) ⟨z, ys, rfl, upd_same, ?_⟩
      rw [← eq]
      exact pr_mono (Ex.new (e.none hz)) (pOf_pr hys)) hg (by decide) (by decide) he hpl
/-- sorted(set(values)), a tuple of pairs -/
def ascO (xs : List P2) : Option (List P2) := if xs.length < 64 ∧ (xs.all fun p => decide (0 ≤ p.1 ∧ p.1 < 64 ∧ 0 ≤ p.2.1 ∧ p.2.1 < 64)) = true then some (ascL xs) else none
theorem keys_of {K : PySem.W.Frag} {Hs H : Hp} (e : Ex Hs H) : ∀ {us : List V} {xs : List P2}, Paired (fun v p => (tPair tInt tInt).R v Hs p) us xs →
    ∃ ks : List (Addr × List Int), us = ks.map (fun p => V.ref p.1) ∧ (∀ p ∈ ks, SqT K H p.1 (p.2.map V.int)) ∧ ks.map (·.2) = xs.map (fun p => [p.1, p.2.1]) ∧ (∀ p ∈ ks, ∃ x ∈ xs, p.2 = [x.1, x.2.1] ∧ (tPair tInt tInt).R (.ref p.1) Hs x)
  | _, _, .nil => ⟨[], rfl, fun p hp => by simp at hp, rfl, fun p hp => by simp at hp⟩
  | _, _, .cons (b := x) r t => by
    obtain ⟨ks, k1, k2, k3, k4⟩ := keys_of (K := K) e t
    obtain ⟨a, e1, h2⟩ := pair_at.mp r
    refine ⟨(a, [x.1, x.2.1]) :: ks, by rw [List.map_cons, ← k1, e1], fun p hp => ?_, by rw [List.map_cons, List.map_cons, k3], fun p hp => ?_⟩
    · rcases List.mem_cons.mp hp with q | q
      · subst q
        exact SqT.of (e _ _ h2)
      · exact k2 p q
    · rcases List.mem_cons.mp hp with q | q
      · subst q
        refine ⟨x, List.mem_cons_self, rfl, ?_⟩
        rw [← e1]
        exact r
      · obtain ⟨y, hy, h⟩ := k4 p q
        exact ⟨y, List.mem_cons_of_mem _ hy, h⟩
def toP : List Int → P2
  | [a, b] => (a, b, ())
  | _ => (0, 0, ())
theorem x_asc {ys : List P2} (hm : X.mg "sorted" = none) (hm2 : X.mg "set" = none) (hu : X.A.units + 64 < cLine) (ha : XE X a Γ (tTup (tPair tInt tInt)) (some xs)) (hy : ascO xs = some ys) (hc : X.calm = true := by rfl) (hg : Gl X "sorted" := by rfl) (hg2 : Gl X "set" := by rfl)
    (he2 : starEach [a] X.env = (false, eval a X.env) :: starEach [] X.env := by rfl) (he : starEach [.Call (.Name "set" p2) [a] [] q2] X.env = (false, eval (.Call (.Name "set" p2) [a] [] q2) X.env) :: starEach [] X.env := by rfl)
    (hpl2 : (backTo q2 (starEach [] X.env)).any (·.1) = false := by rfl) (hpl : (backTo pos (starEach [] X.env)).any (·.1) = false := by rfl) :
    XE X (.Call (.Name "sorted" p) [.Call (.Name "set" p2) [a] [] q2] [] pos) Γ (tLst (tPair tInt tInt)) (some ys) := by
  obtain ⟨⟨hlen, hb⟩, rfl⟩ := if_some hy
  have hb' : ∀ p ∈ xs, 0 ≤ p.1 ∧ p.1 < 64 ∧ 0 ≤ p.2.1 ∧ p.2.1 < 64 := fun p hp => by simpa using List.all_eq_true.mp hb p hp
  have h1 := pe_callTy (p := p2) (pos := q2) (cr_setT hc hu) hg2 hm2 (by decide +kernel) (pa_cons ha.raw pa_nil he2) (by decide) (by decide) he2 hpl2
  have h2 := pe_callB (p := p) (pos := pos) (cr_sortedT hc) hg hm (by decide +kernel) (pa_cons h1 pa_nil he) (by decide) (by decide) he hpl
  refine xe_mk h2 fun B σ Hs H Q c w hm' q => ?_
  cases hm'
  refine ⟨B, Hs, xs, w, rfl, fun v Hs1 H1 s1 ⟨l, us, r1, r2, r3⟩ => ?_⟩
  obtain ⟨ks, k1, k2, k3, k4⟩ := keys_of (K := X.K) s1.ss r3
  have kl : ks.length = xs.length := by
    have z := congrArg List.length k3
    rw [List.length_map, List.length_map] at z
    exact z
  subst r1 k1
  refine ⟨l, ks, rfl, SqT.of (s1.ss _ _ r2), k2, by omega, fun a0 L n0 hsub hall => ?_⟩
  refine ⟨a0, L, 2, 64, rfl, upd_same, fun p hp => ex_t (Ex.new n0) (k2 p (hsub p hp)), by decide, fun p hp => ?_, fun L' z pm nd _ srt hz => ?_⟩
  · obtain ⟨x, hx, e, _⟩ := k4 p (hsub p hp)
    rw [e]
    obtain ⟨b1, b2, b3, b4⟩ := hb' x hx
    refine ⟨rfl, fun m hm => ?_⟩
    rcases List.mem_cons.mp hm with e | hm
    · omega
    · have e : m = x.2.1 := by simpa using hm
      omega
  · have st : Step Hs1 H1 Hs1 (upd H1 a0 (SetTO X.prog X.w a0 L)) := (Step.refl s1.ss).mutD n0 (s1.ss.none n0)
    have key : ∀ p ∈ L', ∃ x ∈ xs, p.2 = [x.1, x.2.1] ∧ (tPair tInt tInt).R (.ref p.1) Hs1 x := fun p hp => k4 p (hsub p (pm.mem_iff.mp hp))
    have pr : ∀ M : List (Addr × List Int), (∀ p ∈ M, ∃ x ∈ xs, p.2 = [x.1, x.2.1] ∧ (tPair tInt tInt).R (.ref p.1) Hs1 x) → Paired (fun v p => (tPair tInt tInt).R v Hs1 p) (M.map fun q => V.ref q.1) (M.map fun q => toP q.2) := by
      intro M
      induction M with
      | nil => intro _; exact .nil
      | cons m M ih =>
        intro h
        obtain ⟨x, _, e, r⟩ := h m List.mem_cons_self
        refine .cons ?_ (ih fun p hp => h p (List.mem_cons_of_mem _ hp))
        have e2 : toP m.2 = x := by rw [e] <;> rfl
        show (tPair tInt tInt).R (V.ref m.1) Hs1 (toP m.2)
        rw [e2]
        exact r
    have eq : (L'.map fun q => toP q.2) = ascL xs := by
      have nd2 : (L'.map fun q => toP q.2).Nodup := by
        refine List.pairwise_map.mpr (List.Pairwise.imp_of_mem (fun {p q} hp hq k e => ?_) (List.pairwise_map.mp nd))
        obtain ⟨x, _, e1, _⟩ := key p hp
        obtain ⟨y, _, e2, _⟩ := key q hq
        rw [e1, e2] at e k
        have e3 : ((x.1, x.2.1, ()) : P2) = (y.1, y.2.1, ()) := e
        obtain ⟨f1, f2⟩ := Prod.mk.inj e3
        obtain ⟨f3, _⟩ := Prod.mk.inj f2
        exact k (by rw [f1, f3])
      refine srt_uniq ((List.perm_ext_iff_of_nodup nd2 ((sortS_perm _).nodup_iff.mpr (dedupS_nodup xs))).mpr fun x => ?_) ?_ (sortS_srt _)
      · show x ∈ (L'.map fun q => toP q.2) ↔ x ∈ ascL xs
        rw [ascL_mem, List.mem_map]
        refine ⟨fun ⟨p, hp, e⟩ => ?_, fun hx => ?_⟩
        · obtain ⟨y, hy, e1, _⟩ := key p hp
          rw [e1] at e
          have e2 : y = x := e
          rw [← e2]
          exact hy
        · have h3 : [x.1, x.2.1] ∈ ks.map (·.2) := by
            rw [k3]
            exact List.mem_map.mpr ⟨x, hx, rfl⟩
          obtain ⟨p, hp, e⟩ := List.mem_map.mp h3
          obtain ⟨p', hp', e'⟩ := List.mem_map.mp (hall p hp)
          refine ⟨p', pm.mem_iff.mpr hp', ?_⟩
          rw [e', e] <;> rfl
      · refine List.pairwise_map.mpr (List.Pairwise.imp_of_mem (fun {p q} hp hq k => ?_) srt)
        obtain ⟨x, hx, e1, _⟩ := key p hp
        obtain ⟨y, hy, e2, _⟩ := key q hq
        rw [e1, e2] at k ⊢
        rw [code_pair, code_pair] at k
        obtain ⟨b1, b2, b3, b4⟩ := hb' x hx
        obtain ⟨c1, c2, c3, c4⟩ := hb' y hy
        refine plt_no.mpr ?_
        show ¬ (y.1 < x.1 ∨ (y.1 = x.1 ∧ y.2.1 < x.2.1))
        omega
    have z0 : Hs1 z = none := (st.ss).none hz
    refine q _ _ _ ((s1.trans st).trans (Step.new st.ss hz)) ⟨z, _, rfl, upd_same, ?_⟩
    rw [← eq]
    exact pr_mono (Ex.new z0) (pr L' key)
end

/-! ### list.index -/
def idxL : List Int → Int → Option Nat
  | [], _ => none
  | y :: ys, x => if y = x then some 0 else (idxL ys x).map (· + 1)
theorem idxL_some : ∀ {ys : List Int} {x : Int} {j : Nat}, idxL ys x = some j → ys[j]? = some x ∧ ∀ m z, m < j → ys[m]? = some z → z ≠ x
  | y :: ys, x, j, h => by
    unfold idxL at h
    by_cases e : y = x
    · rw [if_pos e] at h
      cases h
      subst e
      exact ⟨rfl, fun m z hm => absurd hm (Nat.not_lt_zero _)⟩
    · rw [if_neg e] at h
      cases q : idxL ys x with
      | none =>
        rw [q] at h
        cases h
      | some k =>
        rw [q] at h
        cases h
        obtain ⟨h1, h2⟩ := idxL_some q
        refine ⟨h1, fun m z hm hz => ?_⟩
        cases m with
        | zero =>
          cases hz
          exact e
        | succ m => exact h2 m z (Nat.lt_of_succ_lt_succ hm) hz
theorem x_index {X : Cx} {Γ : Cn} {a b : Expr} {ap cp : Pos} {ns : List Int} {x : Int} (ha : XE X a Γ (tLst tInt) (some ns)) (hb : XE X b Γ tInt (some x))
    (h0 : PE X (.Call (.Attribute a "index" ap) [b] [] cp) (tBM X.K "list" (rIndex X.K) (tM Γ (tLst tInt) (some ns)) (tCons (tM Γ tInt (some x)) tNil))) :
    XE X (.Call (.Attribute a "index" ap) [b] [] cp) Γ tInt ((idxL ns x).map fun j => (j : Int)) :=
  xe_mk h0 fun B σ Hs H Q c w hm q => by
    cases e : idxL ns x with
    | none =>
      rw [e] at hm
      cases hm
    | some j =>
      rw [e] at hm
      cases hm
      obtain ⟨h1, h2⟩ := idxL_some e
      refine ⟨B, Hs, ns, w, rfl, fun v Hs1 H1 s1 ⟨l, us, r1, r2, r3⟩ => ?_⟩
      rw [pr_int r3] at r2
      subst r1
      refine ⟨Or.inl ⟨rfl, _, SqL.of (s1.ss _ _ r2)⟩, B, Hs1, x, w.step s1, rfl, fun u Hs2 H2 s2 t1 => ?_⟩
      cases (show u = .int x from t1)
      refine ⟨l, ns.map V.int, .int x, j, .int x, rfl, rfl, SqL.of (s2.ss _ _ (s2.es _ _ r2)), rfl, ?_, by rw [List.getElem?_map, h1] <;> rfl, by show (x == x) = true; simp, fun m z' hm hz => ?_, q _ Hs2 H2 (s1.trans s2) rfl⟩
      · rw [List.all_map]
        exact List.all_eq_true.mpr fun _ _ => rfl
      · rw [List.getElem?_map] at hz
        cases e2 : ns[m]? with
        | none =>
          rw [e2] at hz
          cases hz
        | some z =>
          rw [e2] at hz
          cases hz
          show (z == x) = false
          exact beq_eq_false_iff_ne.mpr (h2 m z hm e2)

/-! ### isinstance -/
section
variable {X : Cx} {Γ : Cn} {a c : Expr} {p pos : Pos} {α : Type} {T : Ty α} {d : α}
theorem x_isi {u : Value} {cv : V} {t : α → Value} {b : Bool} (hm : X.mg "isinstance" = none) (ha : XE X a Γ T (some d)) (hcl : PE X c (tC cv)) (hk : ClsV cv u) (hT : ∀ v H, T.R v H d → TyX X.K H v (t d)) (hb : PySem.W.kitOne X.K (t d) u = some b)
    (hg : Gl X "isinstance" := by rfl) (he : starEach [a, c] X.env = (false, eval a X.env) :: starEach [c] X.env := by rfl) (he2 : starEach [c] X.env = (false, eval c X.env) :: starEach [] X.env := by rfl) (hpl : (backTo pos (starEach [c] X.env)).any (·.1) = false := by rfl) :
    XE X (.Call (.Name "isinstance" p) [a, c] [] pos) Γ tBool (some b) :=
  xe_mk (pe_callB call_isi hg hm (by decide +kernel) (pa_cons ha.raw (pa_cons hcl pa_nil he2) he) (by decide) (by decide) he hpl) fun B σ Hs H Q z w hm' q => by
    cases hm'
    exact ⟨B, Hs, d, w, rfl, fun v Hs1 H1 s1 r1 => ⟨v, cv, t d, u, b, rfl, hk, hT v H1 (T.mono s1.ss r1), hb, q _ Hs1 H1 s1 rfl⟩⟩
theorem x_isiTy {n tn : String} {b : Bool} (hm : X.mg "isinstance" = none) (ha : XE X a Γ T (some d)) (hcl : PE X c (tC (.ty n))) (hT : ∀ v H, T.R v H d → TyX X.K H v (.type tn)) (hb : kitB tn n = some b)
    (hg : Gl X "isinstance" := by rfl) (he : starEach [a, c] X.env = (false, eval a X.env) :: starEach [c] X.env := by rfl) (he2 : starEach [c] X.env = (false, eval c X.env) :: starEach [] X.env := by rfl) (hpl : (backTo pos (starEach [c] X.env)).any (·.1) = false := by rfl) :
    XE X (.Call (.Name "isinstance" p) [a, c] [] pos) Γ tBool (some b) := x_isi (t := fun _ => .type tn) hm ha hcl (ClsV.ty n) hT (kit_ty hb) hg he he2 hpl
end
theorem tyx_int {K : PySem.W.Frag} {d : Int} (v : V) (H : Hp) (h : tInt.R v H d) : TyX K H v (.type "int") := by
  rw [show v = .int d from h]
  exact .base (.int d)
theorem tyx_tup {K : PySem.W.Frag} {α : Type} {T : Ty α} {d : List α} (v : V) (H : Hp) (h : (tTup T).R v H d) : TyX K H v (.type "tuple") := by
  obtain ⟨a, vs, h1, h2, _⟩ := h
  rw [h1]
  exact .base (.tup h2)
theorem tyx_tupN {K : PySem.W.Frag} {α : Type} {S : Tys α} {d : α} (v : V) (H : Hp) (h : (tTupN S).R v H d) : TyX K H v (.type "tuple") := by
  obtain ⟨a, vs, h1, h2, _⟩ := h
  rw [h1]
  exact .base (.tup h2)
end Pg
set_option Elab.async false
set_option maxRecDepth 100000
namespace Pg
open PySem L2
def top (i : Nat) : Stmt := PySem.Challenge.pw_pegstreet_k29_made_by_lendings_whole.main.body.getD i (.Pass ⟨0, 0, 0, 0⟩)
end Pg
set_option Elab.async false
set_option linter.all false
set_option maxRecDepth 100000
set_option maxHeartbeats 4000000
namespace Pg
open PySem PySem.Spec PyProof.Rows L2

/-! ### objects of own classes: the fields by name -/
def FsOk (Hs : Hp) : List (Str × Slot) → List (Str × V) → Prop
  | [], [] => True
  | s :: ss, q :: fs => q.1 = s.1 ∧ s.2.ok Hs (some q.2) ∧ FsOk Hs ss fs
  | _, _ => False
theorem FsOk.mono {Hs Hs' : Hp} (e : Ex Hs Hs') : ∀ {ss : List (Str × Slot)} {fs : List (Str × V)}, FsOk Hs ss fs → FsOk Hs' ss fs
  | [], [], _ => trivial
  | _ :: _, _ :: _, ⟨h1, h2, h3⟩ => ⟨h1, Slot.ok_mono e h2, FsOk.mono e h3⟩
  | [], _ :: _, h => h.elim
  | _ :: _, [], h => h.elim
theorem look_c {α : Type _} {f k : Str} {a : α} {r : List (Str × α)} : ((k, a) :: r).lookup f = if f = k then some a else r.lookup f := by
  by_cases e : f = k
  · subst e
    rw [if_pos rfl, List.lookup_cons_self]
  · rw [if_neg e]
    show (match f == k with
      | true => some a
      | false => List.lookup f r) = _
    rw [show (f == k) = false from beq_eq_false_iff_ne.mpr e]
theorem FsOk.look {Hs : Hp} {f : Str} {s : Slot} : ∀ {ss : List (Str × Slot)} {fs : List (Str × V)}, FsOk Hs ss fs → ss.lookup f = some s → ∃ v, fs.lookup f = some v ∧ s.ok Hs (some v)
  | [], [], _, e => by simp [List.lookup] at e
  | (k, t) :: ss, (k', v) :: fs, ⟨h1, h2, h3⟩, e => by
    have h1' : k' = k := h1
    subst h1'
    rw [look_c] at e ⊢
    by_cases q : f = k'
    · rw [if_pos q] at e ⊢
      cases e
      exact ⟨v, rfl, h2⟩
    · rw [if_neg q] at e ⊢
      exact FsOk.look h3 e
  | [], _ :: _, h, _ => h.elim
  | _ :: _, [], h, _ => h.elim
theorem FsOk.out {Hs : Hp} {f : Str} : ∀ {ss : List (Str × Slot)} {fs : List (Str × V)}, FsOk Hs ss fs → ss.lookup f = none → fs.lookup f = none
  | [], [], _, _ => rfl
  | (k, t) :: ss, (k', v) :: fs, ⟨h1, h2, h3⟩, e => by
    have h1' : k' = k := h1
    subst h1'
    rw [look_c] at e ⊢
    by_cases q : f = k'
    · rw [if_pos q] at e
      cases e
    · rw [if_neg q] at e ⊢
      exact FsOk.out h3 e
  | [], _ :: _, h, _ => h.elim
  | _ :: _, [], h, _ => h.elim
theorem FsOk.put {Hs : Hp} {f : Str} {s : Slot} {v : V} (hv : s.ok Hs (some v)) : ∀ {ss : List (Str × Slot)} {fs : List (Str × V)}, FsOk Hs ss fs → ss.lookup f = none → FsOk Hs (ss ++ [(f, s)]) (putF f v fs)
  | [], [], _, _ => ⟨rfl, hv, trivial⟩
  | (k, t) :: ss, (k', u) :: fs, ⟨h1, h2, h3⟩, e => by
    have h1' : k' = k := h1
    subst h1'
    rw [look_c] at e
    by_cases q : f = k'
    · rw [if_pos q] at e
      cases e
    · rw [if_neg q] at e
      show FsOk Hs ((k', t) :: (ss ++ [(f, s)])) (if k' = f then (k', v) :: fs else (k', u) :: putF f v fs)
      rw [if_neg fun z => q z.symm]
      exact ⟨rfl, h2, FsOk.put hv h3 e⟩
  | [], _ :: _, h, _ => h.elim
  | _ :: _, [], h, _ => h.elim
theorem FsOk.len {Hs : Hp} : ∀ {ss : List (Str × Slot)} {fs : List (Str × V)}, FsOk Hs ss fs → fs.length = ss.length
  | [], [], _ => rfl
  | _ :: ss, _ :: fs, ⟨_, _, h3⟩ => by rw [List.length_cons, List.length_cons, FsOk.len h3]
  | [], _ :: _, h => h.elim
  | _ :: _, [], h => h.elim
/-- an instance of the class at C whose fields are fl d -/
def tObj {α : Type} (C : Addr) (fl : α → List (Str × Slot)) : Ty α := ⟨fun v H d => ∃ a dx fs, v = .ref a ∧ H a = some (.ins C dx fs) ∧ FsOk H (fl d) fs, fun e ⟨a, dx, fs, h1, h2, h3⟩ => ⟨a, dx, fs, h1, e _ _ h2, FsOk.mono e h3⟩⟩
theorem nn_obj {α : Type} {C : Addr} {fl : α → List (Str × Slot)} : NN (tObj C fl) := ⟨fun v H d ⟨a, dx, fs, h, _⟩ => by
  rw [h]
  exact fun z => nomatch z⟩
/-- every field's type is solid -/
def SoFs : List (Str × Slot) → Prop
  | [] => True
  | (_, .non) :: ss => SoFs ss
  | (_, .val T _) :: ss => Solid T ∧ SoFs ss
theorem FsOk.del {H : Hp} {l : Addr} {vs : List V} (e : H l = some (.lst vs)) : ∀ {ss : List (Str × Slot)} {fs : List (Str × V)}, SoFs ss → FsOk H ss fs → FsOk (del H l) ss fs
  | [], [], _, _ => trivial
  | (k, .non) :: ss, _ :: fs, s, ⟨h1, h2, h3⟩ => ⟨h1, trivial, FsOk.del e (show SoFs ss from s) h3⟩
  | (k, .val T d) :: ss, _ :: fs, s, ⟨h1, ⟨v, h2, h4⟩, h3⟩ => ⟨h1, ⟨v, h2, (show Solid T ∧ SoFs ss from s).1.so e h4⟩, FsOk.del e (show Solid T ∧ SoFs ss from s).2 h3⟩
  | [], _ :: _, _, h => h.elim
  | (_, .non) :: _, [], _, h => h.elim
  | (_, .val _ _) :: _, [], _, h => h.elim
theorem so_obj {α : Type} {C : Addr} {fl : α → List (Str × Slot)} (h : ∀ d, SoFs (fl d)) : Solid (tObj C fl) := ⟨fun {v H l d vs} e ⟨a, dx, fs, h1, h2, h3⟩ => ⟨a, dx, fs, h1, by
  rw [del_ne (ne_of h2 e fun z => nomatch z)]
  exact h2, h3.del e (h d)⟩⟩
/-- what of the text a class must have: names that no class of it has -/
structure ClsF (K : PySem.W.Frag) (C : Addr) (ns : List Str) : Prop where
  cl : Cls K C
  na : ∀ f, ns.contains f = true → NoAttr K C f
section
variable {X : Cx} {Γ : Cn} {C : Addr} {ns : List Str} {e : Expr} {f m : Str} {pos ap : Pos} {α β γ : Type} {fl : α → List (Str × Slot)} {d : α} {T : Ty β} {x : β}
theorem x_fld (cf : ClsF X.K C ns) (ha : XE X e Γ (tObj C fl) (some d)) (h : (fl d).lookup f = some (.val T x) := by rfl) (hf : ns.contains f = true := by rfl) (hb : attributeBase e f X.env (eval e X.env) = eval e X.env := by rfl) : XE X (.Attribute e f pos) Γ T (some x) :=
  xe_mk (pe_fld ha.raw hb) fun B σ Hs H Q c w hm q => by
    cases hm
    refine ⟨B, Hs, d, w, rfl, fun v Hs1 H1 s1 ⟨a, dx, fs, r1, r2, r3⟩ => ?_⟩
    obtain ⟨u, h1, u', h2, h3⟩ := r3.look h
    cases h2
    exact ⟨a, C, dx, fs, u, r1, s1.ss _ _ r2, cf.cl, cf.na f hf, h1, q u Hs1 H1 s1 h3⟩
end

/-! ### methods, properties -/
structure HasM (P : Program) (w : World) (K : PySem.W.Frag) (mg : Str → Option Value) (base : Heap) (C : Addr) (m : Str) (k : Nat) (sp : Sp) : Prop where
  ex : ∃ f fd ps, FnOk P w K mg base CX0 k f fd ps sp ∧ Meth K C m f ∧ Binds K fd ps []
structure HasP (P : Program) (w : World) (K : PySem.W.Frag) (mg : Str → Option Value) (base : Heap) (C : Addr) (m : Str) (k : Nat) (sp : Sp) : Prop where
  ex : ∃ p f fd ps, FnOk P w K mg base CX0 k f fd ps sp ∧ PropOf K C m p f ∧ Binds K fd ps []
section
variable {X : Cx} {Γ : Cn} {C : Addr} {k : Nat} {e o : Expr} {es : List Expr} {f m : Str} {pos ap : Pos} {α β γ : Type} {fl : α → List (Str × Slot)} {d : α} {A : Tys β} {R : Ty γ} {a : β}
theorem x_meth {mm : α × β → Option γ} {pl : Sem Bool} (cl : Cls X.K C) (F : HasM X.prog X.w X.K X.mg X.base C m k (SpF (ysC (tObj C fl) A) R mm)) (hr : Room k X.A) (ho : XE X o Γ (tObj C fl) (some d)) (ha : XA X (e :: es) Γ A (some a)) (hl : (fl d).lookup m = none := by rfl)
    (hst : starEach (e :: es) X.env = (false, eval e X.env) :: starEach es X.env := by rfl) (hpl : (backTo pos (starEach es X.env)).any (·.1) = false := by rfl)
    (ht : eval (.Call (.Attribute o m ap) (e :: es) [] pos) X.env = (do
      let ov ← eval o X.env
      standAt ap.atName
      let (f, first) ← holding [ov] (getMethod ov m pl)
      callWith pos f first (backTo pos (starEach (e :: es) X.env)) (backToKw pos (keywordEach [] X.env))) := by rfl) : XE X (.Call (.Attribute o m ap) (e :: es) [] pos) Γ R (mm (d, a)) := by
  obtain ⟨f, fd, ps, F, hm, hb⟩ := F.ex
  refine xe_mk (pe_meth (E := E0) ho.raw cl hm F hr hb .nil pass0 ha.pa hst hpl ht) fun B σ Hs H Q r w hr' q => ⟨B, Hs, d, w, rfl, fun v Hs1 H1 s1 ⟨a1, dx, fs, r1, r2, r3⟩ => ?_⟩
  refine ⟨a1, dx, fs, r1, s1.ss _ _ r2, r3.out hl, B, Hs1, a, w.step s1, rfl, fun vs Hs2 H2 s2 rv => ?_⟩
  show SpF (ysC (tObj C fl) A) R mm (v :: (vs ++ [])) H2 Q E0
  rw [List.append_nil]
  exact ⟨Hs2, (d, a), r, s2.ss, ⟨v, vs, rfl, (tObj C fl).mono s2.es ⟨a1, dx, fs, r1, r2, r3⟩, rv⟩, hr', fun z Hs3 H3 s3 r4 => q z Hs3 H3 ((s1.trans s2).trans s3) r4⟩
theorem x_prop {mm : α × Unit → Option γ} (cl : Cls X.K C) (F : HasP X.prog X.w X.K X.mg X.base C m k (SpF (ysC (tObj C fl) ysN) R mm)) (hr : Room (k + 1) X.A) (ho : XE X o Γ (tObj C fl) (some d))
    (hb0 : attributeBase o m X.env (eval o X.env) = eval o X.env := by rfl) : XE X (.Attribute o m pos) Γ R (mm (d, ())) := by
  obtain ⟨p, f, fd, ps, F, hp, hb⟩ := F.ex
  refine xe_mk (pe_prop (E := E0) ho.raw cl hp F hr hb .nil pass0 hb0) fun B σ Hs H Q r w hr' q => ⟨B, Hs, d, w, rfl, fun v Hs1 H1 s1 ⟨a1, dx, fs, r1, r2, r3⟩ => ?_⟩
  subst r1
  exact ⟨a1, dx, fs, rfl, s1.ss _ _ r2, Hs1, (d, ()), r, s1.ss, ⟨_, _, rfl, ⟨a1, dx, fs, rfl, r2, r3⟩, rfl⟩, hr', fun z Hs3 H3 s3 r4 => q z Hs3 H3 (s1.trans s3) r4⟩
end

/-! ### a new object -/
/-- what __init__ promises: the object is laid -/
def SpI {α ρ : Type} (C : Addr) (fl : ρ → List (Str × Slot)) (A : Tys α) (m : α → Option ρ) : Sp := fun vs H Q _ => ∃ a dx ws Hs H1 d r, vs = .ref a :: ws ∧ H1 a = none ∧ H1 dx = none ∧ dx ≠ a ∧ H = upd (upd H1 dx (.own a)) a (.ins C dx []) ∧ Ex Hs H1 ∧ A.R ws Hs d ∧ m d = some r ∧
  ∀ Hs' H', Step Hs H1 Hs' H' → (tObj C fl).R (.ref a) Hs' r → Q .non H'
structure HasC (P : Program) (w : World) (K : PySem.W.Frag) (mg : Str → Option Value) (base : Heap) (x : Str) (C : Addr) (k : Nat) (sp : Sp) : Prop where
  ex : ∃ f fd ps, FnOk P w K mg base CX0 k f fd ps sp ∧ Mk K C f ∧ mg x = some (.ref C) ∧ Binds K fd ps []
/-- with keywords: n positional values behind self, the keywords ks; gV puts them together -/
structure HasCK (P : Program) (w : World) (K : PySem.W.Frag) (mg : Str → Option Value) (base : Heap) (x : Str) (C : Addr) (k n : Nat) (ks : List Str) (gV : List V → List V → List V) (sp : Sp) : Prop where
  ex : ∃ f fd ps g, FnOk P w K mg base CX0 k f fd ps sp ∧ Mk K C f ∧ mg x = some (.ref C) ∧ KBn K fd ps (n + 1) ks g gV
section
variable {X : Cx} {Γ : Cn} {C : Addr} {k n : Nat} {e : Expr} {es : List Expr} {x : Str} {p pos kp : Pos} {α ρ : Type} {fl : ρ → List (Str × Slot)} {A : Tys α} {a : α} {m : α → Option ρ}
theorem x_make (F : HasC X.prog X.w X.K X.mg X.base x C k (SpI C fl A m)) (hr : Room (k + 1) X.A) (ha : XA X (e :: es) Γ A (some a)) (hg : Gl X x := by rfl) (hdb : (x == ("__debug__" : Str)) = false := by decide)
    (he : starEach (e :: es) X.env = (false, eval e X.env) :: starEach es X.env := by rfl) (hpl : (backTo pos (starEach es X.env)).any (·.1) = false := by rfl) : XE X (.Call (.Name x p) (e :: es) [] pos) Γ (tObj C fl) (m a) := by
  obtain ⟨f, fd, ps, F, M, hm, hb⟩ := F.ex
  refine xe_mk (pe_make (E := E0) M F hr hg hm hb .nil pass0 ha.pa hdb he hpl) fun B σ Hs H Q r w hr' q => ⟨B, Hs, a, w, rfl, fun vs Hs1 H1 s1 rv => fun y dx n1 n2 n3 => ?_⟩
  refine ⟨y, dx, vs, Hs1, H1, a, r, by rw [List.append_nil], n1, n2, n3, rfl, s1.ss, rv, hr', fun Hs2 H2 s2 r2 => ⟨rfl, q _ Hs2 H2 (s1.trans s2) r2⟩⟩
theorem step_made {Hs H1 : Hp} {a dx C : Addr} (e : Ex Hs H1) (n1 : H1 a = none) (n2 : H1 dx = none) (n3 : dx ≠ a) : Step Hs H1 Hs (upd (upd H1 dx (.own a)) a (.ins C dx [])) :=
  ((Step.refl e).mutD n2 (e.none n2)).mutD n1 (e.none n1)
/-- C(e, .., k = v) -/
theorem x_makeK {b : Expr} {nm : Option Str} {ks : List Str} {β γ : Type} {T : Ty β} {y : β} {A2 : Tys γ} {m : γ → Option ρ} {gV : List V → List V → List V} {c : γ} (F : HasCK X.prog X.w X.K X.mg X.base x C k n ks gV (SpI C fl A2 m)) (hr : Room (k + 1) X.A) (ha : XA X (e :: es) Γ A (some a)) (hk : XE X b Γ T (some y))
    (hA : ∀ vs v Hs, A.R vs Hs a → T.R v Hs y → vs.length = n ∧ ks.length = 1 ∧ ∀ q, ∃ ws, gV (q :: vs) [v] = q :: ws ∧ A2.R ws Hs c) (hg : Gl X x := by rfl) (hdb : (x == ("__debug__" : Str)) = false := by decide)
    (hall : (backToKw pos (keywordEach [⟨nm, b, kp⟩] X.env)).all (·.1.isSome) = true := by rfl) (hks : (backToKw pos (keywordEach [⟨nm, b, kp⟩] X.env)).filterMap (·.1) = ks := by rfl)
    (he : starEach (e :: es) X.env = (false, eval e X.env) :: starEach es X.env := by rfl) (hpl : ((backTo pos (starEach (e :: es) X.env)).any (·.1) || (backToKw pos (keywordEach [⟨nm, b, kp⟩] X.env)).any (·.1.isNone)) = false := by rfl) :
    XE X (.Call (.Name x p) (e :: es) [⟨nm, b, kp⟩] pos) Γ (tObj C fl) (m c) := by
  obtain ⟨f, fd, ps, g, F, M, hm, hb⟩ := F.ex
  refine xe_mk (pe_makeK (E := E0) M F hr hg hm hb pass0 ha.pa (pk_cons hk.raw pk_nil) hall hks hdb he hpl) fun B σ Hs H Q r w hr' q => ⟨B, Hs, a, w, rfl, fun vs Hs1 H1 s1 rv => ⟨B, Hs1, y, w.step s1, rfl, fun v Hs2 H2 s2 rv2 => ?_⟩⟩
  obtain ⟨l1, l2, h3⟩ := hA vs v Hs2 (A.mono s2.es rv) rv2
  refine ⟨l1, l2.symm, fun z dx n1 n2 n3 => ?_⟩
  obtain ⟨ws, e1, r3⟩ := h3 (.ref z)
  exact ⟨z, dx, ws, Hs2, H2, c, r, e1, n1, n2, n3, rfl, s2.ss, r3, hr', fun Hs3 H3 s3 r4 => ⟨rfl, q _ Hs3 H3 ((s1.trans s2).trans s3) r4⟩⟩
/-- C(e, ..), the keyword-only parameters by their defaults -/
theorem x_makeD {γ : Type} {A2 : Tys γ} {m : γ → Option ρ} {gV : List V → List V → List V} {c : γ} (F : HasCK X.prog X.w X.K X.mg X.base x C k n [] gV (SpI C fl A2 m)) (hr : Room (k + 1) X.A) (ha : XA X (e :: es) Γ A (some a))
    (hA : ∀ vs Hs, A.R vs Hs a → vs.length = n ∧ ∀ q, ∃ ws, gV (q :: vs) [] = q :: ws ∧ A2.R ws Hs c) (hg : Gl X x := by rfl) (hdb : (x == ("__debug__" : Str)) = false := by decide)
    (he : starEach (e :: es) X.env = (false, eval e X.env) :: starEach es X.env := by rfl) (hpl : ((backTo pos (starEach (e :: es) X.env)).any (·.1) || (backToKw pos (keywordEach [] X.env)).any (·.1.isNone)) = false := by rfl) :
    XE X (.Call (.Name x p) (e :: es) [] pos) Γ (tObj C fl) (m c) := by
  obtain ⟨f, fd, ps, g, F, M, hm, hb⟩ := F.ex
  refine xe_mk (pe_makeK (E := E0) M F hr hg hm hb pass0 ha.pa pk_nil rfl rfl hdb he hpl) fun B σ Hs H Q r w hr' q => ⟨B, Hs, a, w, rfl, fun vs Hs1 H1 s1 rv => ?_⟩
  obtain ⟨l1, h3⟩ := hA vs Hs1 rv
  refine ⟨l1, rfl, fun z dx n1 n2 n3 => ?_⟩
  obtain ⟨ws, e1, r3⟩ := h3 (.ref z)
  exact ⟨z, dx, ws, Hs1, H1, c, r, e1, n1, n2, n3, rfl, s1.ss, r3, hr', fun Hs3 H3 s3 r4 => ⟨rfl, q _ Hs3 H3 (s1.trans s3) r4⟩⟩
end

/-! ### an object under construction -/
def muO (i : Nat) (C a : Addr) (ss : List (Str × Slot)) : Mu where
  I := fun H0 σ Hs H => ∃ dx fs, σ[i]? = some (some (.ref a)) ∧ H0 a = none ∧ Hs a = none ∧ H a = some (.ins C dx fs) ∧ FsOk Hs ss fs
  dep := [i]
  keep := fun ⟨dx, fs, h1, h2, h3, h4, h5⟩ s => ⟨dx, fs, h1, h2, s.free h3 h4, s.eh _ _ h4, FsOk.mono s.es h5⟩
  loc := fun e ⟨dx, fs, h1, h2, h3, h4, h5⟩ => ⟨dx, fs, (e i (List.mem_cons_self ..)).trans h1, h2, h3, h4, h5⟩
section
variable {X : Cx} {ρ : List Slot} {i : Nat} {C a : Addr} {ss : List (Str × Slot)} {ns : List Str} {e : Expr} {f z : Str} {pos ap p : Pos} {α β : Type} {T : Ty β} {d : β}
/-- self.f -/
theorem x_sfld (cf : ClsF X.K C ns) (h : ss.lookup f = some (.val T d) := by rfl) (hN : X.N[i]? = some z := by rfl) (hv : Vis X.env.scope z := by first | exact Or.inl rfl | exact Or.inr (Or.inl rfl) | exact Or.inr (Or.inr rfl)) (hf : ns.contains f = true := by rfl)
    (hd : (z == ("__debug__" : Str)) = false := by decide) (hcd : (z == ("__classdict__" : Str)) = false := by decide) (hb : attributeBase (.Name z p) f X.env (eval (.Name z p) X.env) = eval (.Name z p) X.env := by rfl) : XE X (.Attribute (.Name z p) f pos) ⟨ρ, muO i C a ss⟩ T (some d) :=
  xe_mk (pe_fld (pe_var hN hv hd hcd) hb) fun B σ Hs H Q c w hm q => by
    cases hm
    obtain ⟨dx, fs, h1, h2, h3, h4, h5⟩ := w.mu
    obtain ⟨u, k1, u', k2, k3⟩ := h5.look h
    cases k2
    exact ⟨.ref a, h1, a, C, dx, fs, u, rfl, h4, cf.cl, cf.na f hf, k1, q u Hs H (Step.refl w.ex) k3⟩
variable {S B R : Type} {Gn : S → Cn} {Gb : B → Cn} {Tr : Ty R} {mm : Option (Out S B R)} {rest : List Stmt}
/-- self.f = e, a new field -/
theorem xs_fset (cf : ClsF X.K C ns) (he : XE X e ⟨ρ, muO i C a ss⟩ T (some d)) (hr : XSs X rest ⟨ρ, muO i C a (ss ++ [(f, .val T d)])⟩ Gn Gb Tr mm) (h : ss.lookup f = none := by rfl) (hN : X.N[i]? = some z := by rfl)
    (hv : Vis X.env.scope z := by first | exact Or.inl rfl | exact Or.inr (Or.inl rfl) | exact Or.inr (Or.inr rfl)) (hf : ns.contains f = true := by rfl) (hl : Nat.blt ss.length 900 = true := by rfl)
    (hd : (z == ("__debug__" : Str)) = false := by decide) (hcd : (z == ("__classdict__" : Str)) = false := by decide) (hs : swapsWith e (some (.Attribute (.Name z p) f ap)) pos.line X.env = pure false := by rfl) :
    XSs X (.Assign [.Attribute (.Name z p) f ap] e pos :: rest) ⟨ρ, muO i C a ss⟩ Gn Gb Tr mm := by
  refine ⟨pss_imp (pss_cons (ps_fld (pe_var hN hv hd hcd) he.raw hs) hr.pss) fun D σ H ⟨Bs0, Hs, o, w, hm, k⟩ => ⟨Bs0, Hs, d, w, rfl, fun v Hs' H' s r => ?_⟩⟩
  have w' := w.step s
  obtain ⟨dx, fs, h1, h2, h3, h4, h5⟩ := w'.mu
  refine ⟨.ref a, h1, a, C, dx, fs, rfl, h4, cf.cl, cf.na f hf, ?_, ?_⟩
  · have z := h5.len
    have z2 : ss.length < 900 := Nat.le_of_ble_eq_true hl
    omega
  · exact ⟨Bs0, Hs', o, ⟨w'.st.mutD h2 h3, w'.sl, dx, _, h1, h2, h3, upd_same, FsOk.put (s := .val T d) ⟨v, rfl, r⟩ h5 h⟩, hm, k.ex s.es⟩
end
def endG {S B R ρ : Type} (g : S → ρ) : Option (Out S B R) → Option ρ
  | some (.nx s) => some (g s)
  | _ => none
theorem endG_some {S B R ρ : Type} {g : S → ρ} {m : Option (Out S B R)} {u : ρ} (h : endG g m = some u) : ∃ s, m = some (.nx s) ∧ g s = u := by
  cases m with
  | none => cases h
  | some o =>
    cases o with
    | nx s => exact ⟨s, rfl, Option.some.inj h⟩
    | ret x => cases h
    | brk b => cases h
/-- the slots at the entry of __init__ -/
def gamI {α : Type} (C a : Addr) (sl : α → List Slot) (n : Nat) (d : α) : Cn := ⟨.non :: (sl d ++ List.replicate n .non), muO 0 C a []⟩
section
variable {P : Program} {w : World} {K : PySem.W.Frag} {mg : Str → Option Value} {base : Heap} {x qual : Str} {st : Stmt} {f : Addr} {fd : FuncData} {N ps : List Str} {k : Nat} {α ρ : Type} {A : Tys α} {kws : List (Str × V)} {C : Addr} {fl : ρ → List (Str × Slot)}
theorem fn_init {S B R : Type} {Tr : Ty R} {sl : α → List Slot} {Gn : Addr → S → Cn} {Gb : B → Cn} {m : α → Option (Out S B R)} (g : S → ρ) (F : FunD K x qual (defArgs st) (defBody st) (defScope st) [] kws f fd) (Sc : FnScope N ps (defScope st)) (hp : Prm A sl) (ha : A.ar + 1 = ps.length) (hn : ps.length ≤ N.length)
    (hg : ∀ a s, (Gn a s).μ = muO 0 C a (fl (g s)))
    (hb : ∀ (cdv : Value) (Ar : Around) (outer : List Env) (s : Shared) (H : Hp) (E : XK) (a : Addr) d, Room k (Ar.deeper (envOfC qual (defScope st) s.heap.objs.size f cdv)) → XSs (cxOf CX0 P w K mg base N qual (defScope st) f cdv Ar outer s H E).nox (defBody st) (gamI C a sl (N.length - ps.length) d) (Gn a) Gb Tr (m d)) :
    FnOk P w K mg base CX0 (k + 1) f fd ps (SpI C fl A fun d => endG g (m d)) := by
  refine F.ok Sc (fun vs H Q E ⟨a, dx, ws, Hs, H1, d, r, e, _, _, _, _, _, rv, _⟩ => by rw [e, List.length_cons, A.len rv, ha]) fun cdv Ar outer s H vs Q E hr ⟨a, dx, ws, Hs, H1, d, r, e1, n1, n2, n3, e2, ex, rv, hm, q⟩ => ?_
  obtain ⟨s1, hs1, hg1⟩ := endG_some hm
  subst e1 e2
  have st := step_made (C := C) ex n1 n2 n3
  refine ⟨_, PSs.nox (hb cdv Ar outer s _ E a d hr).pss, ⟨Hs, H1⟩, Hs, .nx s1, ⟨st, ?_, dx, [], rfl, n1, ex.none n1, upd_same, trivial⟩, hs1, fun σ' Hs' H' _ w' => ?_⟩
  · have e : ws.length + 1 = ps.length := by rw [A.len rv, ha]
    have z := (hp.ok ws Hs d rv).more (N.length - ps.length)
    refine ⟨?_, fun i u hu => ?_⟩
    · show (Slot.non :: (sl d ++ List.replicate (N.length - ps.length) Slot.non)).length = ((V.ref a :: ws).map some ++ List.replicate (N.length - (V.ref a :: ws).length) Option.none).length
      rw [List.length_cons, z.1, List.map_cons, List.cons_append, List.length_cons, List.length_cons, e]
    · show ∃ o, ((V.ref a :: ws).map some ++ List.replicate (N.length - (V.ref a :: ws).length) Option.none)[i]? = some o ∧ u.ok Hs o
      rw [List.map_cons, List.cons_append, List.length_cons, e]
      cases i with
      | zero =>
        cases hu
        exact ⟨_, rfl, trivial⟩
      | succ i => exact z.2 i u hu
  · have mu : (muO 0 C a (fl (g s1))).I H1 σ' Hs' H' := by
      rw [← hg a s1]
      exact w'.mu
    obtain ⟨dx', fs', h1, h2, h3, h4, h5⟩ := mu
    rw [hg1] at h5
    refine q (upd Hs' a (.ins C dx' fs')) H' (w'.st.frz n1 (ex.none n1) h4) ⟨a, dx', fs', rfl, upd_same, FsOk.mono (Ex.new h3) h5⟩
end
end Pg
set_option Elab.async false
set_option linter.all false
set_option maxRecDepth 100000
set_option maxHeartbeats 4000000
namespace Pg
open PySem PySem.Spec PyProof.Rows L2

/-! ### two fors in a comprehension -/
def lcG2 {α β γ : Type} (mi : α → Option (List β)) (me : α → β → Option γ) (xs : List α) : Option (List γ) := (lcM2 mi me xs).bind fun ys => if ys.length ≤ 100000 then some ys else none
theorem lcM2_cons {α β γ : Type} (mi : α → Option (List β)) (me : α → β → Option γ) (x : α) (xs : List α) : lcM2 mi me (x :: xs) = (mi x).bind fun zs => (mapO (me x) zs).bind fun ys => (lcM2 mi me xs).map (ys ++ ·) := rfl
theorem mapO_cons {α β : Type} (f : α → Option β) (x : α) (xs : List α) : mapO f (x :: xs) = (f x).bind fun y => (mapO f xs).map (y :: ·) := rfl
section
variable {X : Cx} {Γ : Cn} {α β γ : Type} {A : Ty α} {A1 : Ty β} {C : Ty γ} {xs : List α} {G : α → Cn → Cn} {G1 : β → Cn → Cn} {is is1 own vs1 : List Nat} {mi : α → Option (List β)} {me : α → β → Option γ} {ys : List γ}
def ttA (Γw : Cn) (G : α → Cn → Cn) : TT := fun σ H Q => ∃ x, tMT (G x Γw) (some true) σ H Q
def tiO (Γw : Cn) (G : α → Cn → Cn) (A1 : Ty β) (mi : α → Option (List β)) : TI := fun σ H R => ∃ x zs, mi x = some zs ∧ tI (G x Γw) A1 zs σ H R
def ttB (Γw : Cn) (G : α → Cn → Cn) (G1 : β → Cn → Cn) (vs1 : List Nat) : TT := fun σ H Q => ∃ x y, tMT (G1 y (wipeC (G x Γw) vs1)) (some true) σ H Q
def teB (Γw : Cn) (G : α → Cn → Cn) (G1 : β → Cn → Cn) (vs1 : List Nat) (C : Ty γ) (me : α → β → Option γ) : TE := fun σ H Q => ∃ x y, tM (G1 y (wipeC (G x Γw) vs1)) C (me x y) σ H Q
theorem ite_t {a b : Prop} (h : a) : (if (true : Bool) = true then a else b) := by
  rw [if_pos rfl]
  exact h
theorem drop_at {α : Type} {xs : List α} {i : Nat} {x : α} (hx : xs[i]? = some x) : i < xs.length ∧ xs.drop i = x :: xs.drop (i + 1) := by
  have hlt := (List.getElem?_eq_some_iff.mp hx).1
  refine ⟨hlt, ?_⟩
  rw [List.drop_eq_getElem_cons hlt]
  congr 1
  exact (List.getElem?_eq_some_iff.mp hx).2
theorem lc2_read {B : Bs} {σ : L2.St} {Hs H : Hp} {Q : VK} (w : W B Γ σ Hs H) (hm : lcG2 mi me xs = some ys) (hdep : ∀ i ∈ own, Γ.μ.dep.contains i = false) (his : ∀ i ∈ is, i ∈ own) (hG : ∀ x Γ, (G x Γ).μ = Γ.μ)
    (his1 : ∀ i ∈ is1, i ∈ vs1) (hvs : ∀ i ∈ vs1, i ∈ own) (hG1 : ∀ x Γ, (G1 x Γ).μ = Γ.μ)
    (q : ∀ v Hs' H', Step Hs H Hs' H' → (tLst C).R v Hs' ys → Q v H') :
    tLc2 (tI Γ A xs) (tG A G is) (ttA (wipeC Γ own) G) (tiO (wipeC Γ own) G A1 mi) (tG A1 G1 is1) (ttB (wipeC Γ own) G G1 vs1) (teB (wipeC Γ own) G G1 vs1 C me) own vs1 σ H Q := by
  have hm0 : lcM2 mi me xs = some ys ∧ ys.length ≤ 100000 := by
    unfold lcG2 at hm
    cases e : lcM2 mi me xs with
    | none =>
      rw [e] at hm
      cases hm
    | some zs =>
      rw [e] at hm
      obtain ⟨h1, h2⟩ := if_some (show (if zs.length ≤ 100000 then some zs else none) = some ys from hm)
      rw [h2] at h1
      exact ⟨by rw [h2], h1⟩
  obtain ⟨hm1, hsz⟩ := hm0
  have hsl : (100000 : Nat) < sizeLine := by decide
  refine ⟨B, Hs, w, fun J Hs1 H1 st1 hl wk D hD => ?_⟩
  have w1 := w.step st1
  refine ⟨fun i m H' => m = xs.length - i ∧ i ≤ xs.length ∧ ∃ Hs' vs ds, Step Hs1 H1 Hs' H' ∧ Hs' D = none ∧ H' D = some (.lst vs) ∧ Paired (fun v x => C.R v Hs' x) vs ds ∧ (lcM2 mi me (xs.drop i)).map (ds ++ ·) = some ys, ⟨xs.length, rfl, Nat.zero_le _, Hs1, [], [], (Step.refl st1.ss).mutD hD (st1.ss.none hD), st1.ss.none hD, upd_same, .nil, ?_⟩, ?_⟩
  · rw [List.drop_zero, hm1] <;> rfl
  rintro i m H' ⟨rfl, hile, Hs', vs, ds, st, n1, n2, p, hm'⟩
  obtain ⟨j1, j2⟩ := wk Hs' H' i st.es st.ss
  cases hx : xs[i]? with
  | none =>
    have hle : xs.length ≤ i := List.getElem?_eq_none_iff.mp hx
    rw [List.drop_of_length_le hle] at hm'
    have e1 : ds ++ [] = ys := Option.some.inj hm'
    rw [List.append_nil] at e1
    subst e1
    refine .inl ⟨j1 hle, q _ (upd Hs' D (.lst vs)) H' (st1.trans (st.frz hD (st1.ss.none hD) n2)) ⟨D, vs, rfl, upd_same, pr_mono (Ex.new n1) p⟩⟩
  | some x =>
    obtain ⟨g1, g2⟩ := j2 x hx
    obtain ⟨hlt, ed⟩ := drop_at hx
    rw [ed, lcM2_cons] at hm'
    cases ez : mi x with
    | none =>
      rw [ez] at hm'
      cases hm'
    | some zs =>
    rw [ez] at hm'
    have hm2 : Option.map (ds ++ ·) ((mapO (me x) zs).bind fun l => (lcM2 mi me (xs.drop (i + 1))).map (l ++ ·)) = some ys := hm'
    refine .inr ⟨g1, fun H2 => i + 1 ≤ xs.length ∧ ∃ Hs' vs ds, Step Hs1 H1 Hs' H2 ∧ Hs' D = none ∧ H2 D = some (.lst vs) ∧ Paired (fun v x => C.R v Hs' x) vs ds ∧ (lcM2 mi me (xs.drop (i + 1))).map (ds ++ ·) = some ys, fun H2 z => ⟨xs.length - (i + 1), by omega, rfl, z⟩, fun y H2 hy => ?_⟩
    obtain ⟨Hs2, st2, r2⟩ := g2 y H2 hy
    have s2 := st.trans st2
    have w2 := (w1.step s2).wipe hdep
    refine ⟨x, B, wipeC Γ own, Hs2, fun i hi => hdep i (his i hi), w2, r2, fun σ3 a3 l3 w3 => ⟨wipe_eq l3 a3 his, ?_⟩⟩
    have again : ∀ Hs' H', Step Hs1 H1 Hs' H' → Ex Hs2 Hs' → W B (G x (wipeC Γ own)) σ3 Hs' H' := fun Hs' H' s e => ⟨(w1.step s).st, w3.sl.mono e, by
      rw [hG]
      refine Γ.μ.loc (fun j hj => ?_) (w1.step s).mu
      have nj : j ∉ own := fun z => by
        have q := hdep j z
        rw [List.contains_iff_mem.mpr hj] at q
        cases q
      rw [a3 j fun z => nj (his j z), wipe_out nj]⟩
    refine ⟨x, B, Hs2, true, w3, rfl, fun Hs4 H4 st4 => ?_⟩
    have n4 : Hs4 D = none := st4.free (st2.free n1 n2) (st2.eh _ _ n2)
    have m4 : H4 D = some (.lst vs) := st4.eh _ _ (st2.eh _ _ n2)
    have w4 := w3.step st4
    have s4 := s2.trans st4
    refine ite_t ?_
    refine ⟨x, zs, ez, B, Hs4, w4, fun J1 Hs5 H5 st5 hl5 wk5 => ?_⟩
    have n5 : Hs5 D = none := st5.free n4 m4
    have m5 : H5 D = some (.lst vs) := st5.eh _ _ m4
    have e25 := st4.es.trans st5.es
    refine ⟨fun j k H' => k = zs.length - j ∧ j ≤ zs.length ∧ ∃ Hs' vs ds, Step Hs1 H1 Hs' H' ∧ Ex Hs5 Hs' ∧ Hs' D = none ∧ H' D = some (.lst vs) ∧ Paired (fun v x => C.R v Hs' x) vs ds ∧ Option.map (ds ++ ·) ((mapO (me x) (zs.drop j)).bind fun l => (lcM2 mi me (xs.drop (i + 1))).map (l ++ ·)) = some ys,
      ⟨zs.length, rfl, Nat.zero_le _, Hs5, vs, ds, s4.trans st5, Ex.refl _, n5, m5, pr_mono ((st2.es.trans st4.es).trans st5.es) p, by rw [List.drop_zero]; exact hm2⟩, ?_⟩
    rintro j k H6 ⟨rfl, hjle, Hs6, vs6, ds6, st6, e6, n6, m6, p6, hm6⟩
    obtain ⟨k1, k2⟩ := wk5 Hs6 H6 j e6 st6.ss
    cases hz : zs[j]? with
    | none =>
      have hle : zs.length ≤ j := List.getElem?_eq_none_iff.mp hz
      rw [List.drop_of_length_le hle] at hm6
      refine .inl ⟨k1 hle, hlt, Hs6, vs6, ds6, st6, n6, m6, p6, ?_⟩
      have z : Option.map (ds6 ++ ·) (Option.map (fun x => [] ++ x) (lcM2 mi me (xs.drop (i + 1)))) = some ys := hm6
      rw [Option.map_map] at z
      exact z
    | some zz =>
      obtain ⟨g6, g7⟩ := k2 zz hz
      obtain ⟨hltz, edz⟩ := drop_at hz
      rw [edz, mapO_cons] at hm6
      cases e7 : me x zz with
      | none =>
        rw [e7] at hm6
        cases hm6
      | some yv =>
      rw [e7] at hm6
      have hm7 : Option.map (ds6 ++ ·) ((Option.map (yv :: ·) (mapO (me x) (zs.drop (j + 1)))).bind fun l => (lcM2 mi me (xs.drop (i + 1))).map (l ++ ·)) = some ys := hm6
      have hm8 : Option.map ((ds6 ++ [yv]) ++ ·) ((mapO (me x) (zs.drop (j + 1))).bind fun l => (lcM2 mi me (xs.drop (i + 1))).map (l ++ ·)) = some ys := by
        cases e9 : mapO (me x) (zs.drop (j + 1)) with
        | none =>
          rw [e9] at hm7
          cases hm7
        | some l =>
          rw [e9] at hm7
          have hm9 : Option.map (ds6 ++ ·) ((lcM2 mi me (xs.drop (i + 1))).map ((yv :: l) ++ ·)) = some ys := hm7
          show Option.map ((ds6 ++ [yv]) ++ ·) ((lcM2 mi me (xs.drop (i + 1))).map (l ++ ·)) = some ys
          rw [Option.map_map] at hm9 ⊢
          rw [← hm9]
          congr 1
          funext l'
          show ds6 ++ [yv] ++ (l ++ l') = ds6 ++ (yv :: l ++ l')
          rw [List.append_assoc] <;> rfl
      have hlen : ds6.length < ys.length := by
        cases e9 : ((mapO (me x) (zs.drop (j + 1))).bind fun l => (lcM2 mi me (xs.drop (i + 1))).map (l ++ ·)) with
        | none =>
          rw [e9] at hm8
          cases hm8
        | some l =>
          rw [e9] at hm8
          have z := congrArg List.length (Option.some.inj hm8)
          rw [List.length_append, List.length_append] at z
          simp at z
          omega
      refine .inr ⟨g6, fun H8 => j + 1 ≤ zs.length ∧ ∃ Hs' vs ds, Step Hs1 H1 Hs' H8 ∧ Ex Hs5 Hs' ∧ Hs' D = none ∧ H8 D = some (.lst vs) ∧ Paired (fun v x => C.R v Hs' x) vs ds ∧ Option.map (ds ++ ·) ((mapO (me x) (zs.drop (j + 1))).bind fun l => (lcM2 mi me (xs.drop (i + 1))).map (l ++ ·)) = some ys, fun H8 z => ⟨zs.length - (j + 1), by omega, rfl, z⟩, fun y8 H8 hy8 => ?_⟩
      obtain ⟨Hs8, st8, r8⟩ := g7 y8 H8 hy8
      have s8 := st6.trans st8
      have w8 := again Hs8 H8 s8 ((e25.trans e6).trans st8.es)
      have hmu : (G x (wipeC Γ own)).μ = Γ.μ := hG _ _
      have hd8 : ∀ i ∈ vs1, (G x (wipeC Γ own)).μ.dep.contains i = false := fun i hi => by
        rw [hmu]
        exact hdep i (hvs i hi)
      refine ⟨zz, B, wipeC (G x (wipeC Γ own)) vs1, Hs8, fun i hi => hd8 i (his1 i hi), w8.wipe hd8, r8, fun σ9 a9 l9 w9 => ⟨wipe_eq l9 a9 his1, ?_⟩⟩
      refine ⟨x, zz, B, Hs8, true, w9, rfl, fun Hs10 H10 st10 => ?_⟩
      have n10 : Hs10 D = none := st10.free (st8.free n6 m6) (st8.eh _ _ m6)
      have m10 : H10 D = some (.lst vs6) := st10.eh _ _ (st8.eh _ _ m6)
      refine ite_t ?_
      refine ⟨x, zz, B, Hs10, yv, w9.step st10, e7, fun v Hs11 H11 st11 r11 => ⟨vs6, st11.eh _ _ m10, ?_, hltz, Hs11, vs6 ++ [v], ds6 ++ [yv], ?_, ((e6.trans st8.es).trans st10.es).trans st11.es, st11.free n10 m10, upd_same, ?_, hm8⟩⟩
      · rw [Paired.length p6]
        omega
      · exact ((s8.trans st10).trans st11).mutD hD (st11.free n10 m10)
      · exact pr_snoc (pr_mono ((st8.es.trans st10.es).trans st11.es) p6) r11
theorem x_lc2 {elt tg iter tg1 iter1 : Expr} {scope : Scope} {pos : Pos} (own : List (Str × Nat)) (vs1 : List Nat) (hN : X.N.Nodup) (hi : XI X tg iter Γ A xs) (hg : ∀ (s : Shared) (H : Hp) (C : Addr) (cl : List (Str × Addr)) (fp : List Addr), XG (X.blk s H scope (compEnvC scope cl C X.env) fp) tg A G is)
    (hi1 : ∀ (s : Shared) (H : Hp) (C : Addr) (cl : List (Str × Addr)) (fp : List Addr) x zs, mi x = some zs → XI (X.blk s H scope (compEnvC scope cl C X.env) fp) tg1 iter1 (G x (wipeC Γ (own.map (·.2)))) A1 zs)
    (hg1 : ∀ (s : Shared) (H : Hp) (C : Addr) (cl : List (Str × Addr)) (fp : List Addr), XG (X.blk s H scope (compEnvC scope cl C X.env) fp) tg1 A1 G1 is1)
    (he : ∀ (s : Shared) (H : Hp) (Ca : Addr) (cl : List (Str × Addr)) (fp : List Addr) x y, XE (X.blk s H scope (compEnvC scope cl Ca X.env) fp) elt (G1 y (wipeC (G x (wipeC Γ (own.map (·.2)))) vs1)) C (me x y)) (ok : blkC X.N X.env.scope scope own = true := by kernel_rfl)
    (hdep : (own.map (·.2)).all (fun i => !Γ.μ.dep.contains i) = true := by rfl) (his : is.all (fun i => (own.map (·.2)).contains i) = true := by rfl) (his1 : is1.all (fun i => vs1.contains i) = true := by rfl) (hvs : vs1.all (fun i => (own.map (·.2)).contains i) = true := by rfl)
    (hmu : ∀ x Γ, (G x Γ).μ = Γ.μ := by intro _ _; rfl) (hmu1 : ∀ x Γ, (G1 x Γ).μ = Γ.μ := by intro _ _; rfl) (hc : X.calm = true := by rfl) (hs : ∀ x, foldedSetIterable iter X.env x = pure x := by intro _; rfl) (hs1 : ∀ env x, foldedSetIterable iter1 env x = pure x := by intro _ _; rfl) :
    XE X (.ListComp elt [⟨tg, iter, [], 0⟩, ⟨tg1, iter1, [], 0⟩] scope pos) Γ (tLst C) (lcG2 mi me xs) := by
  refine xe_mk (pe_lc2 (tt := ttA (wipeC Γ (own.map (·.2))) G) (wi1 := tiO (wipeC Γ (own.map (·.2))) G A1 mi) (tt1 := ttB (wipeC Γ (own.map (·.2))) G G1 vs1) (te := teB (wipeC Γ (own.map (·.2))) G G1 vs1 C me) (vs1 := vs1) hc hN hi.pi (blkOk_by ok) (fun i hi => by simpa using List.all_eq_true.mp hvs i hi) (fun s H C cl fp => (hg s H C cl fp).pg)
    (fun s H C cl fp => pts_imp pts_nil fun σ H Q ⟨x, B, Hs, d, w, hm, q⟩ => by
      cases hm
      exact q Hs H (Step.refl w.ex))
    (fun s H C cl fp => ⟨fun pins s' σ H' R I ⟨x, zs, hz, hx⟩ => (hi1 s H C cl fp x zs hz).pi.run pins s' σ H' R I hx⟩) (fun s H C cl fp => (hg1 s H C cl fp).pg)
    (fun s H C cl fp => pts_imp pts_nil fun σ H Q ⟨x, y, B, Hs, d, w, hm, q⟩ => by
      cases hm
      exact q Hs H (Step.refl w.ex))
    (fun s H Ca cl fp => ⟨fun pins s' σ H' Q I ⟨x, y, hx⟩ => (he s H Ca cl fp x y).raw.run pins s' σ H' Q I hx⟩) hs hs1) fun B σ Hs H Q d w hm q =>
    lc2_read w hm (fun i hi => by simpa using List.all_eq_true.mp hdep i hi) (fun i hi => by simpa using List.all_eq_true.mp his i hi) hmu (fun i hi => by simpa using List.all_eq_true.mp his1 i hi) (fun i hi => by simpa using List.all_eq_true.mp hvs i hi) hmu1 q
end
end Pg
set_option Elab.async false
set_option linter.all false
set_option maxRecDepth 100000
set_option maxHeartbeats 4000000
namespace Pg
open PySem PySem.Spec PyProof.Rows L2

/-! ### len(x), x an instance with an own __len__ -/
section
variable {X : Cx} {Γ : Cn} {C g : Addr} {k : Nat} {a b e o : Expr} {p pos : Pos} {α β γ : Type} {fl : α → List (Str × Slot)} {d : α}
theorem call_lenO {sp : Sp} (F : FnR X.prog X.w X.K X.mg X.base CX0 k g sp) (hs : PySem.W.findIn X.K (.ref C) "__len__" = some (some (.ref g))) (hf : PySem.W.isFn X.K (.ref g) = true) (hr : Room (k + 1) X.A) :
    CallR X (.builtin "len") (fun xs H Q => ∃ a dx fs, xs = [.ref a] ∧ H a = some (.ins C dx fs) ∧ sp [.ref a] H (fun v H' => ∃ n : Int, v = .int n ∧ 0 ≤ n ∧ n < 2 ^ 63 ∧ Q v H') E0) := by
  intro pins s σ H xs us Q I r h
  obtain ⟨a, dx, fs, rfl, ha, q⟩ := h
  obtain ⟨u, rfl, ru⟩ := r.one
  cases (show u = Value.ref a from ru)
  obtain ⟨mA, J, _⟩ := ins_get I.hok ha
  obtain ⟨od, J, _⟩ := J.look
  obtain ⟨m, hF⟩ := I.fr
  refine PySem.W.len_K hF I.ok.mod.kin J hs hf (wpAny_mono (wpAny_call (SlX.run_at (us := [.ref a]) (ws := [.ref a]) F hr.in1 I.env0.in1 pass0 I (.cons rfl .nil) q)) (fun w s' z => ?_) fun _ _ x => x)
  obtain ⟨z', H', I', rz, n, en, h0, h1, qz⟩ := z
  subst en
  obtain ⟨t, e⟩ := (show ∃ t, w = Value.int n t from rz)
  cases e
  exact ⟨⟨h0, h1⟩, .int n, H', I'.tok _, ⟨_, rfl⟩, qz⟩
structure HasL (P : Program) (w : World) (K : PySem.W.Frag) (mg : Str → Option Value) (base : Heap) (C : Addr) (nm : Str) (k : Nat) (sp : Sp) : Prop where
  ex : ∃ g, FnR P w K mg base CX0 k g sp ∧ PySem.W.findIn K (.ref C) nm = some (some (.ref g)) ∧ PySem.W.isFn K (.ref g) = true
theorem x_lenO {mm : α × Unit → Option Int} {n : Int} (F : HasL X.prog X.w X.K X.mg X.base C "__len__" k (SpF (ysC (tObj C fl) ysN) tInt mm)) (hr : Room (k + 1) X.A) (hm : X.mg "len" = none) (ha : XE X a Γ (tObj C fl) (some d)) (hn : mm (d, ()) = some n) (h0 : 0 ≤ n ∧ n < 2 ^ 63) (hg : Gl X "len" := by rfl)
    (he : starEach [a] X.env = (false, eval a X.env) :: starEach [] X.env := by rfl) (hpl : (backTo pos (starEach [] X.env)).any (·.1) = false := by rfl) : XE X (.Call (.Name "len" p) [a] [] pos) Γ tInt (some n) := by
  obtain ⟨g, F, hs, hf⟩ := F.ex
  refine x_cb (call_lenO F hs hf hr) hm boot_lenB (xa_cons ha xa_nil he) (fun vs Hs H Q c hc e r q => ?_) hg (by decide) (by decide) he hpl
  obtain ⟨v, e1, l, dx, fs, r1, r2, r3⟩ := ys1 r
  subst e1 r1
  cases hc
  exact ⟨l, dx, fs, rfl, e _ _ r2, Hs, (d, ()), n, e, ⟨_, _, rfl, ⟨l, dx, fs, rfl, r2, r3⟩, rfl⟩, hn, fun z Hs' H' s r4 => ⟨n, r4, h0.1, h0.2, q z Hs' H' s r4⟩⟩

/-! ### x >> y, y a tuple -/
structure ShrC (K : PySem.W.Frag) (C : Addr) : Prop where
  hc : PySem.W.selfFirst K C = true
  hr : PySem.W.findIn K (.ref C) "__rrshift__" = some none
  h1 : PySem.W.findIn K (.type "tuple") "__rshift__" = some none
  h2 : PySem.W.findIn K (.type "tuple") "__rrshift__" = some none
  hsub : PySem.W.subIn K (.type "tuple") (.ref C) = some false
theorem shr_tup {prog : Program} {w : World} {A : Around} {E : Value → Shared → Prop} {s : Shared} {K : PySem.W.Frag} {x C L f : Addr} {h₀ : Heap} {m : Str → Option Value} {ox : Obj} {od : Option Obj} {b : Value} {Q : Value → Shared → Prop} (c : ShrC K C) (F : PyProof.Rows.Fr h₀ L s.heap m) (X₀ : K.In h₀)
    (I : PySem.W.InstAt s.heap x ox C od) (hb : PySem.W.Looks (model prog w) s.heap (typeOf b) (.type "tuple")) (hs : PySem.W.findIn K (.ref C) "__rshift__" = some (some (.ref f))) (hf : PySem.W.isFn K (.ref f) = true)
    (h : wpAny (model prog w) A (call (.ref f) [.ref x, b]) (PySem.W.CmpBack Q) E s) : wpAny (model prog w) A (binaryOp .RShift (.ref x) b) Q E s := by
  have X := X₀.keeps F.keep
  obtain ⟨cd, rest, hcd, hm⟩ := PySem.W.ksp_first c.hc
  have one : wpAny (model prog w) A (tryMethod (.ref x) (PySem.dunder "rshift") b) (fun r s' => ∃ v, r = some v ∧ Q v s') E s := PySem.W.ksp_try X I hs hf h
  have L1 : PySem.W.Looks (model prog w) s.heap (typeOf (.ref x)) (.ref C) := I.type
  have L3 : PySem.W.Looks (model prog w) s.heap (fillsNumberSlot (.ref C) "rshift") true := PySem.W.fills_K X hcd hm hs
  have L4 : PySem.W.Looks (model prog w) s.heap (fillsNumberSlot (.type "tuple") "rshift") false := PySem.W.ksp_fillsT (nm := "rshift") X c.h1 c.h2
  have hne : (Value.ref C == Value.type "tuple") = false := Bool.eq_false_iff.mpr fun q => by cases beq_iff_eq.mp q
  unfold binaryOp
  refine wpAny_holding ?_
  show wpAny _ _ (binaryOp1 "rshift" (.ref x) b >>= _) _ _ _
  refine wpAny_bind ?_
  unfold binaryOp1
  refine wpAny_bind (L1.here (wpAny_bind (hb.here (wpAny_bind (L3.here ?_)))))
  rw [hne]
  simp only [Bool.false_eq_true, if_false]
  refine wpAny_bind (L4.here ?_)
  simp only [Bool.and_false, Bool.false_and, Bool.false_eq_true, if_false, if_true]
  refine wpAny_bind (wpAny_pure ?_)
  refine wpAny_bind (wpAny_mono one (fun r s' hr' => ?_) fun _ _ e => e)
  obtain ⟨v, rfl, hq⟩ := hr'
  exact wpAny_pure (wpAny_pure hq)
theorem op_shrO {sp : Sp} (c : ShrC X.K C) (F : FnR X.prog X.w X.K X.mg X.base CX0 k g sp) (hs : PySem.W.findIn X.K (.ref C) "__rshift__" = some (some (.ref g))) (hf : PySem.W.isFn X.K (.ref g) = true) (hr : Room k X.A) :
    OpR X (binaryOp .RShift) (fun x y H Q => ∃ a dx fs b ys, x = .ref a ∧ y = .ref b ∧ H a = some (.ins C dx fs) ∧ H b = some (.tup ys) ∧ sp [x, y] H Q E0) := by
  intro pins s σ H x y v u Q I rx ry h
  obtain ⟨a, dx, fs, b, ys, rfl, rfl, ha, hb, q⟩ := h
  cases (show v = Value.ref a from rx)
  cases (show u = Value.ref b from ry)
  obtain ⟨mA, J, _⟩ := ins_get I.hok ha
  obtain ⟨od, J, _⟩ := J.look
  obtain ⟨m, hF⟩ := I.fr
  obtain ⟨_, its, rv, o, h1, h2, _⟩ := (show ObjOk X.prog X.w H s.heap b (.tup ys) from I.hok b _ hb)
  have hT : PySem.W.Looks (model X.prog X.w) s.heap (typeOf (.ref b)) (.type "tuple") := by
    rw [← h2]
    exact PySem.W.Looks.ld (part := none) h1 |>.andThen .now
  refine shr_tup c hF I.ok.mod.kin J hT hs hf ?_
  refine wpAny_mono (wpAny_call (run_fnR (us := [.ref a, .ref b]) (vs := [.ref a, .ref b]) F hr pass0 I (.cons rfl (.cons rfl .nil)) q)) (fun w s' z => ?_) fun _ _ x => x
  obtain ⟨z', H', I', rz, qz⟩ := z
  exact SlX.cmpback rz ⟨z', H', I', rz, qz⟩
theorem x_shr {S : Tys β} {R : Ty γ} {y : β} {mm : α × β × Unit → Option γ} (c : ShrC X.K C) (F : HasL X.prog X.w X.K X.mg X.base C "__rshift__" k (SpF (ysC (tObj C fl) (ysC (tTupN S) ysN)) R mm)) (hr : Room k X.A) (ha : XE X a Γ (tObj C fl) (some d)) (hb : XE X b Γ (tTupN S) (some y)) :
    XE X (.BinOp a .RShift b pos) Γ R (mm (d, y, ())) := by
  obtain ⟨g, F, hs, hf⟩ := F.ex
  refine xe_bin (op_shrO c F hs hf hr) ha hb fun u v Hs H Q c hm e r1 r2 q => ?_
  obtain ⟨l, dx, fs, r3, r4, r5⟩ := id r1
  obtain ⟨l2, ys, t3, t4, t5⟩ := id r2
  exact ⟨l, dx, fs, l2, ys, r3, t3, e _ _ r4, e _ _ t4, Hs, (d, y, ()), c, e, ⟨u, _, rfl, r1, v, _, rfl, r2, rfl⟩, hm, fun z Hs' H' s r => q z Hs' H' s r⟩

/-! ### x == y by an own __eq__ that says True -/
theorem fnr_of {P : Program} {w : World} {K : PySem.W.Frag} {mg : Str → Option Value} {base : Heap} {k : Nat} {f : Addr} {fd : FuncData} {ps : List Str} {sp : Sp} (F : FnOk P w K mg base CX0 k f fd ps sp) (hb : Binds K fd ps []) : FnR P w K mg base CX0 k f sp :=
  (F.raw hb .nil).imp fun vs H Q E h => by
    show sp (vs ++ []) H Q E
    rw [List.append_nil]
    exact h
theorem op_eqO {sp : Sp} (F : FnR X.prog X.w X.K X.mg X.base CX0 k g sp) (hs : PySem.W.findIn X.K (.ref C) "__eq__" = some (some (.ref g))) (hf : PySem.W.isFn X.K (.ref g) = true) (hr : Room k X.A) :
    OpR X (compareOp .Eq) (fun x y H Q => ∃ a dx fs b dy gs, x = .ref a ∧ y = .ref b ∧ H a = some (.ins C dx fs) ∧ H b = some (.ins C dy gs) ∧ sp [x, y] H Q E0) := by
  intro pins s σ H x y v u Q I rx ry h
  obtain ⟨a, dx, fs, b, dy, gs, rfl, rfl, ha, hb, q⟩ := h
  cases (show v = Value.ref a from rx)
  cases (show u = Value.ref b from ry)
  obtain ⟨mA, J, _⟩ := ins_get I.hok ha
  obtain ⟨od, J, _⟩ := J.look
  obtain ⟨mB, J', _⟩ := ins_get I.hok hb
  obtain ⟨od', J', _⟩ := J'.look
  obtain ⟨m, hF⟩ := I.fr
  refine PySem.W.cmp_K (op := .Eq) (tb := .ref C) hr.units0 hF I.ok.mod.kin J J'.type (by simp [PySem.W.notFirst]) hs hf ?_
  refine wpAny_mono (wpAny_call (run_fnR (us := [.ref a, .ref b]) (vs := [.ref a, .ref b]) F hr pass0 I (.cons rfl (.cons rfl .nil)) q)) (fun w s' z => ?_) fun _ _ x => x
  obtain ⟨z', H', I', rz, qz⟩ := z
  exact SlX.cmpback rz ⟨z', H', I', rz, qz⟩
theorem x_eqO {d2 : α} {mm : α × α × Unit → Option Bool} (F : HasL X.prog X.w X.K X.mg X.base C "__eq__" k (SpF (ysC (tObj C fl) (ysC (tObj C fl) ysN)) tBool mm)) (hr : Room k X.A) (ha : XE X a Γ (tObj C fl) (some d)) (hb : XE X b Γ (tObj C fl) (some d2)) :
    XE X (.Compare a [.Eq] [b] pos) Γ tBool (mm (d, d2, ())) := by
  obtain ⟨g, F, hs, hf⟩ := F.ex
  refine xe_cmp (op_eqO F hs hf hr) (nomark _) ha hb fun u v Hs H Q c hm e r1 r2 q => ?_
  obtain ⟨l, dx, fs, r3, r4, r5⟩ := id r1
  obtain ⟨l2, dy, gs, t3, t4, t5⟩ := id r2
  exact ⟨l, dx, fs, l2, dy, gs, r3, t3, e _ _ r4, e _ _ t4, Hs, (d, d2, ()), c, e, ⟨u, _, rfl, r1, v, _, rfl, r2, rfl⟩, hm, fun z Hs' H' s r => by
    rw [show z = .bl c from r]
    exact q Hs' H' s⟩
theorem xt_eqO {d2 : α} {mm : α × α × Unit → Option Bool} (F : HasL X.prog X.w X.K X.mg X.base C "__eq__" k (SpF (ysC (tObj C fl) (ysC (tObj C fl) ysN)) tBool mm)) (hr : Room k X.A) (ha : XE X a Γ (tObj C fl) (some d)) (hb : XE X b Γ (tObj C fl) (some d2)) :
    XT X (.Compare a [.Eq] [b] pos) Γ (mm (d, d2, ())) := by
  obtain ⟨g, F, hs, hf⟩ := F.ex
  refine xt_cmp (op_eqO F hs hf hr) (nomark _) ha hb fun u v Hs H Q c hm e r1 r2 q => ?_
  obtain ⟨l, dx, fs, r3, r4, r5⟩ := id r1
  obtain ⟨l2, dy, gs, t3, t4, t5⟩ := id r2
  exact ⟨l, dx, fs, l2, dy, gs, r3, t3, e _ _ r4, e _ _ t4, Hs, (d, d2, ()), c, e, ⟨u, _, rfl, r1, v, _, rfl, r2, rfl⟩, hm, fun z Hs' H' s r => by
    rw [show z = .bl c from r]
    exact q Hs' H' s⟩

/-! ### isinstance, own classes -/
theorem tyx_obj (c : C8.InsC X.K C) (v : V) (H : Hp) (h : (tObj C fl).R v H d) : TyX X.K H v (.ref C) := by
  obtain ⟨a, dx, fs, h1, h2, _⟩ := h
  rw [h1]
  exact .base (.ins h2 c.cl c.ha c.hn c.htk c.hm)
theorem x_isiO {cn : Str} {cp : Pos} (c : C8.InsC X.K C) (hm : X.mg "isinstance" = none) (hmc : X.mg cn = some (.ref C)) (ha : XE X a Γ (tObj C fl) (some d)) (hgc : Gl X cn := by rfl) (hdc : (cn == ("__debug__" : Str)) = false := by decide) (hg : Gl X "isinstance" := by rfl)
    (he : starEach [a, .Name cn cp] X.env = (false, eval a X.env) :: starEach [.Name cn cp] X.env := by rfl) (he2 : starEach [.Name cn cp] X.env = (false, eval (.Name cn cp) X.env) :: starEach [] X.env := by rfl) (hpl : (backTo pos (starEach [.Name cn cp] X.env)).any (·.1) = false := by rfl) :
    XE X (.Call (.Name "isinstance" p) [a, .Name cn cp] [] pos) Γ tBool (some true) :=
  x_isi (t := fun _ => .ref C) hm ha (C8.pe_gc (v := .ref C) hgc ⟨_, hmc, rfl⟩ hdc) (ClsV.own C) (fun v H h => tyx_obj c v H h) c.me hg he he2 hpl

/-! ### a classmethod read off its class; cls(..) -/
structure HasCM (P : Program) (w : World) (K : PySem.W.Frag) (mg : Str → Option Value) (base : Heap) (x : Str) (C : Addr) (m : Str) (k : Nat) (sp : Sp) : Prop where
  ex : ∃ mc p g, ClX.CRead K C mc ∧ ClX.CMet K C mc m p g ∧ FnR P w K mg base CX0 k g sp ∧ mg x = some (.ref C)
/-- the class at C -/
def tCls (C : Addr) : Ty Unit := ⟨fun v _ _ => v = .ref C, fun _ h => h⟩
theorem x_cmeth {x m : Str} {ap xp : Pos} {es : List Expr} {A : Tys β} {R : Ty γ} {y : β} {mm : Unit × β → Option γ} {pl : Sem Bool} (F : HasCM X.prog X.w X.K X.mg X.base x C m k (SpF (ysC (tCls C) A) R mm)) (hr : Room k X.A) (ha : XA X (e :: es) Γ A (some y)) (hg : Gl X x := by rfl) (hdb : (x == ("__debug__" : Str)) = false := by decide)
    (hst : starEach (e :: es) X.env = (false, eval e X.env) :: starEach es X.env := by rfl) (hpl : (backTo pos (starEach es X.env)).any (·.1) = false := by rfl)
    (ht : eval (.Call (.Attribute (.Name x xp) m ap) (e :: es) [] pos) X.env = (do
      let ov ← eval (.Name x xp) X.env
      standAt ap.atName
      let (f, first) ← holding [ov] (getMethod ov m pl)
      callWith pos f first (backTo pos (starEach (e :: es) X.env)) (backToKw pos (keywordEach [] X.env))) := by rfl) : XE X (.Call (.Attribute (.Name x xp) m ap) (e :: es) [] pos) Γ R (mm ((), y)) := by
  obtain ⟨mc, q, g, r, c, F, hm⟩ := F.ex
  refine xe_mk (ClX.pe_cmeth (E := E0) (C8.pe_gc (v := .ref C) hg ⟨_, hm, rfl⟩ hdb) r c F hr pass0 ha.pa hst hpl ht) fun B σ Hs H Q z w hz q => ?_
  refine ⟨rfl, B, Hs, y, w, rfl, fun vs Hs2 H2 s2 rv => ⟨Hs2, ((), y), z, s2.ss, ⟨_, vs, rfl, rfl, rv⟩, hz, fun u Hs3 H3 s3 r3 => q u Hs3 H3 (s2.trans s3) r3⟩⟩
/-- cls(e, ..), the keyword-only parameters by their defaults -/
theorem x_makeL {ρ : Type} {fl : ρ → List (Str × Slot)} {x z : Str} {n i : Nat} {es : List Expr} {A : Tys β} {y : β} {A2 : Tys γ} {m : γ → Option ρ} {gV : List V → List V → List V} {c : γ} (F : HasCK X.prog X.w X.K X.mg X.base z C k n [] gV (SpI C fl A2 m)) (hr : Room (k + 1) X.A) (ha : XA X (e :: es) Γ A (some y))
    (hi : Γ.ρ[i]? = some (.val (tCls C) ()) := by rfl) (hA : ∀ vs Hs, A.R vs Hs y → vs.length = n ∧ ∀ q, ∃ ws, gV (q :: vs) [] = q :: ws ∧ A2.R ws Hs c) (hN : X.N[i]? = some x := by rfl) (hv : Vis X.env.scope x := by first | exact Or.inl rfl | exact Or.inr (Or.inl rfl) | exact Or.inr (Or.inr rfl))
    (hdb : (x == ("__debug__" : Str)) = false := by decide) (hcd : (x == ("__classdict__" : Str)) = false := by decide)
    (he : starEach (e :: es) X.env = (false, eval e X.env) :: starEach es X.env := by rfl) (hpl : (backTo pos (starEach es X.env)).any (·.1) = false := by rfl) :
    XE X (.Call (.Name x p) (e :: es) [] pos) Γ (tObj C fl) (m c) := by
  obtain ⟨f, fd, ps, g, F, M, hm, hb⟩ := F.ex
  have h0 : PE X (.Call (.Name x p) (e :: es) [] pos) (fun σ H Q => σ[i]? = some (some (.ref C)) ∧ tMakeK C n 0 (SpI C fl A2 m) gV E0 (tMA Γ A (some y)) tNil σ H Q) := by
    refine ⟨fun pins s σ H Q I ⟨hs, ht⟩ => ?_⟩
    refine wpAny_Call_Name_kw (thn ((pe_var (pos := p) hN hv hdb hcd).run pins s σ H (fun v H1 => v = .ref C ∧ H1 = H) I ⟨.ref C, hs, rfl, rfl⟩) fun u s1 ⟨v, H1, I1, r1, q1⟩ => ?_)
    obtain ⟨rfl, rfl⟩ := q1
    cases r1
    refine PySem.W.callWith_K (h₀ := X.base) I.ok.mod.kin M.kp (thn (ha.pa.run pos pins s1 σ _ _ I1 ht) fun us s2 ⟨vs, H2, I2, r, l1, l2, q⟩ => ⟨I2.kIn, ?_⟩) he hpl
    exact run_makeK (zs := []) (ws := []) M F hr hb pass0 I2 r .nil l1 rfl q
  refine xe_mk h0 fun B σ Hs H Q r w hr' q => ?_
  obtain ⟨u, hu, ru⟩ := w.get hi
  rw [show u = .ref C from ru] at hu
  refine ⟨hu, B, Hs, y, w, rfl, fun vs Hs1 H1 s1 rv => ?_⟩
  obtain ⟨l1, h3⟩ := hA vs Hs1 rv
  refine ⟨l1, rfl, fun z dx n1 n2 n3 => ?_⟩
  obtain ⟨ws, e1, r3⟩ := h3 (.ref z)
  exact ⟨z, dx, ws, Hs1, H1, c, r, e1, n1, n2, n3, rfl, s1.ss, r3, hr', fun Hs3 H3 s3 r4 => ⟨rfl, q _ Hs3 H3 (s1.trans s3) r4⟩⟩

/-! ### try: a body that raises nothing -/
theorem xs_try {S B R : Type} {Gn : S → Cn} {Gb : B → Cn} {T : Ty R} {m : Option (Out S B R)} {body : List Stmt} {h₀ : ExceptHandler} {hs : List ExceptHandler} (h : XSs X.nox body Γ Gn Gb T m) : XS X (.Try body (h₀ :: hs) [] [] pos) Γ Gn Gb T m :=
  ⟨ps_try_thru0 h.pss⟩

/-! ### calls of a def with keyword-only parameters -/
structure HasK (P : Program) (w : World) (K : PySem.W.Frag) (mg : Str → Option Value) (base : Heap) (x : Str) (k n : Nat) (ks : List Str) (gV : List V → List V → List V) (sp : Sp) : Prop where
  ex : ∃ f fd ps g, FnOk P w K mg base CX0 k f fd ps sp ∧ mg x = some (.ref f) ∧ PySem.W.keepIn K (.ref f) = true ∧ KBn K fd ps n ks g gV
/-- f(e, ..): the keyword-only ones by their defaults -/
theorem x_callD {x : Str} {n : Nat} {es : List Expr} {A : Tys β} {y : β} {ρ : Type} {A2 : Tys ρ} {R : Ty γ} {m : ρ → Option γ} {gV : List V → List V → List V} {c : ρ} (F : HasK X.prog X.w X.K X.mg X.base x k n [] gV (SpF A2 R m)) (hr : Room k X.A) (ha : XA X (e :: es) Γ A (some y))
    (hA : ∀ vs Hs, A.R vs Hs y → vs.length = n ∧ A2.R (gV vs []) Hs c) (hg : Gl X x := by rfl) (hdb : (x == ("__debug__" : Str)) = false := by decide)
    (he : starEach (e :: es) X.env = (false, eval e X.env) :: starEach es X.env := by rfl) (hpl : ((backTo pos (starEach (e :: es) X.env)).any (·.1) || (backToKw pos (keywordEach [] X.env)).any (·.1.isNone)) = false := by rfl) :
    XE X (.Call (.Name x p) (e :: es) [] pos) Γ R (m c) := by
  obtain ⟨f, fd, ps, g, F, hm, hk, hb⟩ := F.ex
  refine xe_mk (pe_callN (E := E0) F hr hg hm hk hb pass0 ha.pa pk_nil rfl rfl hdb he hpl) fun B σ Hs H Q r w hr' q => ⟨B, Hs, y, w, rfl, fun vs Hs1 H1 s1 rv => ?_⟩
  obtain ⟨l1, h3⟩ := hA vs Hs1 rv
  exact ⟨l1, rfl, Hs1, c, r, s1.ss, h3, hr', fun z Hs3 H3 s3 r4 => q z Hs3 H3 (s1.trans s3) r4⟩
/-- f(e, .., k = b) -/
theorem x_callKw {x : Str} {n : Nat} {kp : Pos} {nm : Option Str} {ks : List Str} {es : List Expr} {A : Tys β} {y : β} {T2 : Type} {T : Ty T2} {t : T2} {ρ : Type} {A2 : Tys ρ} {R : Ty γ} {m : ρ → Option γ} {gV : List V → List V → List V} {c : ρ} (F : HasK X.prog X.w X.K X.mg X.base x k n ks gV (SpF A2 R m)) (hr : Room k X.A)
    (ha : XA X (e :: es) Γ A (some y)) (hb2 : XE X b Γ T (some t)) (hA : ∀ vs v Hs, A.R vs Hs y → T.R v Hs t → vs.length = n ∧ ks.length = 1 ∧ A2.R (gV vs [v]) Hs c) (hg : Gl X x := by rfl) (hdb : (x == ("__debug__" : Str)) = false := by decide)
    (hall : (backToKw pos (keywordEach [⟨nm, b, kp⟩] X.env)).all (·.1.isSome) = true := by rfl) (hks : (backToKw pos (keywordEach [⟨nm, b, kp⟩] X.env)).filterMap (·.1) = ks := by rfl)
    (he : starEach (e :: es) X.env = (false, eval e X.env) :: starEach es X.env := by rfl) (hpl : ((backTo pos (starEach (e :: es) X.env)).any (·.1) || (backToKw pos (keywordEach [⟨nm, b, kp⟩] X.env)).any (·.1.isNone)) = false := by rfl) :
    XE X (.Call (.Name x p) (e :: es) [⟨nm, b, kp⟩] pos) Γ R (m c) := by
  obtain ⟨f, fd, ps, g, F, hm, hk, hb⟩ := F.ex
  refine xe_mk (pe_callN (E := E0) F hr hg hm hk hb pass0 ha.pa (pk_cons hb2.raw pk_nil) hall hks hdb he hpl) fun B σ Hs H Q r w hr' q => ⟨B, Hs, y, w, rfl, fun vs Hs1 H1 s1 rv => ⟨B, Hs1, t, w.step s1, rfl, fun v Hs2 H2 s2 rv2 => ?_⟩⟩
  obtain ⟨l1, l2, h3⟩ := hA vs v Hs2 (A.mono s2.es rv) rv2
  exact ⟨l1, l2.symm, Hs2, c, r, s2.ss, h3, hr', fun z Hs3 H3 s3 r4 => q z Hs3 H3 ((s1.trans s2).trans s3) r4⟩
end
end Pg
set_option Elab.async false
set_option linter.all false
set_option maxRecDepth 100000
set_option maxHeartbeats 4000000
namespace Pg
open PySem PySem.Spec PyProof.Rows L2

/-! ### isinstance(x, (list, tuple)) -/
theorem tyx_lst {K : PySem.W.Frag} {α : Type} {T : Ty α} {d : List α} (v : V) (H : Hp) (h : (tLst T).R v H d) : TyX K H v (.type "list") := by
  obtain ⟨a, vs, h1, h2, _⟩ := h
  rw [h1]
  exact .base (.lst h2)
section
variable {X : Cx} {Γ : Cn} {a : Expr} {p pos tpos p1 p2 : Pos} {k : Nat} {α : Type} {T : Ty α} {d : α}
theorem x_isiLT {tn : String} {b : Bool} (hm : X.mg "isinstance" = none) (hml : X.mg "list" = none) (hmt : X.mg "tuple" = none) (ha : XE X a Γ T (some d)) (hT : ∀ v H, T.R v H d → TyX X.K H v (.type tn)) (hb : ∀ K, PySem.W.kitAny K (.type tn) [.type "list", .type "tuple"] = some b)
    (hg : Gl X "isinstance" := by rfl) (hgl : Gl X "list" := by rfl) (hgt : Gl X "tuple" := by rfl) (he : starEach [a, .Tuple [.Name "list" p1, .Name "tuple" p2] k tpos] X.env = (false, eval a X.env) :: starEach [.Tuple [.Name "list" p1, .Name "tuple" p2] k tpos] X.env := by rfl)
    (he2 : starEach [.Tuple [.Name "list" p1, .Name "tuple" p2] k tpos] X.env = (false, eval (.Tuple [.Name "list" p1, .Name "tuple" p2] k tpos) X.env) :: starEach [] X.env := by rfl)
    (he3 : starEach [.Name "list" p1, .Name "tuple" p2] X.env = (false, eval (.Name "list" p1) X.env) :: starEach [.Name "tuple" p2] X.env := by rfl) (he4 : starEach [.Name "tuple" p2] X.env = (false, eval (.Name "tuple" p2) X.env) :: starEach [] X.env := by rfl)
    (hpl : (backTo pos (starEach [.Tuple [.Name "list" p1, .Name "tuple" p2] k tpos] X.env)).any (·.1) = false := by rfl) : XE X (.Call (.Name "isinstance" p) [a, .Tuple [.Name "list" p1, .Name "tuple" p2] k tpos] [] pos) Γ tBool (some b) := by
  have h1 : PE X (.Name "list" p1) (tC (.ty "list")) := pe_bltn (u := .type "list") hgl hml (by decide +kernel) rfl
  have h2 : PE X (.Name "tuple" p2) (tC (.ty "tuple")) := pe_bltn (u := .type "tuple") hgt hmt (by decide +kernel) rfl
  have h3 := pe_tup (x1 := k) (pos := tpos) (pa_cons h1 (pa_cons h2 pa_nil he4) he3)
  refine xe_mk (pe_callB (p := p) (pos := pos) call_isiT hg hm (by decide +kernel) (pa_cons ha.raw (pa_cons h3 pa_nil he2) he) (by decide) (by decide) he hpl) fun B σ Hs H Q c w hc q => ?_
  cases hc
  refine ⟨B, Hs, d, w, rfl, fun v Hs1 H1 s1 r1 => ⟨by show 2 ≤ sizeLine; decide, fun z hz => ⟨v, z, [.ty "list", .ty "tuple"], .type tn, [.type "list", .type "tuple"], b, rfl, upd_same, .cons (.ty _) (.cons (.ty _) .nil), hT v _ (T.mono (s1.ss.trans (Ex.new hz)) r1), hb _, ?_⟩⟩⟩
  exact q _ Hs1 _ (s1.trans ((Step.refl s1.ss).mutD hz (s1.ss.none hz))) rfl
end

/-! ### a whole number or a text -/
def tEl : Ty (Int ⊕ Str) := ⟨fun v _ d => match d with
  | .inl i => v = .int i
  | .inr s => v = .str s, fun _ h => h⟩
theorem tyx_str {K : PySem.W.Frag} {d : Str} (v : V) (H : Hp) (h : tStr.R v H d) : TyX K H v (.type "str") := by
  rw [show v = .str d from h]
  exact .base (.str d)

/-! ### frozen -/
abbrev s_frozen : Stmt := top 16
theorem sc_frozen : FnScope ["value", "item"] ["value"] (defScope s_frozen) := ⟨rfl, rfl, rfl, by decide +kernel, rfl, by decide +kernel, by decide +kernel⟩
section
variable {P : Program} {w : World} {K : PySem.W.Frag} {mg : Str → Option Value} {base : Heap} {f : Addr} {fd : FuncData} {α β : Type} {A : Ty α} {B : Ty β} {g : α → β} {k : Nat}
/-- frozen takes A to B by g -/
abbrev Frz (P : Program) (w : World) (K : PySem.W.Frag) (mg : Str → Option Value) (base : Heap) {α β : Type} (A : Ty α) (B : Ty β) (g : α → β) (k : Nat) : Prop := Has P w K mg base "frozen" k (SpF (ysC A ysN) B fun d => some (g d.1))
theorem Has.imp {x : Str} {sp sp' : Sp} (F : Has P w K mg base x k sp) (h : ∀ vs H Q E, sp' vs H Q E → sp vs H Q E) : Has P w K mg base x k sp' := by
  obtain ⟨f, fd, ps, F, h2⟩ := F.ex
  exact ⟨f, fd, ps, F.imp h, h2⟩
theorem Has.mono {x : Str} {sp : Sp} {j : Nat} (F : Has P w K mg base x j sp) (h : j ≤ k) : Has P w K mg base x k sp := by
  obtain ⟨f, fd, ps, F, h2⟩ := F.ex
  exact ⟨f, fd, ps, F.mono h, h2⟩
/-- by other types of the same values -/
theorem Frz.as {α' β' : Type} {A' : Ty α'} {B' : Ty β'} {g' : α' → β'} (F : Frz P w K mg base A B g k) (c : α' → α) (ha : ∀ v H d, A'.R v H d → A.R v H (c d)) (hb : ∀ v H d, B.R v H (g (c d)) → B'.R v H (g' d)) : Frz P w K mg base A' B' g' k :=
  F.imp fun vs H Q E ⟨Hs, d, r, e, rv, hr, q⟩ => by
    cases hr
    obtain ⟨v, e1, r1⟩ := ys1 rv
    subst e1
    exact ⟨Hs, (c d.1, ()), _, e, ⟨v, _, rfl, ha _ _ _ r1, rfl⟩, rfl, fun v Hs' H' s r => q v Hs' H' s (hb _ _ _ r)⟩
def m_frozen0 (d : α) : Option (Out Unit Unit α) := if false = true then none else some (.ret d)
theorem has_frozen0 (F : FunD K "frozen" "frozen" (defArgs s_frozen) (defBody s_frozen) (defScope s_frozen) [] [] f fd) (hm : mg "frozen" = some (.ref f)) (h1 : mg "isinstance" = none) (h2 : mg "list" = none) (h3 : mg "tuple" = none) (tn : α → String)
    (hT : ∀ v H d, A.R v H d → TyX K H v (.type (tn d))) (hb : ∀ d K, PySem.W.kitAny K (.type (tn d)) [.type "list", .type "tuple"] = some false) : Frz P w K mg base A A id 1 := by
  refine (has_def (A := ysC A ysN) (R := A) (k := 0) (Gn := fun _ : Unit => ⟨[], mu0⟩) (Gb := fun _ : Unit => ⟨[], mu0⟩) F hm sc_frozen (prm_cons prm_nil) rfl (F.bindsN fun _ _ _ _ _ _ us hl => match us, hl with | [_], _ => rfl)
    (m := fun d => m_frozen0 d.1) (fun cdv Ar outer s H E d hr => ?_)).imp fun vs H Q E h => h
  exact xs_ifx (xt_val (x_isiLT h1 h2 h3 (x_var 0) (fun v H h => hT v H _ h) (hb _))) (fun h => nomatch h) fun _ => xs_ret (x_var 0)
def m_frozen1 (g : α → β) (d : List α) : Option (Out Unit Unit (List β)) := (lcM (fun _ : α => some true) (fun x => some (g x)) d).bind fun ys => if true = true then some (.ret ys) else none
theorem m_frozen1_eq (g : α → β) (d : List α) : retO (m_frozen1 g d) = some (d.map g) := by
  unfold m_frozen1
  rw [lcM_map] <;> rfl
theorem has_frozenL (F : FunD K "frozen" "frozen" (defArgs s_frozen) (defBody s_frozen) (defScope s_frozen) [] [] f fd) (hm : mg "frozen" = some (.ref f)) (h1 : mg "isinstance" = none) (h2 : mg "list" = none) (h3 : mg "tuple" = none) (Fz : Frz P w K mg base A B g k) : Frz P w K mg base (tLst A) (tTup B) (List.map g) (k + 1) := by
  refine (has_def (A := ysC (tLst A) ysN) (R := tTup B) (k := k) (Gn := fun _ : Unit => ⟨[], mu0⟩) (Gb := fun _ : Unit => ⟨[], mu0⟩) F hm sc_frozen (prm_cons prm_nil) rfl (F.bindsN fun _ _ _ _ _ _ us hl => match us, hl with | [_], _ => rfl)
    (m := fun d => m_frozen1 g d.1) (fun cdv Ar outer s H E d hr => ?_)).imp fun vs H Q E ⟨Hs, d, r, e, rv, hr, q⟩ => ⟨Hs, d, r, e, rv, (m_frozen1_eq g d.1).trans hr, q⟩
  exact xs_let fun ys e => xs_ifx (xt_val (x_isiLT h1 h2 h3 (x_var 0) tyx_lst (fun K => rfl))) (fun _ => xs_ret (x_tuple h3 (x_got e (x_lc [("item", 1)] sc_frozen.nd (xi_list (x_var 0)) (fun _ _ _ _ _ => xg_name 1 sc_frozen.nd) xf_no
      (fun s H C cl fp x => x_eq (x_call Fz hr (xa_cons (x_var 1) xa_nil)) rfl))))) fun h => nomatch h
theorem has_frozenT (F : FunD K "frozen" "frozen" (defArgs s_frozen) (defBody s_frozen) (defScope s_frozen) [] [] f fd) (hm : mg "frozen" = some (.ref f)) (h1 : mg "isinstance" = none) (h2 : mg "list" = none) (h3 : mg "tuple" = none) (Fz : Frz P w K mg base A B g k) : Frz P w K mg base (tTup A) (tTup B) (List.map g) (k + 1) := by
  refine (has_def (A := ysC (tTup A) ysN) (R := tTup B) (k := k) (Gn := fun _ : Unit => ⟨[], mu0⟩) (Gb := fun _ : Unit => ⟨[], mu0⟩) F hm sc_frozen (prm_cons prm_nil) rfl (F.bindsN fun _ _ _ _ _ _ us hl => match us, hl with | [_], _ => rfl)
    (m := fun d => m_frozen1 g d.1) (fun cdv Ar outer s H E d hr => ?_)).imp fun vs H Q E ⟨Hs, d, r, e, rv, hr, q⟩ => ⟨Hs, d, r, e, rv, (m_frozen1_eq g d.1).trans hr, q⟩
  exact xs_let fun ys e => xs_ifx (xt_val (x_isiLT h1 h2 h3 (x_var 0) tyx_tup (fun K => rfl))) (fun _ => xs_ret (x_tuple h3 (x_got e (x_lc [("item", 1)] sc_frozen.nd (xi_tup (x_var 0)) (fun _ _ _ _ _ => xg_name 1 sc_frozen.nd) xf_no
      (fun s H C cl fp x => x_eq (x_call Fz hr (xa_cons (x_var 1) xa_nil)) rfl))))) fun h => nomatch h
/-- the instances -/
structure FzAll (P : Program) (w : World) (K : PySem.W.Frag) (mg : Str → Option Value) (base : Heap) : Prop where
  tI : Frz P w K mg base (tTup tInt) (tTup tInt) id 2
  lI : Frz P w K mg base (tLst tInt) (tTup tInt) id 2
  tTI : Frz P w K mg base (tTup (tTup tInt)) (tTup (tTup tInt)) id 3
  lTI : Frz P w K mg base (tLst (tTup tInt)) (tTup (tTup tInt)) id 3
  lLI : Frz P w K mg base (tLst (tLst tInt)) (tTup (tTup tInt)) id 3
  tP : Frz P w K mg base (tTup (tPair tInt tInt)) (tTup (tPair tInt tInt)) id 3
  lP : Frz P w K mg base (tLst (tLstN (ysC tInt (ysC tInt ysN)))) (tTup (tPair tInt tInt)) id 3
  d2 : Frz P w K mg base (tTupN (ysC tStr (ysC tInt ysN))) (tTupN (ysC tStr (ysC tInt ysN))) id 2
  d3 : Frz P w K mg base (tTupN (ysC tStr (ysC tInt (ysC tInt ysN)))) (tTupN (ysC tStr (ysC tInt (ysC tInt ysN)))) id 2
  tD3 : Frz P w K mg base (tTup (tTupN (ysC tStr (ysC tInt (ysC tInt ysN))))) (tTup (tTupN (ysC tStr (ysC tInt (ysC tInt ysN))))) id 3
theorem Frz.id_map {g : List α → List β} {A : Ty (List α)} {B : Ty (List β)} {g' : List α → List β} (F : Frz P w K mg base A B g k) (h : g = g') : Frz P w K mg base A B g' k := h ▸ F
theorem map_id' {α : Type} {g : α → α} (h : g = id) : List.map g = id := by
  subst h
  funext l
  simp
def toE2 (p : Int × Int × Unit) : List Int := [p.1, p.2.1]
theorem p2_in (v : V) (H : Hp) (d : Int × Int × Unit) (h : (tPair tInt tInt).R v H d) : (tTup tInt).R v H (toE2 d) := by
  obtain ⟨a, e, h2⟩ := pair_at.mp h
  exact ⟨a, _, e, h2, .cons rfl (.cons rfl .nil)⟩
theorem p2_inL (v : V) (H : Hp) (d : Int × Int × Unit) (h : (tLstN (ysC tInt (ysC tInt ysN))).R v H d) : (tLst tInt).R v H (toE2 d) := by
  obtain ⟨a, vs, e, h2, v1, r1, e1, h3, v2, r2, e2, h4, h5⟩ := h
  have e3 : r2 = [] := h5
  subst e3 e2
  exact ⟨a, vs, e, h2, by
    rw [e1]
    exact .cons h3 (.cons h4 .nil)⟩
theorem p2_out (v : V) (H : Hp) (d : Int × Int × Unit) (h : (tTup tInt).R v H (toE2 d)) : (tPair tInt tInt).R v H d := by
  obtain ⟨a, vs, e, h2, h3⟩ := h
  rw [pr_int h3] at h2
  exact pair_at.mpr ⟨a, e, h2⟩
def toD2 (p : Str × Int × Unit) : List (Int ⊕ Str) := [.inr p.1, .inl p.2.1]
def toD3 (p : Str × Int × Int × Unit) : List (Int ⊕ Str) := [.inr p.1, .inl p.2.1, .inl p.2.2.1]
theorem d2_in (v : V) (H : Hp) (d : Str × Int × Unit) (h : (tTupN (ysC tStr (ysC tInt ysN))).R v H d) : (tTup tEl).R v H (toD2 d) := by
  obtain ⟨a, vs, e, h2, v1, r1, e1, h3, v2, r2, e2, h4, h5⟩ := h
  have e3 : r2 = [] := h5
  subst e3 e2
  exact ⟨a, vs, e, h2, by
    rw [e1]
    exact .cons h3 (.cons h4 .nil)⟩
theorem d2_out (v : V) (H : Hp) (d : Str × Int × Unit) (h : (tTup tEl).R v H (toD2 d)) : (tTupN (ysC tStr (ysC tInt ysN))).R v H d := by
  obtain ⟨a, vs, e, h2, h3⟩ := h
  unfold toD2 at h3
  cases h3 with
  | cons r1 t =>
    cases t with
    | cons r2 t =>
      cases t
      exact ⟨a, _, e, h2, _, _, rfl, r1, _, _, rfl, r2, rfl⟩
theorem d3_in (v : V) (H : Hp) (d : Str × Int × Int × Unit) (h : (tTupN (ysC tStr (ysC tInt (ysC tInt ysN)))).R v H d) : (tTup tEl).R v H (toD3 d) := by
  obtain ⟨a, vs, e, h2, v1, r1, e1, h3, v2, r2, e2, h4, v3, r3, e4, h6, h5⟩ := h
  have e3 : r3 = [] := h5
  subst e3 e4 e2
  exact ⟨a, vs, e, h2, by
    rw [e1]
    exact .cons h3 (.cons h4 (.cons h6 .nil))⟩
theorem d3_out (v : V) (H : Hp) (d : Str × Int × Int × Unit) (h : (tTup tEl).R v H (toD3 d)) : (tTupN (ysC tStr (ysC tInt (ysC tInt ysN)))).R v H d := by
  obtain ⟨a, vs, e, h2, h3⟩ := h
  unfold toD3 at h3
  cases h3 with
  | cons r1 t =>
    cases t with
    | cons r2 t =>
      cases t with
      | cons r3 t =>
        cases t
        exact ⟨a, _, e, h2, _, _, rfl, r1, _, _, rfl, r2, _, _, rfl, r3, rfl⟩
theorem kitA_int : ∀ K, PySem.W.kitAny K (.type "int") [.type "list", .type "tuple"] = some false := fun K => kitAny_cons (b := false) (kit_ty (by decide +kernel)) (fun _ => kitAny_cons (b := false) (kit_ty (by decide +kernel)) (fun _ => rfl) fun h => nomatch h) fun h => nomatch h
theorem kitA_str : ∀ K, PySem.W.kitAny K (.type "str") [.type "list", .type "tuple"] = some false := fun K => kitAny_cons (b := false) (kit_ty (by decide +kernel)) (fun _ => kitAny_cons (b := false) (kit_ty (by decide +kernel)) (fun _ => rfl) fun h => nomatch h) fun h => nomatch h
theorem fz_all (F : FunD K "frozen" "frozen" (defArgs s_frozen) (defBody s_frozen) (defScope s_frozen) [] [] f fd) (hm : mg "frozen" = some (.ref f)) (h1 : mg "isinstance" = none) (h2 : mg "list" = none) (h3 : mg "tuple" = none) : FzAll P w K mg base := by
  have i0 : Frz P w K mg base tInt tInt id 1 := has_frozen0 F hm h1 h2 h3 (fun _ => "int") (fun v H d h => tyx_int v H h) fun _ => kitA_int
  have e0 : Frz P w K mg base tEl tEl id 1 := has_frozen0 F hm h1 h2 h3 (fun d => match d with
    | .inl _ => "int"
    | .inr _ => "str") (fun v H d h => by
      cases d with
      | inl i => exact tyx_int (d := i) v H h
      | inr s => exact tyx_str (d := s) v H h) fun d => by
      cases d with
      | inl i => exact kitA_int
      | inr s => exact kitA_str
  have tI : Frz P w K mg base (tTup tInt) (tTup tInt) id 2 := (has_frozenT F hm h1 h2 h3 i0).id_map (map_id' rfl)
  have lI : Frz P w K mg base (tLst tInt) (tTup tInt) id 2 := (has_frozenL F hm h1 h2 h3 i0).id_map (map_id' rfl)
  have tE : Frz P w K mg base (tTup tEl) (tTup tEl) id 2 := (has_frozenT F hm h1 h2 h3 e0).id_map (map_id' rfl)
  have pT : Frz P w K mg base (tPair tInt tInt) (tPair tInt tInt) id 2 := tI.as toE2 p2_in p2_out
  have pL : Frz P w K mg base (tLstN (ysC tInt (ysC tInt ysN))) (tPair tInt tInt) id 2 := lI.as toE2 p2_inL p2_out
  have d3 : Frz P w K mg base (tTupN (ysC tStr (ysC tInt (ysC tInt ysN)))) (tTupN (ysC tStr (ysC tInt (ysC tInt ysN)))) id 2 := tE.as toD3 d3_in d3_out
  exact ⟨tI, lI, (has_frozenT F hm h1 h2 h3 tI).id_map (map_id' rfl), (has_frozenL F hm h1 h2 h3 tI).id_map (map_id' rfl), (has_frozenL F hm h1 h2 h3 lI).id_map (map_id' rfl), (has_frozenT F hm h1 h2 h3 pT).id_map (map_id' rfl), (has_frozenL F hm h1 h2 h3 pL).id_map (map_id' rfl),
    tE.as toD2 d2_in d2_out, d3, (has_frozenT F hm h1 h2 h3 d3).id_map (map_id' rfl)⟩
end
end Pg
set_option Elab.async false
set_option linter.all false
set_option maxRecDepth 100000
set_option maxHeartbeats 400000
namespace Pg
open PySem PySem.Spec PyProof.Rows L2

/-! ### {k: v}, k a tuple of whole numbers -/
theorem tupleKind_room0 {prog : Program} {w : World} {K : Type} [DecidableEq K] {knd : KeyKind prog w K} {A : Around} (hu : A.units + 1 < cLine) : (tupleKind knd).room A := by
  show A.units < cLine
  omega
def tDispT1 (tk tv : TE) : TE := fun σ H Q => ∀ p, H p = none → tPairs [(tk, tv)] σ (upd H p (.dT [])) fun ps H2 => ∃ y b k, ps = [(.ref b, y)] ∧ H2 p = some (.dT []) ∧ H2 b = some (.tup (k.map kV)) ∧ Q (.ref p) (upd H2 p (.dT [(k, y)]))
theorem vv1 {x y : V} {ws : List (Value × Value)} (r : VV [(x, y)] ws) : ∃ u w, ws = [(u, w)] ∧ RelV x u ∧ RelV y w := by
  cases r with
  | cons h t =>
    cases t
    exact ⟨_, _, rfl, h.1, h.2⟩
theorem pe_dispT1 {X : Cx} {pos : Pos} {a b : Expr} {tk tv : TE} (hu : X.A.units + 1 < cLine) (ha : PE X a tk) (hb : PE X b tv) : PE X (.Dict [some a] [b] pos) (tDispT1 tk tv) := by
  refine ⟨fun pins s σ H Q I q => ?_⟩
  have hn := I.hok.fresh (Nat.le_refl s.heap.objs.size)
  have I1 := I.laid (a := s.heap.objs.size) (o := .dT []) (h' := s.heap.push { cls := .type "dict", data := .dict #[] }) (t' := s.toks) (fun _ _ q => Heap.get?_push_of_some _ q) (Nat.le_refl _) (dt_empty s.heap I.big)
  rw [arm_eval_Dict, show (evalEachOpt [some a] X.env).zip ((evalEach [b] X.env).map fun v => do let x ← v; standAt pos; pure x) = (pairTrees [some a] [b] X.env pos).map fun p => (some p.1, p.2) from rfl, dictDisplay_pairs (pairTrees [some a] [b] X.env pos) (fun z => nomatch z) (by show 1 < 17; omega)]
  refine wpAny_bind (wpAny_standAt (wpAny_bind (wpAny_subDictH (knd := tupleKind (mixKind X.prog X.w)) (Q := fun d s' => wpAny (model X.prog X.w) X.A (pure (Value.ref d)) (EP X pins σ Q) X.xe s') (tupleKind_room0 hu) (by show 1 ≤ 15; omega) ?_)))
  refine thn ((pps_cons (pos := pos) ha hb pps_nil).run pins _ σ _ _ I1 (q _ hn)) fun ws s2 ⟨ps, H2, I2, rel, y, bb, k, ep, e, eb, q2⟩ => ?_
  subst ep
  obtain ⟨u, w1, ew, r1, r2⟩ := vv1 rel
  subst ew
  cases (show u = Value.ref bb from r1)
  obtain ⟨_, hsm, xs, relT, dd⟩ := dt_of I2.hok e
  cases relT
  refine ⟨[(k, bb, w1)], ⟨rfl, rfl, key_of I2.hok eb, trivial⟩, dd, fun h' tk dd' hs => wpAny_pure ⟨.ref s.heap.objs.size, _, ?_, rfl, q2⟩⟩
  obtain ⟨o, es, ep, hq, h2, h3, h4, _, h5⟩ := dd'
  refine d_write I2 (by rw [e]; exact True.intro) hs ⟨o, hq⟩ ⟨?_, hsm, [(k, bb, w1)], .cons ⟨rfl, ?_, r2⟩ .nil, o, es, ep, hq, h2, h3, h4, h5⟩
  · show 1 ≤ sizeLine
    decide
  · show upd H2 s.heap.objs.size _ bb = _
    rw [upd_ne (ne_of eb e (fun z => nomatch z))]
    exact eb

/-! ### a list and a dict that grow -/
def toK (d : List Int) : List Key := d.map Sum.inl
theorem toK_map (d : List Int) : (toK d).map kV = d.map V.int := by
  unfold toK
  rw [List.map_map] <;> rfl
theorem toK_inj {a b : List Int} (h : toK a = toK b) : a = b := by
  have z := congrArg (List.map kV) h
  rw [toK_map, toK_map] at z
  exact List.map_inj_right (fun x y h => V.int.inj h) |>.mp z
theorem key_at {v : V} {H : Hp} {x : List Int} (h : (tTup tInt).R v H x) : ∃ b, v = .ref b ∧ H b = some (.tup ((toK x).map kV)) := by
  obtain ⟨a, vs, h1, h2, h3⟩ := h
  rw [pr_int h3, ← toK_map] at h2
  exact ⟨a, h1, h2⟩
def muD (i j : Nat) (ds ks : List (List Int)) : Mu where
  I := fun H0 σ Hs H => ∃ l vs d kvs, (σ[i]? = some (some (.ref l)) ∧ σ[j]? = some (some (.ref d))) ∧ (H0 l = none ∧ Hs l = none ∧ H l = some (.lst vs) ∧ Paired (fun v x => (tTup tInt).R v Hs x) vs ds) ∧ H0 d = none ∧ Hs d = none ∧ H d = some (.dT kvs) ∧ kvs.map (·.1) = ks.map toK
  dep := [i, j]
  keep := fun ⟨l, vs, d, kvs, h1, ⟨h2, h3, h4, h5⟩, h6, h7, h8, h9⟩ s => ⟨l, vs, d, kvs, h1, ⟨h2, s.free h3 h4, s.eh _ _ h4, pr_mono s.es h5⟩, h6, s.free h7 h8, s.eh _ _ h8, h9⟩
  loc := fun e ⟨l, vs, d, kvs, h1, h⟩ => ⟨l, vs, d, kvs, ⟨(e i (List.mem_cons_self ..)).trans h1.1, (e j (List.mem_cons_of_mem _ (List.mem_cons_self ..))).trans h1.2⟩, h⟩
/-- the dict's keys -/
def tDK : Ty (List (List Int)) := ⟨fun v H ks => ∃ a kvs, v = .ref a ∧ H a = some (.dT kvs) ∧ kvs.map (·.1) = ks.map toK, fun e ⟨a, kvs, h1, h2, h3⟩ => ⟨a, kvs, h1, e _ _ h2, h3⟩⟩
theorem val_in {kvs : List (List Key × V)} {ks : List (List Int)} (h : kvs.map (·.1) = ks.map toK) (x : List Int) : (valV kvs (toK x)).isSome = decide (x ∈ ks) := by
  rw [← valV_any]
  have e : (kvs.any fun kv => decide (kv.1 = toK x)) = ((kvs.map (·.1)).any fun k => decide (k = toK x)) := by rw [List.any_map] <;> rfl
  rw [e, h, List.any_map]
  by_cases q : x ∈ ks
  · rw [decide_eq_true q]
    exact List.any_eq_true.mpr ⟨x, q, by simp⟩
  · rw [decide_eq_false q]
    refine Bool.eq_false_iff.mpr fun z => q ?_
    obtain ⟨y, h1, h2⟩ := List.any_eq_true.mp z
    have h3 : toK y = toK x := of_decide_eq_true h2
    rw [← toK_inj h3]
    exact h1
section
variable {X : Cx} {ρ : List Slot} {i j : Nat} {β : Type} {A : Ty β} {ds ks : List (List Int)} {e : Expr} {m : Option β}
theorem W.holdD {B : Bs} {σ : L2.St} {Hs H : Hp} (w : W B ⟨ρ, muD i j ds ks⟩ σ Hs H) : ∃ l vs, Hs l = none ∧ B.H l = none ∧ H l = some (.lst vs) ∧ W B ⟨ρ.set i (.val (tLst (tTup tInt)) ds), mu0⟩ σ (upd Hs l (.lst vs)) H := by
  obtain ⟨l, vs, d, kvs, ⟨h1, _⟩, ⟨h2, h3, h4, h5⟩, _⟩ := w.mu
  have w' : W B ⟨ρ, muL i (tTup tInt) ds⟩ σ Hs H := ⟨w.st, w.sl, l, vs, h1, h2, h3, h4, h5⟩
  obtain ⟨l', vs', a1, a2, a3, _, _, a6⟩ := w'.hold
  exact ⟨l', vs', a1, a2, a3, a6⟩
theorem x_muD (so : Solid A) (h : XE X e ⟨ρ.set i (.val (tLst (tTup tInt)) ds), mu0⟩ A m) : XE X e ⟨ρ, muD i j ds ks⟩ A m := xe_mk h.raw fun B σ Hs H Q d w hm q => by
  obtain ⟨l, vs, h1, _, h2, w2⟩ := w.holdD
  exact ⟨B, _, d, w2, hm, fun v Hs' H' s r => q v (del Hs' l) H' (s.thaw h1 h2) (so.so (s.es _ _ upd_same) r)⟩
theorem xt_muD {m : Option Bool} (h : XT X e ⟨ρ.set i (.val (tLst (tTup tInt)) ds), mu0⟩ m) : XT X e ⟨ρ, muD i j ds ks⟩ m := xt_mk h.pt fun B σ Hs H Q d w hm q => by
  obtain ⟨l, vs, h1, _, h2, w2⟩ := w.holdD
  exact ⟨B, _, d, w2, hm, fun Hs' H' s => q (del Hs' l) H' (s.thaw h1 h2)⟩
variable {S B R : Type} {Gn : S → Cn} {Gb : B → Cn} {Tr : Ty R} {mm : Option (Out S B R)} {rest : List Stmt} {x y : Str} {a : Expr} {px pp pos dpos ap cp sp : Pos} {k0 : List Int}
/-- known = {k: None} -/
theorem xs_dnew {kj} {np : Pos} (j : Nat) (hN : X.N.Nodup) (hu : X.A.units + 1 < cLine) (hk : XE X a ⟨ρ, muL i (tTup tInt) ds⟩ (tTup tInt) (some k0)) (hr : XSs X rest ⟨ρ.set j .non, muD i j ds [k0]⟩ Gn Gb Tr mm) (hj : X.N[j]? = some y := by rfl)
    (hx : Loc X.env.scope y := by first | exact Or.inl rfl | exact Or.inr rfl) (hs : swapsWith (.Dict [some a] [.Constant .none kj np] dpos) (some (.Name y pp)) pos.line X.env = pure false := by rfl)
    (hf : X.fn y = true ∨ X.env.scope.names.lookup y = some .local := by first | exact .inl rfl | exact .inr rfl) (hjl : Nat.blt j ρ.length = true := by rfl) (hij : Nat.beq i j = false := by rfl) :
    XSs X (.Assign [.Name y pp] (.Dict [some a] [.Constant .none kj np] dpos) pos :: rest) ⟨ρ, muL i (tTup tInt) ds⟩ Gn Gb Tr mm := by
  refine ⟨pss_imp (pss_cons (ps_set hN hj hx (pe_dispT1 hu hk.raw pe_non) hs hf) hr.pss) fun D σ H ⟨Bs0, Hs, o, w, hm, k⟩ => fun p hp => ⟨Bs0, Hs, k0, ?_, rfl, fun v Hs1 H1 s1 r1 => ?_⟩⟩
  · exact w.step ((Step.refl w.ex).mutD hp (w.ex.none hp))
  · have s0 : Step Hs H Hs1 H1 := (((Step.refl w.ex).mutD hp (w.ex.none hp)).trans s1)
    obtain ⟨b, eb, hb⟩ := key_at r1
    subst eb
    have hpd : H1 p = some (.dT []) := s1.eh _ _ upd_same
    have np : Hs1 p = none := s1.free (w.ex.none hp) upd_same
    refine ⟨.non, b, toK k0, rfl, hpd, s0.ss _ _ hb, ?_⟩
    have w1 := w.step s0
    obtain ⟨l, vs, h1, h2, h3, h4, h5⟩ := w1.mu
    have hlp : l ≠ p := fun z => by
      rw [z, hpd] at h4
      cases h4
    have hbp : Bs0.H p = none := w.st.eh.none hp
    refine ⟨Bs0, Hs1, o, ⟨w1.st.mutD hbp np, w1.sl.set (s := .non) (o := some (.ref p)) trivial j, l, vs, p, [(toK k0, .non)], ⟨?_, ?_⟩, ⟨h2, h3, by rw [upd_ne hlp]; exact h4, h5⟩, hbp, np, upd_same, rfl⟩, hm, k.ex s0.es⟩
    · rw [List.getElem?_set_ne (fun z => by
        subst z
        simp at hij)]
      exact h1
    · exact List.getElem?_set_self (by rw [← w1.sl.1]; exact Nat.le_of_ble_eq_true hjl)
/-- e not in known -/
theorem xt_dni {hp : Pos} (hu : X.A.units + 1 < cLine) (hk : XE X a ⟨ρ, muD i j ds ks⟩ (tTup tInt) (some k0)) (hN : X.N[j]? = some y := by rfl) (hv : Vis X.env.scope y := by first | exact Or.inl rfl | exact Or.inr (Or.inl rfl) | exact Or.inr (Or.inr rfl)) (hd : (y == ("__debug__" : Str)) = false := by decide)
    (hcd : (y == ("__classdict__" : Str)) = false := by decide) (hb : behindInMarks .NotIn (.Name y hp) = false := by rfl) : XT X (.Compare a [.NotIn] [.Name y hp] pos) ⟨ρ, muD i j ds ks⟩ (some (!decide (k0 ∈ ks))) :=
  xt_mk (pt_cmp (pc_dnotin hu hk.raw (pe_var hN hv hd hcd)) hb) fun B σ Hs H Q c w hm q => by
    cases hm
    refine ⟨B, Hs, k0, w, rfl, fun v Hs1 H1 s1 r1 => ?_⟩
    obtain ⟨l, vs, d, kvs, ⟨h1, h1'⟩, _, h6, h7, h8, h9⟩ := (w.step s1).mu
    obtain ⟨b, eb, hb⟩ := key_at r1
    subst eb
    refine ⟨.ref d, h1', d, _, rfl, DGet.t h8 (s1.ss _ _ hb), _, rfl, ?_⟩
    rw [val_in h9]
    exact q Hs1 H1 s1
/-- known[e] = value -/
theorem xs_dput {v : Expr} {ks' : List (List Int)} {β : Type} {T : Ty β} {c : β} {np : Pos} (hu : X.A.units + 1 < cLine) (hv : XE X v ⟨ρ, muD i j ds ks⟩ T (some c)) (hk : XE X a ⟨ρ, muD i j ds ks⟩ (tTup tInt) (some k0)) (hn : decide (k0 ∈ ks) = false) (hl : appO ks k0 = some ks')
    (hr : XSs X rest ⟨ρ, muD i j ds ks'⟩ Gn Gb Tr mm) (hN : X.N[j]? = some y := by rfl) (hvv : Vis X.env.scope y := by first | exact Or.inl rfl | exact Or.inr (Or.inl rfl) | exact Or.inr (Or.inr rfl)) (hd : (y == ("__debug__" : Str)) = false := by decide)
    (hcd : (y == ("__classdict__" : Str)) = false := by decide) (hs : swapsWith v (some (.Subscript (.Name y np) a sp)) pos.line X.env = pure false := by rfl) : XSs X (.Assign [.Subscript (.Name y np) a sp] v pos :: rest) ⟨ρ, muD i j ds ks⟩ Gn Gb Tr mm := by
  obtain ⟨hlen, rfl⟩ := if_some hl
  refine ⟨pss_imp (pss_cons (ps_dput hu (pe_var hN hvv hd hcd) hk.raw hv.raw hs) hr.pss) fun D σ H ⟨Bs0, Hs, o, w, hm, k⟩ => ⟨Bs0, Hs, c, w, rfl, fun u Hs1 H1 s1 r1 => ?_⟩⟩
  obtain ⟨l, vs, d, kvs, ⟨h1, h1'⟩, _⟩ := (w.step s1).mu
  refine ⟨.ref d, h1', Bs0, Hs1, k0, w.step s1, rfl, fun q Hs2 H2 s2 r2 => ?_⟩
  have w2 := (w.step s1).step s2
  obtain ⟨l2, vs2, d2, kvs2, ⟨g1, g1'⟩, ⟨g2, g3, g4, g5⟩, g6, g7, g8, g9⟩ := w2.mu
  rw [h1'] at g1'
  cases g1'
  obtain ⟨b, eb, hb⟩ := key_at r2
  subst eb
  have hkl : kvs2.length = ks.length := by
    have z := congrArg List.length g9
    rw [List.length_map, List.length_map] at z
    exact z
  refine ⟨d, _, rfl, DPut.t g8 (s2.ss _ _ hb) (by rw [hkl]; exact Nat.lt_of_lt_of_le hlen (by decide)), ?_⟩
  have hld : l2 ≠ d := fun z => by
    rw [z, g8] at g4
    cases g4
  have hno : ¬ (kvs2.any fun kv => decide (kv.1 = toK k0)) = true := by
    rw [valV_any, val_in g9, hn]
    exact fun z => nomatch z
  refine ⟨Bs0, Hs2, o, ⟨w2.st.mutD g6 g7, w2.sl, l2, vs2, d, _, ⟨g1, h1'⟩, ⟨g2, g3, by rw [upd_ne hld]; exact g4, g5⟩, g6, g7, upd_same, ?_⟩, hm, k.ex (s1.es.trans s2.es)⟩
  unfold putK
  rw [if_neg hno, List.map_append, List.map_append, g9] <;> rfl
/-- found.append(e) -/
theorem xs_appD {ds' : List (List Int)} (he : XE X e ⟨ρ, muD i j ds ks⟩ (tTup tInt) (some k0)) (hl : appO ds k0 = some ds') (hr : XSs X rest ⟨ρ, muD i j ds' ks⟩ Gn Gb Tr mm)
    (h0 : PE X (.Call (.Attribute (.Name x px) "append" ap) [e] [] cp) (tBM X.K "list" rAppend (tVar i) (tCons (tM ⟨ρ, muD i j ds ks⟩ (tTup tInt) (some k0)) tNil)))
    (hs : swapsWith (.Call (.Attribute (.Name x px) "append" ap) [e] [] cp) none pos.line X.env = pure false := by rfl) : XSs X (.Expr (.Call (.Attribute (.Name x px) "append" ap) [e] [] cp) pos :: rest) ⟨ρ, muD i j ds ks⟩ Gn Gb Tr mm := by
  obtain ⟨hlen, rfl⟩ := if_some hl
  refine ⟨pss_imp (pss_cons (ps_expr h0 hs) hr.pss) fun D σ H ⟨Bs0, Hs, o, w, hm, k⟩ => ?_⟩
  obtain ⟨l, vs, d, kvs, ⟨h1, h1'⟩, ⟨h2, h3, h4, h5⟩, h6, h7, h8, h9⟩ := w.mu
  refine ⟨.ref l, h1, Or.inl ⟨rfl, vs, SqL.of h4⟩, Bs0, Hs, k0, w, rfl, fun v Hs' H' s r => ⟨l, vs, v, rfl, rfl, s.eh _ _ h4, ?_, Bs0, Hs', o, ?_, hm, k.ex s.es⟩⟩
  · rw [Paired.length h5]
    exact Nat.lt_of_lt_of_le hlen (by decide)
  · have n := s.free h3 h4
    have hdl : d ≠ l := fun z => by
      rw [z, h4] at h8
      cases h8
    refine ⟨(w.st.trans s).mutD h2 n, w.sl.mono s.es, l, _, d, kvs, ⟨h1, h1'⟩, ⟨h2, n, upd_same, pr_snoc (pr_mono s.es h5) r⟩, h6, s.free h7 h8, by rw [upd_ne hdl]; exact s.eh _ _ h8, h9⟩
/-- return known -/
theorem xs_retD (hN : X.N[j]? = some y := by rfl) (hv : Vis X.env.scope y := by first | exact Or.inl rfl | exact Or.inr (Or.inl rfl) | exact Or.inr (Or.inr rfl)) (hd : (y == ("__debug__" : Str)) = false := by decide)
    (hcd : (y == ("__classdict__" : Str)) = false := by decide) : XSs X (.Return (some (.Name y pp)) pos :: rest) ⟨ρ, muD i j ds ks⟩ Gn Gb tDK (some (.ret ks)) := by
  have h2 : PSs X rest (fun _ _ _ => False) := ⟨fun _ _ _ _ _ _ h => h.elim⟩
  refine ⟨pss_imp (pss_cons (ps_ret (pe_var hN hv hd hcd)) h2) fun D σ H ⟨Bs0, Hs, o, w, hm, k⟩ => ?_⟩
  cases hm
  obtain ⟨l, vs, d, kvs, ⟨h1, h1'⟩, _, h6, h7, h8, h9⟩ := w.mu
  exact ⟨.ref d, h1', k _ (upd Hs d (.dT kvs)) H (Ex.new h7) (w.st.frz h6 (w.st.es.none h7) h8) ⟨d, kvs, rfl, upd_same, h9⟩⟩
end
/-- k in dict -/
theorem x_inDK {X : Cx} {Γ : Cn} {a b : Expr} {pos : Pos} {k0 : List Int} {ks : List (List Int)} (hu : X.A.units + 1 < cLine) (ha : XE X a Γ (tTup tInt) (some k0)) (hb : XE X b Γ tDK (some ks)) (hk : behindInMarks .In b = false := by rfl) : XE X (.Compare a [.In] [b] pos) Γ tBool (some (decide (k0 ∈ ks))) :=
  xe_mk (pe_cmp (pc_din hu ha.raw hb.raw) hk) fun B σ Hs H Q c w hm q => by
    cases hm
    refine ⟨B, Hs, k0, w, rfl, fun v Hs1 H1 s1 r1 => ⟨B, Hs1, ks, w.step s1, rfl, fun u Hs2 H2 s2 ⟨d, kvs, e1, e2, e3⟩ => ?_⟩⟩
    obtain ⟨b, eb, hb⟩ := key_at ((tTup tInt).mono s2.es r1)
    subst eb e1
    refine ⟨d, _, rfl, DGet.t (s2.ss _ _ e2) (s2.ss _ _ hb), ?_⟩
    rw [val_in e3]
    exact q _ Hs2 H2 (s1.trans s2) rfl
end Pg
set_option Elab.async false
set_option linter.all false
set_option maxRecDepth 100000
set_option maxHeartbeats 400000
namespace Pg
open PySem PySem.Spec PyProof.Rows L2

/-! ### max, min of a tuple -/
section
variable {X : Cx} {Γ : Cn} {a : Expr} {p pos : Pos}
theorem reads_ints {h : Heap} : ∀ {us : List Value} {ns : List Int}, IntsAre us ns → ReadsAll h us (ns.map PyData.int) []
  | _, _, .nil => .nil
  | _, _, .cons n t r => ReadsAll.cons (as := []) (bs := []) (Reads.int ..) (reads_ints r)
theorem holds_int {h : Heap} {v : Value} {m : Int} (H : PySem.W.Holds h v m) : ∃ t, v = .int m t := by
  obtain ⟨as, r⟩ := H
  cases r
  exact ⟨_, rfl⟩
theorem maxOf_fold (x : Int) : ∀ xs : List Int, PySem.W.maxOf x xs = xs.foldl max x := fun xs => by
  unfold PySem.W.maxOf
  have e : (fun (a y : Int) => if PySem.W.DatumOrd.lt a y = true then y else a) = max := by
    funext a y
    show (if decide (a < y) = true then y else a) = max a y
    by_cases h : a < y
    · rw [if_pos (decide_eq_true h)]
      omega
    · rw [if_neg (by simpa using h)]
      omega
  rw [e]
theorem minOf_fold (x : Int) : ∀ xs : List Int, PySem.W.minOf x xs = xs.foldl min x := fun xs => by
  unfold PySem.W.minOf
  have e : (fun (a y : Int) => if PySem.W.DatumOrd.lt y a = true then y else a) = min := by
    funext a y
    show (if decide (y < a) = true then y else a) = min a y
    by_cases h : y < a
    · rw [if_pos (decide_eq_true h)]
      omega
    · rw [if_neg (by simpa using h)]
      omega
  rw [e]
def rMaxT (K : PySem.W.Frag) : List V → Hp → VK → Prop := fun vs H Q => ∃ (a : Addr) (n : Int) (ns : List Int), vs = [V.ref a] ∧ SqT K H a ((n :: ns).map V.int) ∧ Q (.int (ns.foldl max n)) H
def rMinT (K : PySem.W.Frag) : List V → Hp → VK → Prop := fun vs H Q => ∃ (a : Addr) (n : Int) (ns : List Int), vs = [V.ref a] ∧ SqT K H a ((n :: ns).map V.int) ∧ Q (.int (ns.foldl min n)) H
theorem cr_maxT (hc : X.calm = true) (hu : X.A.units + 64 < cLine) : CallR X (.builtin "max") (rMaxT X.K) := by
  intro pins s σ H vs us Q I r h
  obtain ⟨a, n, ns, rfl, hs, q⟩ := h
  obtain ⟨its, rv, hl, _⟩ := I.tuple hs
  rw [Vals.ref1 r]
  refine PySem.W.max_tuple_datum (α := Int) (x := n) (xs := ns) (I.ok.hd hc) hl ⟨[], by
    rw [show its.toArray.toList = its from by simp]
    exact reads_ints (Vals.ints rv)⟩ (by show _ + 1 + 0 < cLine; omega) fun i v h' tk _ hv hk => ?_
  obtain ⟨t, e⟩ := holds_int hv
  rw [e, maxOf_fold]
  exact ⟨.int _, H, I.kept hk, ⟨_, rfl⟩, q⟩
theorem cr_minT (hc : X.calm = true) (hu : X.A.units + 64 < cLine) : CallR X (.builtin "min") (rMinT X.K) := by
  intro pins s σ H vs us Q I r h
  obtain ⟨a, n, ns, rfl, hs, q⟩ := h
  obtain ⟨its, rv, hl, _⟩ := I.tuple hs
  rw [Vals.ref1 r]
  refine PySem.W.min_tuple_datum (α := Int) (x := n) (xs := ns) (I.ok.hd hc) hl ⟨[], by
    rw [show its.toArray.toList = its from by simp]
    exact reads_ints (Vals.ints rv)⟩ (by show _ + 1 + 0 < cLine; omega) fun i v h' tk _ hv hk => ?_
  obtain ⟨t, e⟩ := holds_int hv
  rw [e, minOf_fold]
  exact ⟨.int _, H, I.kept hk, ⟨_, rfl⟩, q⟩
theorem x_maxT {xs : List Int} (hm : X.mg "max" = none) (hu : X.A.units + 64 < cLine) (ha : XE X a Γ (tTup tInt) (some xs)) (hc0 : X.calm = true := by rfl) (hg : Gl X "max" := by rfl) (he : starEach [a] X.env = (false, eval a X.env) :: starEach [] X.env := by rfl) (hpl : (backTo pos (starEach [] X.env)).any (·.1) = false := by rfl) :
    XE X (.Call (.Name "max" p) [a] [] pos) Γ tInt (maxL xs) :=
  x_cb (cr_maxT hc0 hu) hm (by decide +kernel) (xa_cons ha xa_nil he) (fun vs Hs H Q c hc e r q => by
    obtain ⟨v, e1, l, us, r1, r2, r3⟩ := ys1 r
    subst e1 r1
    rw [pr_int r3] at r2
    cases xs with
    | nil => cases hc
    | cons x xs =>
      cases hc
      exact ⟨l, x, xs, rfl, SqT.of (e _ _ r2), q _ _ _ (Step.refl e) rfl⟩) hg (by decide) (by decide) he hpl
theorem x_minT {xs : List Int} (hm : X.mg "min" = none) (hu : X.A.units + 64 < cLine) (ha : XE X a Γ (tTup tInt) (some xs)) (hc0 : X.calm = true := by rfl) (hg : Gl X "min" := by rfl) (he : starEach [a] X.env = (false, eval a X.env) :: starEach [] X.env := by rfl) (hpl : (backTo pos (starEach [] X.env)).any (·.1) = false := by rfl) :
    XE X (.Call (.Name "min" p) [a] [] pos) Γ tInt (minL xs) :=
  x_cb (cr_minT hc0 hu) hm (by decide +kernel) (xa_cons ha xa_nil he) (fun vs Hs H Q c hc e r q => by
    obtain ⟨v, e1, l, us, r1, r2, r3⟩ := ys1 r
    subst e1 r1
    rw [pr_int r3] at r2
    cases xs with
    | nil => cases hc
    | cons x xs =>
      cases hc
      exact ⟨l, x, xs, rfl, SqT.of (e _ _ r2), q _ _ _ (Step.refl e) rfl⟩) hg (by decide) (by decide) he hpl
end

/-! ### a range as a value -/
def tRng : Ty Int := ⟨fun v H n => ∃ a, v = .ref a ∧ H a = some (.rng 0 n), fun e ⟨a, h1, h2⟩ => ⟨a, h1, e _ _ h2⟩⟩
section
variable {X : Cx} {Γ : Cn} {a tg : Expr} {p pos : Pos}
theorem cr_range1 : CallR X (.type "range") (fun vs H Q => ∃ j, vs = [V.int j] ∧ ∀ p, H p = none → Q (.ref p) (upd H p (.rng 0 j))) := by
  intro pins s σ H vs us Q I r h
  obtain ⟨j, rfl, q⟩ := h
  obtain ⟨u1, rfl, ri⟩ := r.one
  obtain ⟨t, rfl⟩ := ri
  refine call_range_1 ⟨.ref s.heap.objs.size, upd H s.heap.objs.size (.rng 0 j), I.laid (t' := s.toks + 1 + 1) (fun b o e => Heap.get?_push_of_some _ e) (Nat.le_refl _) ?_, rfl, q _ (I.hok.fresh (Nat.le_refl _))⟩
  exact ⟨s.toks, t, s.toks + 1, Heap.get?_push_size _ rfl⟩
theorem x_range1 {n : Int} (hm : X.mg "range" = none) (ha : XE X a Γ tInt (some n)) (hg : Gl X "range" := by rfl) (he : starEach [a] X.env = (false, eval a X.env) :: starEach [] X.env := by rfl) (hpl : (backTo pos (starEach [] X.env)).any (·.1) = false := by rfl) :
    XE X (.Call (.Name "range" p) [a] [] pos) Γ tRng (some n) :=
  x_ct cr_range1 hm (by decide +kernel) (xa_cons ha xa_nil he) (fun vs Hs H Q c hc e r q => by
    obtain ⟨v, e1, r1⟩ := ys1 r
    cases (show v = .int n from r1)
    subst e1
    cases hc
    exact ⟨n, rfl, fun z hz => q _ _ _ (Step.new e hz) ⟨z, rfl, upd_same⟩⟩) hg (by decide) (by decide) he hpl
def iRngV (tl : TE) : TI := fun σ H R => tl σ H fun x H1 => ∃ a hi, x = .ref a ∧ H1 a = some (.rng 0 hi) ∧ -(2 ^ 62) ≤ hi ∧ hi < 2 ^ 62 ∧ R (Itr 0 (hi - 0).toNat) H1
theorem pi_rngV {l : Expr} {tl : TE} (hl : PE X l tl) : PI X tg l (iRngV tl) := by
  refine ⟨fun pins s σ H R I h => ?_⟩
  refine thn (hl.run pins s σ H _ I h) fun v s1 ⟨x, H1, I1, r1, q1⟩ => ?_
  obtain ⟨a, hi, e, hq, h1, h2, q⟩ := q1
  subst e
  cases r1
  obtain ⟨t, u, v, ho⟩ := (show ObjOk X.prog X.w H1 s1.heap a (.rng 0 hi) from I1.hok a _ hq)
  refine wpAny_pyIter_range ho (small_one (by omega) (by omega) h1 h2) ?_
  refine ⟨s1.heap.objs.size, [s1.heap.objs.size], _, _, H1, rfl, I1.kept (t' := s1.toks) fun b o e => Heap.get?_push_of_some _ e, turn_range _ 0 (hi - 0).toNat, ?_, fun b hb => ?_, q⟩
  · have e1 : (0 : Int) + ((0 : Nat) : Int) * 1 = 0 := by simp
    have e2 : (((hi - 0).toNat : Nat) : Int) - ((0 : Nat) : Int) = Builtin.Range.rangeSize 0 hi 1 := by rw [rangeSize_one]; split <;> omega
    show IsRangeIter _ _ ((0 : Int) + ((0 : Nat) : Int) * 1) ((((hi - 0).toNat : Nat) : Int) - ((0 : Nat) : Int)) 1
    rw [e1, e2]
    exact Heap.get?_push_size _ rfl
  · have e : b = s1.heap.objs.size := by simpa using hb
    subst e
    exact I1.fpOk (Nat.le_refl _) (I1.hok.fresh (Nat.le_refl _))
theorem xi_rngV {e : Expr} {n : Int} {xs : List Int} (h : XE X e Γ tRng (some n)) (hx : rngO 0 n = some xs) : XI X tg e Γ tInt xs := by
  obtain ⟨hb, rfl⟩ := rngO_some hx
  exact ⟨pi_imp (pi_rngV h.pe) fun σ H R ⟨B, Hs, w, q⟩ => ⟨B, Hs, n, w, rfl, fun v Hs' H' s ⟨a, r1, r2⟩ b =>
    ⟨a, n, r1, s.ss _ _ r2, by omega, by omega, q _ Hs' H' s (rng_small hb) walk_r⟩⟩⟩
end

/-! ### what the printed proofs lean on -/
section
variable {X : Cx} {e : Expr} {Γ : Cn} {α β : Type} {T : Ty α}
theorem x_fail : XE X e Γ T none := XE.of ⟨fun _ _ _ _ _ _ ⟨_, _, _, _, hm, _⟩ => nomatch hm⟩
theorem and_p {x y : Bool} : (if x = true then some y else some false) = some (x && y) := by cases x <;> rfl
theorem or_p {x y : Bool} : (if x = true then some true else some y) = some (x || y) := by cases x <;> rfl
theorem ite_p {c : Bool} {a b : α} : (if c = true then some a else some b) = some (if c = true then a else b) := by cases c <;> rfl
theorem mulO_r {x y : Int} (h : -(2 ^ 64) < y ∧ y < 2 ^ 64) : mulO x y = some (x * y) := if_pos (.inr h)
theorem mulO_l {x y : Int} (h : -(2 ^ 64) < x ∧ x < 2 ^ 64) : mulO x y = some (x * y) := if_pos (.inl h)
theorem nn_lst {S : Ty β} : NN (tLst S) := ⟨fun v H d ⟨a, vs, h, _⟩ => by
  rw [h]
  exact fun z => nomatch z⟩
theorem xt_eqm {m m' : Option Bool} (h : XT X e Γ m) (hm : m = m') : XT X e Γ m' := hm ▸ h
theorem xw_eqm {m m' : Option Bool} (h : XW X e Γ m) (hm : m = m') : XW X e Γ m' := hm ▸ h
end
theorem lcM_filterO {α β : Type} (p : α → Bool) (f : α → Option β) : ∀ xs : List α, lcM (fun x => some (p x)) f xs = mapO f (xs.filter p)
  | [] => rfl
  | x :: xs => by
    rw [lcM_cons, lcM_filterO p f xs, List.filter_cons]
    cases p x <;> rfl
/-- the tests may fail, the element does not -/
def filO {α : Type} (p : α → Option Bool) : List α → Option (List α)
  | [] => some []
  | x :: xs => (p x).bind fun b => (filO p xs).map fun l => if b = true then x :: l else l
theorem filO_cons {α : Type} (p : α → Option Bool) (x : α) (xs : List α) : filO p (x :: xs) = (p x).bind fun b => (filO p xs).map fun l => if b = true then x :: l else l := rfl
theorem lcM_filO {α β : Type} (p : α → Option Bool) (f : α → β) : ∀ xs : List α, lcM p (fun x => some (f x)) xs = (filO p xs).map (List.map f)
  | [] => rfl
  | x :: xs => by
    rw [lcM_cons, lcM_filO p f xs, filO_cons]
    cases p x with
    | none => rfl
    | some b =>
      cases filO p xs with
      | none => cases b <;> rfl
      | some l => cases b <;> rfl
theorem Room.u65 {k : Nat} {A : Around} (r : Room k A) : A.units + 65 < cLine := by
  have := r.un
  omega
theorem Room.u1 {k : Nat} {A : Around} (r : Room k A) : A.units + 1 < cLine := by
  have := r.un
  omega
section
variable {α : Type} [DecidableEq α] {T : Ty α} {enc : α → PyData} {n : Nat}
theorem de_optL (h : DE T enc n) (hn : ∀ d, ∃ xs, enc d = .list xs) : DE (tOpt T) (encO enc) n := ⟨fun {v H d K} r => by
  cases d with
  | none =>
    rw [show v = .non from r]
    exact Dp.non
  | some d => exact h.dp r.2, fun d => by
  cases d with
  | none =>
    show PyData.canLay0 .none = true
    simp only [PyData.canLay0]
  | some d => exact h.lay d, fun d => by
  cases d with
  | none =>
    show PyData.depth .none ≤ n
    simp only [PyData.depth]
    exact Nat.zero_le _
  | some d => exact h.dep d, fun a b => by
  cases a with
  | none =>
    cases b with
    | none =>
      show PyData.eqv .none .none = _
      simp [PyData.eqv]
    | some b =>
      obtain ⟨xs, e⟩ := hn b
      show PyData.eqv .none (enc b) = _
      rw [e]
      simp [PyData.eqv]
  | some a =>
    cases b with
    | none =>
      obtain ⟨xs, e⟩ := hn a
      show PyData.eqv (enc a) .none = _
      rw [e]
      simp [PyData.eqv]
    | some b =>
      show PyData.eqv (enc a) (enc b) = _
      rw [h.ev]
      by_cases e : a = b
      · rw [e]
        simp
      · rw [decide_eq_false e, decide_eq_false fun z => e (Option.some.inj z)]⟩
/-- list(xs), a list that will grow -/
theorem xf_list {X : Cx} {Γ : Cn} {a : Expr} {p pos : Pos} {α : Type} {T : Ty α} {xs : List α} (hm : X.mg "list" = none) (ha : XE X a Γ (tLst T) (some xs)) (hg : Gl X "list" := by rfl) (he : starEach [a] X.env = (false, eval a X.env) :: starEach [] X.env := by rfl) (hpl : (backTo pos (starEach [] X.env)).any (·.1) = false := by rfl) :
    XF1 X (.Call (.Name "list" p) [a] [] pos) Γ T (some xs) :=
  ⟨pe_imp (pe_callTy call_list_of hg hm (by decide +kernel) (pa_cons ha.raw pa_nil he) (by decide) (by decide) he hpl) fun σ H Q ⟨B, Hs, d, w, hd, q⟩ => by
    cases hd
    refine ⟨B, Hs, xs, w, rfl, fun v Hs1 H1 s1 ⟨l, us, r1, r2, r3⟩ => ?_⟩
    subst r1
    exact ⟨l, us, rfl, .inl (SqL.of (s1.ss _ _ r2)), fun z hz => q z us Hs1 _ (s1.eh.none hz) (s1.mutD (s1.eh.none hz) (s1.ss.none hz)) (s1.ss.none hz) upd_same r3⟩⟩
end

/-! ### defs as methods -/
section
variable {P : Program} {w : World} {K : PySem.W.Frag} {mg : Str → Option Value} {base : Heap} {x qual : Str} {st : Stmt} {f : Addr} {fd : FuncData} {N ps : List Str} {k : Nat} {α ρ : Type} {A : Tys α} {R : Ty ρ} {kws : List (Str × V)}
theorem fnok_def {S B : Type} {sl : α → List Slot} {Gn : S → Cn} {Gb : B → Cn} {m : α → Option (Out S B ρ)} (F : FunD K x qual (defArgs st) (defBody st) (defScope st) [] kws f fd) (Sc : FnScope N ps (defScope st)) (hp : Prm A sl) (ha : A.ar = ps.length)
    (hb : ∀ (cdv : Value) (Ar : Around) (outer : List Env) (s : Shared) (H : Hp) (E : XK) d, Room k (Ar.deeper (envOfC qual (defScope st) s.heap.objs.size f cdv)) → XSs (cxOf CX0 P w K mg base N qual (defScope st) f cdv Ar outer s H E).nox (defBody st) (gam sl (N.length - ps.length) d) Gn Gb R (m d)) :
    FnOk P w K mg base CX0 (k + 1) f fd ps (SpF A R fun d => retO (m d)) :=
  fn_core (R := R) F Sc hp ha (fun vs H Q E ⟨Hs, d, r, _, rv, _⟩ => (A.len rv).trans ha) hb fun vs H Q E ⟨Hs, d, r, ex, rv, hr, q⟩ => ⟨⟨Hs, H⟩, Hs, d, .ret r, rv, Step.refl ex, retO_some hr, fun v Hs' H' _ s2 r2 => q v Hs' H' s2 r2⟩
end
end Pg
set_option Elab.async false
set_option linter.all false
set_option maxRecDepth 100000
set_option maxHeartbeats 400000
namespace Pg
open PySem PySem.Spec PyProof.Rows L2

section
variable {X : Cx} {ρ : List Slot} {i : Nat} {α β : Type} {T : Ty α} {ds ds' : List α} {e b : Expr} {d : α} {S B R : Type} {Gn : S → Cn} {Gb : B → Cn} {Tr : Ty R} {mm : Option (Out S B R)} {rest : List Stmt} {x : Str} {px ap cp pos sp : Pos} {Γ : Cn}
theorem xs_appL (he : XE X e ⟨ρ, muL i T ds⟩ T (some d)) (hl : appO ds d = some ds') (hr : XSs X rest ⟨ρ, muL i T ds'⟩ Gn Gb Tr mm) (hN : X.N[i]? = some x := by rfl) (hv : Vis X.env.scope x := by first | exact Or.inl rfl | exact Or.inr (Or.inl rfl) | exact Or.inr (Or.inr rfl))
    (hd : (x == ("__debug__" : Str)) = false := by decide) (hcd : (x == ("__classdict__" : Str)) = false := by decide) (hbase : attributeBase (.Name x px) "append" X.env (eval (.Name x px) X.env) = eval (.Name x px) X.env := by rfl)
    (hfew : ((backTo cp (starEach [e] X.env)).all (fun x => !x.1) && (backToKw cp (keywordEach [] X.env)).all (fun x => x.1.isSome) && decide (([e] : List Expr).length + ([] : List Keyword).length + (if ([] : List Keyword).isEmpty then 0 else 1) < 30)) = true := by rfl)
    (hline : (ap.endLine == cp.line) = true := by rfl) (hs1 : starEach [e] X.env = (false, eval e X.env) :: starEach [] X.env := by rfl) (hplain : (backTo cp (starEach [] X.env)).any (·.1) = false := by rfl)
    (hs : swapsWith (.Call (.Attribute (.Name x px) "append" ap) [e] [] cp) none pos.line X.env = pure false := by rfl) : XSs X (.Expr (.Call (.Attribute (.Name x px) "append" ap) [e] [] cp) pos :: rest) ⟨ρ, muL i T ds⟩ Gn Gb Tr mm :=
  xs_app he hl hr (pe_bm PySem.F.plainAttrs_list PySem.F.slot_list_append PySem.F.type_list_append mt_append (pe_var hN hv hd hcd) (pa_cons he.raw pa_nil hs1) hbase hfew hline hs1 hplain) hs
def idxO (ns : List Int) (x : Int) : Option Int := match idxL ns x with
  | some j => some (j : Int)
  | none => none
theorem x_indexL {a : Expr} {ns : List Int} {x : Int} (ha : XE X a Γ (tLst tInt) (some ns)) (hb : XE X b Γ tInt (some x)) (hbase : attributeBase a "index" X.env (eval a X.env) = eval a X.env := by rfl)
    (hfew : ((backTo cp (starEach [b] X.env)).all (fun x => !x.1) && (backToKw cp (keywordEach [] X.env)).all (fun x => x.1.isSome) && decide (([b] : List Expr).length + ([] : List Keyword).length + (if ([] : List Keyword).isEmpty then 0 else 1) < 30)) = true := by rfl)
    (hline : (ap.endLine == cp.line) = true := by rfl) (hs1 : starEach [b] X.env = (false, eval b X.env) :: starEach [] X.env := by rfl) (hplain : (backTo cp (starEach [] X.env)).any (·.1) = false := by rfl) :
    XE X (.Call (.Attribute a "index" ap) [b] [] cp) Γ tInt (idxO ns x) := x_eq
  (x_index ha hb (pe_bm PySem.F.plainAttrs_list PySem.F.slot_list_index PySem.F.type_list_index mt_index ha.raw (pa_cons hb.raw pa_nil hs1) hbase hfew hline hs1 hplain)) (by
    unfold idxO
    cases idxL ns x <;> rfl)
theorem xs_putL {j : Int} (he : XE X e ⟨ρ, muL i T ds⟩ T (some d)) (hb : XE X b ⟨ρ, muL i T ds⟩ tInt (some j)) (hl : setO ds j d = some ds') (hr : XSs X rest ⟨ρ, muL i T ds'⟩ Gn Gb Tr mm) (hN : X.N[i]? = some x := by rfl)
    (hv : Vis X.env.scope x := by first | exact Or.inl rfl | exact Or.inr (Or.inl rfl) | exact Or.inr (Or.inr rfl)) (hd : (x == ("__debug__" : Str)) = false := by decide) (hcd : (x == ("__classdict__" : Str)) = false := by decide)
    (hs : swapsWithSole [.Subscript (.Name x px) b sp] e pos.line X.env = pure false := by rfl) (hw : swappedStores [.Subscript (.Name x px) b sp] e X.env = pure none := by rfl)
    (h1 : (assignEach [.Subscript (.Name x px) b sp] X.env).map (·.2) = [assign (.Subscript (.Name x px) b sp) X.env] := by rfl)
    (hag : ∀ v, assign (.Subscript (.Name x px) b sp) X.env v = (do
      let ov ← holding [v] (eval (.Name x px) X.env)
      let iv ← holding [v, ov] (eval b X.env)
      standAt sp
      holding [v, ov, iv] (setItem ov iv v)
      release [v, ov, iv] []) := by intro _; rfl) : XSs X (.Assign [.Subscript (.Name x px) b sp] e pos :: rest) ⟨ρ, muL i T ds⟩ Gn Gb Tr mm :=
  xs_put he hb hl hr (ps_asg he.raw (pg_sub (pe_var hN hv hd hcd) hb.raw set_list hag) hs hw h1)
end

/-! ### the program's objects -/
abbrev P2T : Ty (Int × Int × Unit) := tPair tInt tInt
structure StreetD where
  pegs : List Int
  lanes : List (Int × Int × Unit)
  to_lists : List (List Int)
  from_lists : List (List Int)
structure StandD where
  street : StreetD
  ways : List (List Int)
  hung : List (List Int)
  wants : List (Option Int)
structure PastD where
  row : Option (List (Int × Int × Unit))
  lot : List Int
structure ComD where
  row : Option (List Int)
  lot : List Int
def flStreet (d : StreetD) : List (Str × Slot) := [("pegs", .val (tTup tInt) d.pegs), ("lanes", .val (tTup P2T) d.lanes), ("to_lists", .val (tTup (tTup tInt)) d.to_lists), ("from_lists", .val (tTup (tTup tInt)) d.from_lists)]
abbrev tStreet (c : Addr) : Ty StreetD := tObj c flStreet
def flStand (cS : Addr) (d : StandD) : List (Str × Slot) := [("street", .val (tStreet cS) d.street), ("ways", .val (tTup (tTup tInt)) d.ways), ("hung", .val (tTup (tTup tInt)) d.hung), ("wants", .val (tTup (tOpt tInt)) d.wants)]
abbrev tStand (cS cT : Addr) : Ty StandD := tObj cT (flStand cS)
def flPast (d : PastD) : List (Str × Slot) := [("row", .val (tOpt (tTup P2T)) d.row), ("lot", .val (tTup tInt) d.lot)]
abbrev tPast (c : Addr) : Ty PastD := tObj c flPast
def flCom (d : ComD) : List (Str × Slot) := [("row", .val (tOpt (tTup tInt)) d.row), ("lot", .val (tTup tInt) d.lot)]
abbrev tCom (c : Addr) : Ty ComD := tObj c flCom
/-- the j-th statement of the i-th statement, a class -/
def mth (i j : Nat) : Stmt := match top i with
  | .ClassDef _ _ _ b _ _ _ _ _ _ _ => b.getD j (.Pass ⟨0, 0, 0, 0⟩)
  | _ => .Pass ⟨0, 0, 0, 0⟩
abbrev DefOk (K : PySem.W.Frag) (mg : Str → Option Value) (i : Nat) (x : Str) (kws : List (Str × V)) : Prop := ∃ f fd, FunD K x x (defArgs (top i)) (defBody (top i)) (defScope (top i)) [] kws f fd ∧ mg x = some (.ref f)
abbrev MthOk (K : PySem.W.Frag) (C : Addr) (i j : Nat) (m q : Str) : Prop := ∃ f fd, FunD K m q (defArgs (mth i j)) (defBody (mth i j)) (defScope (mth i j)) [] [] f fd ∧ Meth K C m f
abbrev PrpOk (K : PySem.W.Frag) (C : Addr) (i j : Nat) (m q : Str) : Prop := ∃ p f fd, FunD K m q (defArgs (mth i j)) (defBody (mth i j)) (defScope (mth i j)) [] [] f fd ∧ PropOf K C m p f
abbrev IniOk (K : PySem.W.Frag) (mg : Str → Option Value) (C : Addr) (i j : Nat) (x q : Str) (kws : List (Str × V)) : Prop := ∃ f fd, FunD K "__init__" q (defArgs (mth i j)) (defBody (mth i j)) (defScope (mth i j)) [] kws f fd ∧ Mk K C f ∧ mg x = some (.ref C)
abbrev CmtOk (K : PySem.W.Frag) (mg : Str → Option Value) (C : Addr) (i j : Nat) (x m q : Str) : Prop := ∃ mc p f fd, FunD K m q (defArgs (mth i j)) (defBody (mth i j)) (defScope (mth i j)) [] [] f fd ∧ ClX.CRead K C mc ∧ ClX.CMet K C mc m p f ∧ mg x = some (.ref C)
end Pg
set_option Elab.async false
set_option linter.all false
set_option maxRecDepth 100000
set_option maxHeartbeats 400000
namespace Pg
open PySem PySem.Spec PyProof.Rows L2

/-- the same context, written out -/
theorem xs_cn {X : Cx} {Γ Γ' : Cn} {S B R : Type} {Gn : S → Cn} {Gb : B → Cn} {T : Ty R} {m : Option (Out S B R)} {sts : List Stmt} (h : Γ = Γ') (r : XSs X sts Γ' Gn Gb T m) : XSs X sts Γ Gn Gb T m := h ▸ r
/-- membership -/
def memD {α : Type} [DecidableEq α] (x : α) (l : List α) : Bool := decide (x ∈ l)
theorem lcM_filt {α : Type} (p : α → Bool) : ∀ xs : List α, lcM (fun x => some (p x)) (fun x => some x) xs = some (xs.filter p) := fun xs => by
  rw [lcM_filter p (fun x => x) xs, List.map_id'' (fun _ => rfl)]
theorem lcM_filOi {α : Type} (p : α → Option Bool) (xs : List α) : lcM p (fun x => some x) xs = filO p xs := by
  rw [lcM_filO p (fun x => x) xs]
  cases filO p xs with
  | none => rfl
  | some l => rw [Option.map_some, List.map_id'' (fun _ => rfl)]
def smallO {α : Type} (xs : List α) : Option Unit := if xs.length < 100000 then some () else none
theorem smallO_ok {α : Type} {xs : List α} {u : Unit} (h : smallO xs = some u) : (0 : Int) ≤ (xs.length : Int) ∧ (xs.length : Int) < 2 ^ 63 := by
  obtain ⟨h1, _⟩ := if_some h
  omega
theorem so_Street {c : Addr} : Solid (tStreet c) := so_obj fun d => ⟨so_tup so_int, so_tup (so_tupN (so_c so_int (so_c so_int so_n))), so_tup (so_tup so_int), so_tup (so_tup so_int), trivial⟩
theorem so_Standing {cS cT : Addr} : Solid (tStand cS cT) := so_obj fun d => ⟨so_Street, so_tup (so_tup so_int), so_tup (so_tup so_int), so_tup (so_opt so_int), trivial⟩
theorem x_nonO {X : Cx} {e : Expr} {Γ : Cn} (h : XE X e Γ tNon (some ())) : XE X e Γ (tOpt tNon) (some none) := x_as h fun v Hs r => r
section
variable {K : PySem.W.Frag} {q : Str} {f : Addr} {fd : FuncData}
/-- Standing's parameters: sure by its default -/
theorem kb_D (F : FunD K "__init__" q (defArgs (mth 36 0)) (defBody (mth 36 0)) (defScope (mth 36 0)) [] [("sure", .bl false)] f fd) : ∃ mv : List Value, KBn K fd ["self", "street", "ways", "sure"] 3 [] (fun us ws => us ++ (mv ++ ws)) (fun vs zs => vs ++ ([.bl false] ++ zs)) :=
  F.kbinds0 3 [] [("sure", .bl false)] (fun us mv ws => us ++ (mv ++ ws)) (fun z => nomatch z) (fun q h => h) (fun r1 r2 r3 => r1.append (r2.append r3)) fun D doc pm an cdv ct us mv ws h1 h2 h3 => match us, mv, ws, h1, h2, h3 with
    | [_, _, _], [_], [], _, _, _ => ⟨_, _, _, _, _, _, rfl, rfl, rfl⟩
theorem kb_K (F : FunD K "__init__" q (defArgs (mth 36 0)) (defBody (mth 36 0)) (defScope (mth 36 0)) [] [("sure", .bl false)] f fd) : ∃ mv : List Value, KBn K fd ["self", "street", "ways", "sure"] 3 ["sure"] (fun us ws => us ++ (mv ++ ws)) (fun vs zs => vs ++ ([] ++ zs)) :=
  F.kbinds0 3 ["sure"] [] (fun us mv ws => us ++ (mv ++ ws)) (fun z => nomatch z) (fun q h => nomatch h) (fun r1 r2 r3 => r1.append (r2.append r3)) fun D doc pm an cdv ct us mv ws h1 h2 h3 => match us, mv, ws, h1, h2, h3 with
    | [_, _, _], [], [_], _, _, _ => rfl
/-- past(standing), past(standing, early = None) -/
theorem kb_pD (F : FunD K "past" "past" (defArgs (top 68)) (defBody (top 68)) (defScope (top 68)) [] [("early", .non)] f fd) : ∃ mv : List Value, KBn K fd ["standing", "early"] 1 [] (fun us ws => us ++ (mv ++ ws)) (fun vs zs => vs ++ ([.non] ++ zs)) :=
  F.kbinds0 1 [] [("early", .non)] (fun us mv ws => us ++ (mv ++ ws)) (fun z => nomatch z) (fun q h => h) (fun r1 r2 r3 => r1.append (r2.append r3)) fun D doc pm an cdv ct us mv ws h1 h2 h3 => match us, mv, ws, h1, h2, h3 with
    | [_], [_], [], _, _, _ => ⟨_, _, _, _, _, _, rfl, rfl, rfl⟩
theorem kb_pK (F : FunD K "past" "past" (defArgs (top 68)) (defBody (top 68)) (defScope (top 68)) [] [("early", .non)] f fd) : ∃ mv : List Value, KBn K fd ["standing", "early"] 1 ["early"] (fun us ws => us ++ (mv ++ ws)) (fun vs zs => vs ++ ([] ++ zs)) :=
  F.kbinds0 1 ["early"] [] (fun us mv ws => us ++ (mv ++ ws)) (fun z => nomatch z) (fun q h => nomatch h) (fun r1 r2 r3 => r1.append (r2.append r3)) fun D doc pm an cdv ct us mv ws h1 h2 h3 => match us, mv, ws, h1, h2, h3 with
    | [_], [], [_], _, _, _ => rfl
theorem kb_iD (F : FunD K "is_past" "is_past" (defArgs (top 67)) (defBody (top 67)) (defScope (top 67)) [] [("early", .non)] f fd) : ∃ mv : List Value, KBn K fd ["standing", "pairs", "early"] 2 [] (fun us ws => us ++ (mv ++ ws)) (fun vs zs => vs ++ ([.non] ++ zs)) :=
  F.kbinds0 2 [] [("early", .non)] (fun us mv ws => us ++ (mv ++ ws)) (fun z => nomatch z) (fun q h => h) (fun r1 r2 r3 => r1.append (r2.append r3)) fun D doc pm an cdv ct us mv ws h1 h2 h3 => match us, mv, ws, h1, h2, h3 with
    | [_, _], [_], [], _, _, _ => ⟨_, _, _, _, _, _, rfl, rfl, rfl⟩
end
section
variable {α β γ : Type} {A : Ty α} {B : Ty β} {C : Ty γ} {a : α} {b : β} {c : γ}
theorem hA_D (vs : List V) (Hs : Hp) (h : (ysC A (ysC B ysN)).R vs Hs (a, b, ())) : vs.length = 2 ∧ ∀ q : V, ∃ ws, (q :: vs) ++ ([.bl false] ++ []) = q :: ws ∧ (ysC A (ysC B (ysC tBool ysN))).R ws Hs (a, b, false, ()) := by
  obtain ⟨v, u, e, h1, h2⟩ := ys2 h
  subst e
  exact ⟨rfl, fun q => ⟨[v, u, .bl false], rfl, v, _, rfl, h1, u, _, rfl, h2, _, _, rfl, rfl, rfl⟩⟩
theorem hA_K {y : Bool} (vs : List V) (v0 : V) (Hs : Hp) (h : (ysC A (ysC B ysN)).R vs Hs (a, b, ())) (hv : tBool.R v0 Hs y) : vs.length = 2 ∧ ["sure"].length = 1 ∧ ∀ q : V, ∃ ws, (q :: vs) ++ ([] ++ [v0]) = q :: ws ∧ (ysC A (ysC B (ysC tBool ysN))).R ws Hs (a, b, y, ()) := by
  obtain ⟨v, u, e, h1, h2⟩ := ys2 h
  subst e
  exact ⟨rfl, rfl, fun q => ⟨[v, u, v0], rfl, v, _, rfl, h1, u, _, rfl, h2, _, _, rfl, hv, rfl⟩⟩
theorem hA_p (vs : List V) (Hs : Hp) (h : (ysC A ysN).R vs Hs (a, ())) : vs.length = 1 ∧ (ysC A (ysC tNon ysN)).R (vs ++ ([.non] ++ [])) Hs (a, (), ()) := by
  obtain ⟨v, e, h1⟩ := ys1 h
  subst e
  exact ⟨rfl, v, _, rfl, h1, _, _, rfl, rfl, rfl⟩
theorem hA_pK (vs : List V) (v0 : V) (Hs : Hp) (h : (ysC A ysN).R vs Hs (a, ())) (hv : tNon.R v0 Hs ()) : vs.length = 1 ∧ ["early"].length = 1 ∧ (ysC A (ysC tNon ysN)).R (vs ++ ([] ++ [v0])) Hs (a, (), ()) := by
  obtain ⟨v, e, h1⟩ := ys1 h
  subst e
  exact ⟨rfl, rfl, v, _, rfl, h1, _, _, rfl, hv, rfl⟩
theorem hA_i (vs : List V) (Hs : Hp) (h : (ysC A (ysC B ysN)).R vs Hs (a, b, ())) : vs.length = 2 ∧ (ysC A (ysC B (ysC tNon ysN))).R (vs ++ ([.non] ++ [])) Hs (a, b, (), ()) := by
  obtain ⟨v, u, e, h1, h2⟩ := ys2 h
  subst e
  exact ⟨rfl, v, _, rfl, h1, u, _, rfl, h2, _, _, rfl, rfl, rfl⟩
end
end Pg
set_option Elab.async false
set_option linter.all false
set_option maxRecDepth 100000
set_option maxHeartbeats 1000000
namespace Pg
open PySem PySem.Spec PyProof.Rows L2
/-- what stands behind the top -/
structure Tx (P : Program) (w : World) (K : PySem.W.Frag) (mg : Str → Option Value) (base : Heap) (cS cT cP cC : Addr) : Prop where
  b_len : mg "len" = none
  b_int : mg "int" = none
  b_isinstance : mg "isinstance" = none
  b_list : mg "list" = none
  b_tuple : mg "tuple" = none
  b_range : mg "range" = none
  b_enumerate : mg "enumerate" = none
  b_zip : mg "zip" = none
  b_min : mg "min" = none
  b_max : mg "max" = none
  b_sum : mg "sum" = none
  b_all : mg "all" = none
  b_sorted : mg "sorted" = none
  b_set : mg "set" = none
  b_bool : mg "bool" = none
  cf_Street : ClsF K cS ["pegs", "lanes", "to_lists", "from_lists"]
  cf_Standing : ClsF K cT ["street", "ways", "hung", "wants"]
  cf_Past : ClsF K cP ["row", "lot"]
  cf_Coming : ClsF K cC ["row", "lot"]
  ins_Street : C8.InsC K cS
  m_Street : mg "Street" = some (.ref cS)
  ins_Standing : C8.InsC K cT
  m_Standing : mg "Standing" = some (.ref cT)
  ins_Past : C8.InsC K cP
  m_Past : mg "Past" = some (.ref cP)
  shr : ShrC K cT
  d_frozen : DefOk K mg 16 "frozen" []
  d_is_number : DefOk K mg 17 "is_number" []
  d_ascending : DefOk K mg 18 "ascending" []
  d_check_pegs : DefOk K mg 28 "check_pegs" []
  d_check_lanes : DefOk K mg 29 "check_lanes" []
  m_Street_init : IniOk K mg cS 30 1 "Street" "Street.__init__" []
  m_Street_houses : PrpOk K cS 30 2 "houses" "Street.houses"
  m_Street_lends_to : MthOk K cS 30 3 "lends_to" "Street.lends_to"
  m_Street_eq : MthOk K cS 30 7 "__eq__" "Street.__eq__"
  d_is_way : DefOk K mg 31 "is_way" []
  d_checked_ways : DefOk K mg 33 "checked_ways" []
  d_hanging : DefOk K mg 34 "hanging" []
  d_check_loads : DefOk K mg 35 "check_loads" []
  m_Standing_init : IniOk K mg cT 36 0 "Standing" "Standing.__init__" [("sure", .bl false)]
  m_Standing_home : CmtOk K mg cT 36 1 "Standing" "home" "Standing.home"
  m_Standing_holder : MthOk K cT 36 3 "holder" "Standing.holder"
  m_Standing_is_full : MthOk K cT 36 10 "is_full" "Standing.is_full"
  m_Standing_can_return : MthOk K cT 36 13 "can_return" "Standing.can_return"
  m_Standing_given_back : MthOk K cT 36 14 "given_back" "Standing.given_back"
  m_Standing_lent : MthOk K cT 36 15 "lent" "Standing.lent"
  m_Standing_cut : MthOk K cT 36 16 "cut" "Standing.cut"
  m_Standing_after_lending : MthOk K cT 36 17 "after_lending" "Standing.after_lending"
  m_Standing_after_return : MthOk K cT 36 18 "after_return" "Standing.after_return"
  m_Standing_len : MthOk K cT 36 20 "__len__" "Standing.__len__"
  m_Standing_eq : MthOk K cT 36 22 "__eq__" "Standing.__eq__"
  m_Standing_rshift : MthOk K cT 36 19 "__rshift__" "Standing.__rshift__"
  d_after : DefOk K mg 20 "after" []
  d_row_step : DefOk K mg 22 "row_step" []
  d_run : DefOk K mg 23 "run" []
  d_return_deeds : DefOk K mg 24 "return_deeds" []
  d_lending_deeds : DefOk K mg 25 "lending_deeds" []
  d_mirror : DefOk K mg 26 "mirror" []
  d_home_stage : DefOk K mg 38 "home_stage" []
  d_stays_held : DefOk K mg 40 "stays_held" []
  d_held_houses : DefOk K mg 41 "held_houses" []
  d_end_loads : DefOk K mg 43 "end_loads" []
  d_checked_goal : DefOk K mg 44 "checked_goal" []
  d_settled_tools : DefOk K mg 45 "settled_tools" []
  d_inner_stops : DefOk K mg 46 "inner_stops" []
  d_house_short : DefOk K mg 47 "house_short" []
  d_lot_against : DefOk K mg 48 "lot_against" []
  d_steps_left : DefOk K mg 49 "steps_left" []
  m_Coming_init : IniOk K mg cC 51 0 "Coming" "Coming.__init__" []
  m_Coming_reached : PrpOk K cC 51 1 "reached" "Coming.reached"
  d_roomy_goal : DefOk K mg 52 "roomy_goal" []
  d_is_wise : DefOk K mg 53 "is_wise" []
  d_least_wise : DefOk K mg 54 "least_wise" []
  d_coming_row : DefOk K mg 55 "coming_row" []
  d_coming : DefOk K mg 56 "coming" []
  d_home_coming : DefOk K mg 57 "home_coming" []
  m_Past_init : IniOk K mg cP 63 0 "Past" "Past.__init__" []
  m_Past_possible : PrpOk K cP 63 1 "possible" "Past.possible"
  d_goal_of : DefOk K mg 65 "goal_of" []
  d_can_lend : DefOk K mg 66 "can_lend" []
  d_is_past : DefOk K mg 67 "is_past" [("early", .non)]
  d_past : DefOk K mg 68 "past" [("early", .non)]
  d_L_whole : DefOk K mg 70 "_law_whole" []
  d_L_cell : DefOk K mg 71 "_law_cell" []
  d_L_digits : DefOk K mg 72 "_law_digits" []
  d_L_street : DefOk K mg 73 "_law_street" []
  d_L_load : DefOk K mg 74 "_law_load" []
  d_L_way : DefOk K mg 75 "_law_way" []
  d_L_waiting : DefOk K mg 76 "_law_waiting" []
  d_L_ringed : DefOk K mg 77 "_law_ringed" []
  d_L_renamed : DefOk K mg 78 "_law_renamed" []
  d_L_town : DefOk K mg 79 "_law_town" []
  d_L_wanted : DefOk K mg 80 "_law_wanted" []
  d_L_can_back : DefOk K mg 81 "_law_can_back" []
  d_L_back : DefOk K mg 82 "_law_back" []
  d_L_can_lend : DefOk K mg 83 "_law_can_lend" []
  d_L_lend : DefOk K mg 84 "_law_lend" []
  d_L_held : DefOk K mg 85 "_law_held" []
  d_L_lot : DefOk K mg 86 "_law_lot" []
  d_L_home : DefOk K mg 87 "_law_home" []
  d_L_beside : DefOk K mg 88 "_law_beside" []
  d_L_longer : DefOk K mg 89 "_law_longer" []
  d_L_row : DefOk K mg 90 "_law_row" []
  d_L_mirror : DefOk K mg 91 "_law_mirror" []
  d_L_lendings : DefOk K mg 92 "_law_lendings" []
  d_L_are_pairs : DefOk K mg 93 "_law_are_pairs" []
  d_L_are_numbers : DefOk K mg 94 "_law_are_numbers" []
  d_L_told : DefOk K mg 95 "_law_told" []
  d_L_product : DefOk K mg 96 "_law_product" []
  d_L_stage : DefOk K mg 97 "_law_stage" []
  d_L_cut : DefOk K mg 98 "_law_cut" []
  d_L_next : DefOk K mg 99 "_law_next" []
  d_L_build : DefOk K mg 100 "_law_build" []
  d_L_lent_here : DefOk K mg 101 "_law_lent_here" []
  d_L_lent_from : DefOk K mg 102 "_law_lent_from" []
  d_law : DefOk K mg 103 "law" []
theorem fz_tI {P : Program} {w : World} {K : PySem.W.Frag} {mg : Str → Option Value} {base : Heap} {cS cT cP cC : Addr} (T : Tx P w K mg base cS cT cP cC) : Frz P w K mg base (tTup tInt) (tTup tInt) id 2 := by
  obtain ⟨f, fd, F, hm⟩ := T.d_frozen
  exact (fz_all F hm T.b_isinstance T.b_list T.b_tuple).tI
theorem fz_lI {P : Program} {w : World} {K : PySem.W.Frag} {mg : Str → Option Value} {base : Heap} {cS cT cP cC : Addr} (T : Tx P w K mg base cS cT cP cC) : Frz P w K mg base (tLst tInt) (tTup tInt) id 2 := by
  obtain ⟨f, fd, F, hm⟩ := T.d_frozen
  exact (fz_all F hm T.b_isinstance T.b_list T.b_tuple).lI
theorem fz_tTI {P : Program} {w : World} {K : PySem.W.Frag} {mg : Str → Option Value} {base : Heap} {cS cT cP cC : Addr} (T : Tx P w K mg base cS cT cP cC) : Frz P w K mg base (tTup (tTup tInt)) (tTup (tTup tInt)) id 3 := by
  obtain ⟨f, fd, F, hm⟩ := T.d_frozen
  exact (fz_all F hm T.b_isinstance T.b_list T.b_tuple).tTI
theorem fz_lTI {P : Program} {w : World} {K : PySem.W.Frag} {mg : Str → Option Value} {base : Heap} {cS cT cP cC : Addr} (T : Tx P w K mg base cS cT cP cC) : Frz P w K mg base (tLst (tTup tInt)) (tTup (tTup tInt)) id 3 := by
  obtain ⟨f, fd, F, hm⟩ := T.d_frozen
  exact (fz_all F hm T.b_isinstance T.b_list T.b_tuple).lTI
theorem fz_lLI {P : Program} {w : World} {K : PySem.W.Frag} {mg : Str → Option Value} {base : Heap} {cS cT cP cC : Addr} (T : Tx P w K mg base cS cT cP cC) : Frz P w K mg base (tLst (tLst tInt)) (tTup (tTup tInt)) id 3 := by
  obtain ⟨f, fd, F, hm⟩ := T.d_frozen
  exact (fz_all F hm T.b_isinstance T.b_list T.b_tuple).lLI
theorem fz_tP {P : Program} {w : World} {K : PySem.W.Frag} {mg : Str → Option Value} {base : Heap} {cS cT cP cC : Addr} (T : Tx P w K mg base cS cT cP cC) : Frz P w K mg base (tTup P2T) (tTup P2T) id 3 := by
  obtain ⟨f, fd, F, hm⟩ := T.d_frozen
  exact (fz_all F hm T.b_isinstance T.b_list T.b_tuple).tP
theorem fz_lP {P : Program} {w : World} {K : PySem.W.Frag} {mg : Str → Option Value} {base : Heap} {cS cT cP cC : Addr} (T : Tx P w K mg base cS cT cP cC) : Frz P w K mg base (tLst (tLstN (ysC tInt (ysC tInt ysN)))) (tTup P2T) id 3 := by
  obtain ⟨f, fd, F, hm⟩ := T.d_frozen
  exact (fz_all F hm T.b_isinstance T.b_list T.b_tuple).lP
theorem fz_d2 {P : Program} {w : World} {K : PySem.W.Frag} {mg : Str → Option Value} {base : Heap} {cS cT cP cC : Addr} (T : Tx P w K mg base cS cT cP cC) : Frz P w K mg base (tTupN (ysC tStr (ysC tInt ysN))) (tTupN (ysC tStr (ysC tInt ysN))) id 2 := by
  obtain ⟨f, fd, F, hm⟩ := T.d_frozen
  exact (fz_all F hm T.b_isinstance T.b_list T.b_tuple).d2
theorem fz_d3 {P : Program} {w : World} {K : PySem.W.Frag} {mg : Str → Option Value} {base : Heap} {cS cT cP cC : Addr} (T : Tx P w K mg base cS cT cP cC) : Frz P w K mg base (tTupN (ysC tStr (ysC tInt (ysC tInt ysN)))) (tTupN (ysC tStr (ysC tInt (ysC tInt ysN)))) id 2 := by
  obtain ⟨f, fd, F, hm⟩ := T.d_frozen
  exact (fz_all F hm T.b_isinstance T.b_list T.b_tuple).d3
theorem fz_tD3 {P : Program} {w : World} {K : PySem.W.Frag} {mg : Str → Option Value} {base : Heap} {cS cT cP cC : Addr} (T : Tx P w K mg base cS cT cP cC) : Frz P w K mg base (tTup (tTupN (ysC tStr (ysC tInt (ysC tInt ysN))))) (tTup (tTupN (ysC tStr (ysC tInt (ysC tInt ysN))))) id 3 := by
  obtain ⟨f, fd, F, hm⟩ := T.d_frozen
  exact (fz_all F hm T.b_isinstance T.b_list T.b_tuple).tD3
end Pg
set_option Elab.async false
set_option linter.all false
set_option maxRecDepth 100000
set_option maxHeartbeats 0
namespace Pg
open PySem PySem.W PyProof.Rows He
/-! ### the head: facts by names -/
def eqT (o : Option (Option Value)) (v : Value) : Bool := match o with
  | some (some u) => decide (u = v)
  | _ => false
def insB (K : Frag) (C : Addr) : Bool := eqO (findIn K (.ref C) "__class__") (some (some (.builtin "object.__class__"))) && (eqO (specialIn K (.builtin "object.__class__") "__get__") (some (some (.builtin "getset_descriptor.__get__"))) && (decide (takesIn K (.builtin "object.__class__") = some true) &&
  (decide (mroIn K C (.type "object") = some true) && decide (kitOne K (.ref C) (.ref C) = some true))))
theorem insB_ok {K : Frag} {C : Addr} (c : L2.Cls K C) (h : insB K C = true) : C8.InsC K C := by
  obtain ⟨h1, h⟩ := ba h
  obtain ⟨h2, h⟩ := ba h
  obtain ⟨h3, h⟩ := ba h
  obtain ⟨h4, h5⟩ := ba h
  exact ⟨c, eqO_ok h1, eqO_ok h2, of_decide_eq_true h3, of_decide_eq_true h4, of_decide_eq_true h5⟩
def shrB (K : Frag) (C : Addr) : Bool := selfFirst K C && (eqO (findIn K (.ref C) "__rrshift__") (some none) && (eqO (findIn K (.type "tuple") "__rshift__") (some none) && (eqO (findIn K (.type "tuple") "__rrshift__") (some none) && decide (subIn K (.type "tuple") (.ref C) = some false))))
theorem shrB_ok {K : Frag} {C : Addr} (h : shrB K C = true) : ShrC K C := by
  obtain ⟨h1, h⟩ := ba h
  obtain ⟨h2, h⟩ := ba h
  obtain ⟨h3, h⟩ := ba h
  obtain ⟨h4, h5⟩ := ba h
  exact ⟨h1, eqO_ok h2, eqO_ok h3, eqO_ok h4, of_decide_eq_true h5⟩
def headB (o : Option (List Value)) : Bool := match o with
  | some (.ref _ :: _) => true
  | _ => false
def propB (K : Frag) (C : Addr) (m : PySem.Str) : Bool := eqO (findIn K (.ref C) m) (some (some (.ref (ma K C m)))) && (eqO (specialIn K (.ref (ma K C m)) "__get__") (some (some (.builtin "property.__get__"))) && (decide (takesIn K (.ref (ma K C m)) = some true) && headB (recIn K (ma K C m) "property")))
theorem propB_ok {K : Frag} {C : Addr} {m : PySem.Str} (h : propB K C m = true) : L2.PropOf K C m (ma K C m) (He5.wf K C "property" m) := by
  obtain ⟨h1, h⟩ := ba h
  obtain ⟨h2, h⟩ := ba h
  obtain ⟨h3, h4⟩ := ba h
  refine ⟨eqO_ok h1, eqO_ok h2, of_decide_eq_true h3, ?_⟩
  unfold He5.wf
  unfold headB at h4
  split at h4
  · rename_i f r e
    exact ⟨r, by rw [e]⟩
  · cases h4
def cmB (K : Frag) (C : Addr) (m : PySem.Str) : Bool := readsIn K C (.type "type") && (eqO (specialIn K (.ref C) "__getattribute__") (some (some (.builtin "type.__getattribute__"))) && (He5.wrapB K C "classmethod" "classmethod.__get__" m && fnIn K (He5.wf K C "classmethod" m)))
theorem cmB_ok {K : Frag} {C : Addr} {m : PySem.Str} (h : cmB K C m = true) : ClX.CRead K C (.type "type") ∧ ClX.CMet K C (.type "type") m (ma K C m) (He5.wf K C "classmethod" m) := by
  obtain ⟨h1, h⟩ := ba h
  obtain ⟨h2, h⟩ := ba h
  obtain ⟨h3, h4⟩ := ba h
  exact ⟨⟨h1, eqO_ok h2⟩, He5.cmet_of h3 h4⟩
def fa0 : List Fa := [.free "len", .free "int", .free "isinstance", .free "list", .free "tuple", .free "range", .free "enumerate", .free "zip", .free "min", .free "max", .free "sum", .free "all", .free "sorted", .free "set", .free "bool"]
def fa1 : List Fa := [.cls "Street", .noat "Street" "pegs", .noat "Street" "lanes", .noat "Street" "to_lists", .noat "Street" "from_lists", .cls "Standing", .noat "Standing" "street", .noat "Standing" "ways", .noat "Standing" "hung", .noat "Standing" "wants", .cls "Past", .noat "Past" "row", .noat "Past" "lot", .cls "Coming", .noat "Coming" "row"]
def fa2 : List Fa := [.noat "Coming" "lot", .glo "Street", .glo "Standing", .glo "Past", .glo "frozen", .glo "is_number", .glo "ascending", .glo "check_pegs", .glo "check_lanes", .mkr "Street", .meth "Street" "lends_to", .meth "Street" "__eq__", .glo "is_way", .glo "checked_ways", .glo "hanging"]
def fa3 : List Fa := [.glo "check_loads", .mkr "Standing", .meth "Standing" "holder", .meth "Standing" "is_full", .meth "Standing" "can_return", .meth "Standing" "given_back", .meth "Standing" "lent", .meth "Standing" "cut", .meth "Standing" "after_lending", .meth "Standing" "after_return", .meth "Standing" "__len__", .meth "Standing" "__eq__", .meth "Standing" "__rshift__", .glo "after", .glo "row_step"]
def fa4 : List Fa := [.glo "run", .glo "return_deeds", .glo "lending_deeds", .glo "mirror", .glo "home_stage", .glo "stays_held", .glo "held_houses", .glo "end_loads", .glo "checked_goal", .glo "settled_tools", .glo "inner_stops", .glo "house_short", .glo "lot_against", .glo "steps_left", .mkr "Coming"]
def fa5 : List Fa := [.glo "Coming", .glo "roomy_goal", .glo "is_wise", .glo "least_wise", .glo "coming_row", .glo "coming", .glo "home_coming", .mkr "Past", .glo "goal_of", .glo "can_lend", .glo "is_past", .glo "past", .glo "_law_whole", .glo "_law_cell", .glo "_law_digits"]
def fa6 : List Fa := [.glo "_law_street", .glo "_law_load", .glo "_law_way", .glo "_law_waiting", .glo "_law_ringed", .glo "_law_renamed", .glo "_law_town", .glo "_law_wanted", .glo "_law_can_back", .glo "_law_back", .glo "_law_can_lend", .glo "_law_lend", .glo "_law_held", .glo "_law_lot", .glo "_law_home"]
def fa7 : List Fa := [.glo "_law_beside", .glo "_law_longer", .glo "_law_row", .glo "_law_mirror", .glo "_law_lendings", .glo "_law_are_pairs", .glo "_law_are_numbers", .glo "_law_told", .glo "_law_product", .glo "_law_stage", .glo "_law_cut", .glo "_law_next", .glo "_law_build", .glo "_law_lent_here", .glo "_law_lent_from"]
def fa8 : List Fa := [.glo "law"]
def fa : List Fa := (fa0 ++ (fa1 ++ (fa2 ++ (fa3 ++ (fa4 ++ (fa5 ++ (fa6 ++ (fa7 ++ fa8))))))))
def fn0 : List He5.DefA := [⟨fun K => He.ga K "frozen", "frozen", "frozen", L2.defArgs (top 16), L2.defBody (top 16), L2.defScope (top 16), [], []⟩, ⟨fun K => He.ga K "is_number", "is_number", "is_number", L2.defArgs (top 17), L2.defBody (top 17), L2.defScope (top 17), [], []⟩, ⟨fun K => He.ga K "ascending", "ascending", "ascending", L2.defArgs (top 18), L2.defBody (top 18), L2.defScope (top 18), [], []⟩, ⟨fun K => He.ga K "check_pegs", "check_pegs", "check_pegs", L2.defArgs (top 28), L2.defBody (top 28), L2.defScope (top 28), [], []⟩, ⟨fun K => He.ga K "check_lanes", "check_lanes", "check_lanes", L2.defArgs (top 29), L2.defBody (top 29), L2.defScope (top 29), [], []⟩, ⟨fun K => He.ma K (He.ga K "Street") "__init__", "__init__", "Street.__init__", L2.defArgs (mth 30 1), L2.defBody (mth 30 1), L2.defScope (mth 30 1), [], []⟩, ⟨fun K => He5.wf K (He.ga K "Street") "property" "houses", "houses", "Street.houses", L2.defArgs (mth 30 2), L2.defBody (mth 30 2), L2.defScope (mth 30 2), [], []⟩, ⟨fun K => He.ma K (He.ga K "Street") "lends_to", "lends_to", "Street.lends_to", L2.defArgs (mth 30 3), L2.defBody (mth 30 3), L2.defScope (mth 30 3), [], []⟩, ⟨fun K => He.ma K (He.ga K "Street") "__eq__", "__eq__", "Street.__eq__", L2.defArgs (mth 30 7), L2.defBody (mth 30 7), L2.defScope (mth 30 7), [], []⟩, ⟨fun K => He.ga K "is_way", "is_way", "is_way", L2.defArgs (top 31), L2.defBody (top 31), L2.defScope (top 31), [], []⟩, ⟨fun K => He.ga K "checked_ways", "checked_ways", "checked_ways", L2.defArgs (top 33), L2.defBody (top 33), L2.defScope (top 33), [], []⟩, ⟨fun K => He.ga K "hanging", "hanging", "hanging", L2.defArgs (top 34), L2.defBody (top 34), L2.defScope (top 34), [], []⟩, ⟨fun K => He.ga K "check_loads", "check_loads", "check_loads", L2.defArgs (top 35), L2.defBody (top 35), L2.defScope (top 35), [], []⟩, ⟨fun K => He.ma K (He.ga K "Standing") "__init__", "__init__", "Standing.__init__", L2.defArgs (mth 36 0), L2.defBody (mth 36 0), L2.defScope (mth 36 0), [], [("sure", .bl false)]⟩, ⟨fun K => He5.wf K (He.ga K "Standing") "classmethod" "home", "home", "Standing.home", L2.defArgs (mth 36 1), L2.defBody (mth 36 1), L2.defScope (mth 36 1), [], []⟩]
def fn1 : List He5.DefA := [⟨fun K => He.ma K (He.ga K "Standing") "holder", "holder", "Standing.holder", L2.defArgs (mth 36 3), L2.defBody (mth 36 3), L2.defScope (mth 36 3), [], []⟩, ⟨fun K => He.ma K (He.ga K "Standing") "is_full", "is_full", "Standing.is_full", L2.defArgs (mth 36 10), L2.defBody (mth 36 10), L2.defScope (mth 36 10), [], []⟩, ⟨fun K => He.ma K (He.ga K "Standing") "can_return", "can_return", "Standing.can_return", L2.defArgs (mth 36 13), L2.defBody (mth 36 13), L2.defScope (mth 36 13), [], []⟩, ⟨fun K => He.ma K (He.ga K "Standing") "given_back", "given_back", "Standing.given_back", L2.defArgs (mth 36 14), L2.defBody (mth 36 14), L2.defScope (mth 36 14), [], []⟩, ⟨fun K => He.ma K (He.ga K "Standing") "lent", "lent", "Standing.lent", L2.defArgs (mth 36 15), L2.defBody (mth 36 15), L2.defScope (mth 36 15), [], []⟩, ⟨fun K => He.ma K (He.ga K "Standing") "cut", "cut", "Standing.cut", L2.defArgs (mth 36 16), L2.defBody (mth 36 16), L2.defScope (mth 36 16), [], []⟩, ⟨fun K => He.ma K (He.ga K "Standing") "after_lending", "after_lending", "Standing.after_lending", L2.defArgs (mth 36 17), L2.defBody (mth 36 17), L2.defScope (mth 36 17), [], []⟩, ⟨fun K => He.ma K (He.ga K "Standing") "after_return", "after_return", "Standing.after_return", L2.defArgs (mth 36 18), L2.defBody (mth 36 18), L2.defScope (mth 36 18), [], []⟩, ⟨fun K => He.ma K (He.ga K "Standing") "__len__", "__len__", "Standing.__len__", L2.defArgs (mth 36 20), L2.defBody (mth 36 20), L2.defScope (mth 36 20), [], []⟩, ⟨fun K => He.ma K (He.ga K "Standing") "__eq__", "__eq__", "Standing.__eq__", L2.defArgs (mth 36 22), L2.defBody (mth 36 22), L2.defScope (mth 36 22), [], []⟩, ⟨fun K => He.ma K (He.ga K "Standing") "__rshift__", "__rshift__", "Standing.__rshift__", L2.defArgs (mth 36 19), L2.defBody (mth 36 19), L2.defScope (mth 36 19), [], []⟩, ⟨fun K => He.ga K "after", "after", "after", L2.defArgs (top 20), L2.defBody (top 20), L2.defScope (top 20), [], []⟩, ⟨fun K => He.ga K "row_step", "row_step", "row_step", L2.defArgs (top 22), L2.defBody (top 22), L2.defScope (top 22), [], []⟩, ⟨fun K => He.ga K "run", "run", "run", L2.defArgs (top 23), L2.defBody (top 23), L2.defScope (top 23), [], []⟩, ⟨fun K => He.ga K "return_deeds", "return_deeds", "return_deeds", L2.defArgs (top 24), L2.defBody (top 24), L2.defScope (top 24), [], []⟩]
def fn2 : List He5.DefA := [⟨fun K => He.ga K "lending_deeds", "lending_deeds", "lending_deeds", L2.defArgs (top 25), L2.defBody (top 25), L2.defScope (top 25), [], []⟩, ⟨fun K => He.ga K "mirror", "mirror", "mirror", L2.defArgs (top 26), L2.defBody (top 26), L2.defScope (top 26), [], []⟩, ⟨fun K => He.ga K "home_stage", "home_stage", "home_stage", L2.defArgs (top 38), L2.defBody (top 38), L2.defScope (top 38), [], []⟩, ⟨fun K => He.ga K "stays_held", "stays_held", "stays_held", L2.defArgs (top 40), L2.defBody (top 40), L2.defScope (top 40), [], []⟩, ⟨fun K => He.ga K "held_houses", "held_houses", "held_houses", L2.defArgs (top 41), L2.defBody (top 41), L2.defScope (top 41), [], []⟩, ⟨fun K => He.ga K "end_loads", "end_loads", "end_loads", L2.defArgs (top 43), L2.defBody (top 43), L2.defScope (top 43), [], []⟩, ⟨fun K => He.ga K "checked_goal", "checked_goal", "checked_goal", L2.defArgs (top 44), L2.defBody (top 44), L2.defScope (top 44), [], []⟩, ⟨fun K => He.ga K "settled_tools", "settled_tools", "settled_tools", L2.defArgs (top 45), L2.defBody (top 45), L2.defScope (top 45), [], []⟩, ⟨fun K => He.ga K "inner_stops", "inner_stops", "inner_stops", L2.defArgs (top 46), L2.defBody (top 46), L2.defScope (top 46), [], []⟩, ⟨fun K => He.ga K "house_short", "house_short", "house_short", L2.defArgs (top 47), L2.defBody (top 47), L2.defScope (top 47), [], []⟩, ⟨fun K => He.ga K "lot_against", "lot_against", "lot_against", L2.defArgs (top 48), L2.defBody (top 48), L2.defScope (top 48), [], []⟩, ⟨fun K => He.ga K "steps_left", "steps_left", "steps_left", L2.defArgs (top 49), L2.defBody (top 49), L2.defScope (top 49), [], []⟩, ⟨fun K => He.ma K (He.ga K "Coming") "__init__", "__init__", "Coming.__init__", L2.defArgs (mth 51 0), L2.defBody (mth 51 0), L2.defScope (mth 51 0), [], []⟩, ⟨fun K => He5.wf K (He.ga K "Coming") "property" "reached", "reached", "Coming.reached", L2.defArgs (mth 51 1), L2.defBody (mth 51 1), L2.defScope (mth 51 1), [], []⟩, ⟨fun K => He.ga K "roomy_goal", "roomy_goal", "roomy_goal", L2.defArgs (top 52), L2.defBody (top 52), L2.defScope (top 52), [], []⟩]
def fn3 : List He5.DefA := [⟨fun K => He.ga K "is_wise", "is_wise", "is_wise", L2.defArgs (top 53), L2.defBody (top 53), L2.defScope (top 53), [], []⟩, ⟨fun K => He.ga K "least_wise", "least_wise", "least_wise", L2.defArgs (top 54), L2.defBody (top 54), L2.defScope (top 54), [], []⟩, ⟨fun K => He.ga K "coming_row", "coming_row", "coming_row", L2.defArgs (top 55), L2.defBody (top 55), L2.defScope (top 55), [], []⟩, ⟨fun K => He.ga K "coming", "coming", "coming", L2.defArgs (top 56), L2.defBody (top 56), L2.defScope (top 56), [], []⟩, ⟨fun K => He.ga K "home_coming", "home_coming", "home_coming", L2.defArgs (top 57), L2.defBody (top 57), L2.defScope (top 57), [], []⟩, ⟨fun K => He.ma K (He.ga K "Past") "__init__", "__init__", "Past.__init__", L2.defArgs (mth 63 0), L2.defBody (mth 63 0), L2.defScope (mth 63 0), [], []⟩, ⟨fun K => He5.wf K (He.ga K "Past") "property" "possible", "possible", "Past.possible", L2.defArgs (mth 63 1), L2.defBody (mth 63 1), L2.defScope (mth 63 1), [], []⟩, ⟨fun K => He.ga K "goal_of", "goal_of", "goal_of", L2.defArgs (top 65), L2.defBody (top 65), L2.defScope (top 65), [], []⟩, ⟨fun K => He.ga K "can_lend", "can_lend", "can_lend", L2.defArgs (top 66), L2.defBody (top 66), L2.defScope (top 66), [], []⟩, ⟨fun K => He.ga K "is_past", "is_past", "is_past", L2.defArgs (top 67), L2.defBody (top 67), L2.defScope (top 67), [], [("early", .non)]⟩, ⟨fun K => He.ga K "past", "past", "past", L2.defArgs (top 68), L2.defBody (top 68), L2.defScope (top 68), [], [("early", .non)]⟩, ⟨fun K => He.ga K "_law_whole", "_law_whole", "_law_whole", L2.defArgs (top 70), L2.defBody (top 70), L2.defScope (top 70), [], []⟩, ⟨fun K => He.ga K "_law_cell", "_law_cell", "_law_cell", L2.defArgs (top 71), L2.defBody (top 71), L2.defScope (top 71), [], []⟩, ⟨fun K => He.ga K "_law_digits", "_law_digits", "_law_digits", L2.defArgs (top 72), L2.defBody (top 72), L2.defScope (top 72), [], []⟩, ⟨fun K => He.ga K "_law_street", "_law_street", "_law_street", L2.defArgs (top 73), L2.defBody (top 73), L2.defScope (top 73), [], []⟩]
def fn4 : List He5.DefA := [⟨fun K => He.ga K "_law_load", "_law_load", "_law_load", L2.defArgs (top 74), L2.defBody (top 74), L2.defScope (top 74), [], []⟩, ⟨fun K => He.ga K "_law_way", "_law_way", "_law_way", L2.defArgs (top 75), L2.defBody (top 75), L2.defScope (top 75), [], []⟩, ⟨fun K => He.ga K "_law_waiting", "_law_waiting", "_law_waiting", L2.defArgs (top 76), L2.defBody (top 76), L2.defScope (top 76), [], []⟩, ⟨fun K => He.ga K "_law_ringed", "_law_ringed", "_law_ringed", L2.defArgs (top 77), L2.defBody (top 77), L2.defScope (top 77), [], []⟩, ⟨fun K => He.ga K "_law_renamed", "_law_renamed", "_law_renamed", L2.defArgs (top 78), L2.defBody (top 78), L2.defScope (top 78), [], []⟩, ⟨fun K => He.ga K "_law_town", "_law_town", "_law_town", L2.defArgs (top 79), L2.defBody (top 79), L2.defScope (top 79), [], []⟩, ⟨fun K => He.ga K "_law_wanted", "_law_wanted", "_law_wanted", L2.defArgs (top 80), L2.defBody (top 80), L2.defScope (top 80), [], []⟩, ⟨fun K => He.ga K "_law_can_back", "_law_can_back", "_law_can_back", L2.defArgs (top 81), L2.defBody (top 81), L2.defScope (top 81), [], []⟩, ⟨fun K => He.ga K "_law_back", "_law_back", "_law_back", L2.defArgs (top 82), L2.defBody (top 82), L2.defScope (top 82), [], []⟩, ⟨fun K => He.ga K "_law_can_lend", "_law_can_lend", "_law_can_lend", L2.defArgs (top 83), L2.defBody (top 83), L2.defScope (top 83), [], []⟩, ⟨fun K => He.ga K "_law_lend", "_law_lend", "_law_lend", L2.defArgs (top 84), L2.defBody (top 84), L2.defScope (top 84), [], []⟩, ⟨fun K => He.ga K "_law_held", "_law_held", "_law_held", L2.defArgs (top 85), L2.defBody (top 85), L2.defScope (top 85), [], []⟩, ⟨fun K => He.ga K "_law_lot", "_law_lot", "_law_lot", L2.defArgs (top 86), L2.defBody (top 86), L2.defScope (top 86), [], []⟩, ⟨fun K => He.ga K "_law_home", "_law_home", "_law_home", L2.defArgs (top 87), L2.defBody (top 87), L2.defScope (top 87), [], []⟩, ⟨fun K => He.ga K "_law_beside", "_law_beside", "_law_beside", L2.defArgs (top 88), L2.defBody (top 88), L2.defScope (top 88), [], []⟩]
def fn5 : List He5.DefA := [⟨fun K => He.ga K "_law_longer", "_law_longer", "_law_longer", L2.defArgs (top 89), L2.defBody (top 89), L2.defScope (top 89), [], []⟩, ⟨fun K => He.ga K "_law_row", "_law_row", "_law_row", L2.defArgs (top 90), L2.defBody (top 90), L2.defScope (top 90), [], []⟩, ⟨fun K => He.ga K "_law_mirror", "_law_mirror", "_law_mirror", L2.defArgs (top 91), L2.defBody (top 91), L2.defScope (top 91), [], []⟩, ⟨fun K => He.ga K "_law_lendings", "_law_lendings", "_law_lendings", L2.defArgs (top 92), L2.defBody (top 92), L2.defScope (top 92), [], []⟩, ⟨fun K => He.ga K "_law_are_pairs", "_law_are_pairs", "_law_are_pairs", L2.defArgs (top 93), L2.defBody (top 93), L2.defScope (top 93), [], []⟩, ⟨fun K => He.ga K "_law_are_numbers", "_law_are_numbers", "_law_are_numbers", L2.defArgs (top 94), L2.defBody (top 94), L2.defScope (top 94), [], []⟩, ⟨fun K => He.ga K "_law_told", "_law_told", "_law_told", L2.defArgs (top 95), L2.defBody (top 95), L2.defScope (top 95), [], []⟩, ⟨fun K => He.ga K "_law_product", "_law_product", "_law_product", L2.defArgs (top 96), L2.defBody (top 96), L2.defScope (top 96), [], []⟩, ⟨fun K => He.ga K "_law_stage", "_law_stage", "_law_stage", L2.defArgs (top 97), L2.defBody (top 97), L2.defScope (top 97), [], []⟩, ⟨fun K => He.ga K "_law_cut", "_law_cut", "_law_cut", L2.defArgs (top 98), L2.defBody (top 98), L2.defScope (top 98), [], []⟩, ⟨fun K => He.ga K "_law_next", "_law_next", "_law_next", L2.defArgs (top 99), L2.defBody (top 99), L2.defScope (top 99), [], []⟩, ⟨fun K => He.ga K "_law_build", "_law_build", "_law_build", L2.defArgs (top 100), L2.defBody (top 100), L2.defScope (top 100), [], []⟩, ⟨fun K => He.ga K "_law_lent_here", "_law_lent_here", "_law_lent_here", L2.defArgs (top 101), L2.defBody (top 101), L2.defScope (top 101), [], []⟩, ⟨fun K => He.ga K "_law_lent_from", "_law_lent_from", "_law_lent_from", L2.defArgs (top 102), L2.defBody (top 102), L2.defScope (top 102), [], []⟩, ⟨fun K => He.ga K "law", "law", "law", L2.defArgs (top 103), L2.defBody (top 103), L2.defScope (top 103), [], []⟩]
def fn : List He5.DefA := (fn0 ++ (fn1 ++ (fn2 ++ (fn3 ++ (fn4 ++ fn5)))))
def d0 : He5.DefA := ⟨fun _ => 0, "", "", L2.defArgs (top 0), [], L2.defScope (top 0), [], []⟩
def exL : List (Frag → Bool) := [
  fun K => insB K (He.ga K "Street"),
  fun K => insB K (He.ga K "Standing"),
  fun K => insB K (He.ga K "Past"),
  fun K => shrB K (He.ga K "Standing"),
  fun K => propB K (He.ga K "Street") "houses",
  fun K => cmB K (He.ga K "Standing") "home",
  fun K => propB K (He.ga K "Coming") "reached",
  fun K => propB K (He.ga K "Past") "possible"]
theorem ex_at {K : Frag} (x : exL.all (fun p => p K) = true) (i : Nat) {p : Frag → Bool} (h : exL[i]? = some p) : p K = true := List.all_eq_true.mp x p (List.mem_of_getElem? h)
abbrev R : OpenRow := OpenLaw.row PySem.Challenge.rw_pegstreet_k29_made_by_lendings_whole
abbrev qv : Program := view R.prog [103]
def lnames0 : List PySem.Str := ["_wall", "StreetError", "BadPegs", "BadLane", "BadWay", "TooMany", "UnknownTool", "NoLane", "NoPeg", "AtHome", "RowRefused", "BadGoal", "NarrowStreet", "NotEarlier", "frozen", "is_number", "ascending", "after", "row_step", "run"]
def lnames1 : List PySem.Str := ["return_deeds", "lending_deeds", "mirror", "check_pegs", "check_lanes", "Street", "is_way", "checked_ways", "hanging", "check_loads", "Standing", "home_stage", "stays_held", "held_houses", "end_loads", "checked_goal", "settled_tools", "inner_stops", "house_short", "lot_against"]
def lnames2 : List PySem.Str := ["steps_left", "Coming", "roomy_goal", "is_wise", "least_wise", "coming_row", "coming", "home_coming", "are_alike", "first_unlike", "is_earlier", "Past", "first_grown_apart", "goal_of", "can_lend", "is_past", "past", "_law_whole", "_law_cell", "_law_digits"]
def lnames3 : List PySem.Str := ["_law_street", "_law_load", "_law_way", "_law_waiting", "_law_ringed", "_law_renamed", "_law_town", "_law_wanted", "_law_can_back", "_law_back", "_law_can_lend", "_law_lend", "_law_held", "_law_lot", "_law_home", "_law_beside", "_law_longer", "_law_row", "_law_mirror", "_law_lendings"]
def lnames4 : List PySem.Str := ["_law_are_pairs", "_law_are_numbers", "_law_told", "_law_product", "_law_stage", "_law_cut", "_law_next", "_law_build", "_law_lent_here", "_law_lent_from"]
def lnames : List PySem.Str := (lnames0 ++ (lnames1 ++ (lnames2 ++ (lnames3 ++ lnames4))))
abbrev AlP : Type := AlD × Bool
def nxtF (g : Addr → Option Obj) (a : Addr) : List Addr := match g a with
  | some o => (match o.data with
    | .func fd => refV fd.code ++ refV fd.kwdefaults
    | _ => [])
  | none => []
def nxtC (g : Addr → Option Obj) (a : Addr) : List Addr := match g a with
  | some o => (match o.data with
    | .cls cd => [cd.ns]
    | _ => [])
  | none => []
def nxtD (g : Addr → Option Obj) (a : Addr) : List Addr := match g a with
  | some o => (match o.data with
    | .dict es _ => es.toList.flatMap fun e => refV e.val
    | _ => [])
  | none => []
def nxtX (g : Addr → Option Obj) (a : Addr) : List Addr := match g a with
  | some o => (match o.data with
    | .fields vs => vs.toList.flatMap refV
    | _ => [])
  | none => []
/-- the names' values, the classes' names' values, the properties' defs, and the code of all these -/
def lstP (g : Addr → Option Obj) (a0 n c x : List Addr) : List Addr := mainGlobals :: cStatics :: (a0 ++ (n ++ (c ++ (x ++ (a0.flatMap (nxtF g) ++ (c.flatMap (nxtF g) ++ x.flatMap (nxtF g)))))))
def asP (g : Addr → Option Obj) : List Addr :=
  let a0 := nxtD g mainGlobals
  let n := a0.flatMap (nxtC g)
  let c := n.flatMap (nxtD g)
  lstP g a0 n c (c.flatMap (nxtX g))
def obsP (g : Addr → Option Obj) : AlP := (He5.obsA fa fn (frG g (asP g)), exL.all fun p => p (frG g (asP g)))
def valP : AlP := (He5.valA fn, true)
def SaysP (h : Heap) : Prop := ∃ K : Frag, K.In h ∧ He5.SaysA fa fn K ∧ exL.all (fun p => p K) = true
def hookP : Hook where
  α := AlP
  obs := fun s => obsP s.heap.get?
  val := fun _ => valP
  says := fun _ h => SaysP h
  of := fun _ s e => ⟨frG s.heap.get? (asP s.heap.get?), frG_in, congrArg Prod.fst e, congrArg Prod.snd e⟩
  keeps := fun _ _ _ ⟨K, hK, c, x⟩ k => ⟨K, Frag.In.keeps hK k, c, x⟩
def ob (s : SharedT) : AlP := obsP (HandSHeadRun.getT s)
theorem ob_eq (s : SharedT) : ob s = hookP.obs s.abs := by
  have e : HandSHeadRun.getT s = s.abs.heap.get? := funext (HandSHeadRun.getT_eq s)
  show obsP (HandSHeadRun.getT s) = obsP s.abs.heap.get?
  rw [e]
section
variable {S A B C D : Type} {m : Option S}
theorem hd_map {f : S → A} {g : S → B} {h : S → C} {a : A} {b : B} {c : C} (e : m.map (fun s => (f s, g s, h s)) = some (a, b, c)) {k : S → D} {d : D} (e2 : m.map k = some d) : m.map (fun s => (f s, g s, k s)) = some (a, b, d) := by
  cases m with
  | none => cases e
  | some s =>
    cases e
    cases e2
    rfl
/-- what is seen, part by part: the run is gone through once for each, so that less is held at a time -/
theorem hd_obs {k : S → Frag} {fa : List Fa} {fn : List He5.DefA} {ex : List (Frag → Bool)} {f : S → A} {g : S → B} {a : A} {b : B} (e : m.map (fun s => (f s, g s, ex.all fun p => p (k s))) = some (a, b, true))
    (e1 : m.map (fun s => (fa.all fun x => x.ok (k s), fn.map fun d => He5.fnA (k s) (d.at_ (k s)))) = some (true, fn.map He5.DefA.val)) (e2 : m.map (fun s => fn.all fun d => d.ok (k s)) = some true) :
    m.map (fun s => (He5.obsA fa fn (k s), ex.all fun p => p (k s))) = some (He5.valA fn, true) := by
  cases m with
  | none => cases e
  | some s =>
    have q1 := Option.some.inj e
    have q2 := Option.some.inj e1
    have q3 := Option.some.inj e2
    have q4 := congrArg (fun z => z.2.2) q1
    have q5 := congrArg Prod.fst q2
    have q6 := congrArg Prod.snd q2
    dsimp only at q3 q4 q5 q6
    rw [Option.map_some]
    unfold He5.obsA He5.valA
    rw [q3, q4, q5, q6]
    rfl
end
def hdFr (s : SharedT) : Frag := frG (HandSHeadRun.getT s) (asP (HandSHeadRun.getT s))
theorem head_1 (w : World) (os : OsState) : (HandSHeadRun.endF (HandSHeadRun.stepQ (HandSHeadRun.denQ HandSHeadRun.tabQ) R.prog w) 30000 R.prog w os).map (fun s => (HandSHeadRun.looksF R.prog (boot_heap w.params) s.abs, HandSHeadRun.seenQ qv lnames (importedModules R.prog.main.body) (fun s => xlAt qv [] s && recOk R.toRowW.records s) s.abs, exL.all fun p => p (hdFr s))) = some (true, openGood qv lnames, true) := by
  kernel_rfl
theorem head_2 (w : World) (os : OsState) : (HandSHeadRun.endF (HandSHeadRun.stepQ (HandSHeadRun.denQ HandSHeadRun.tabQ) R.prog w) 30000 R.prog w os).map (fun s => (fa.all fun x => x.ok (hdFr s), fn.map fun d => He5.fnA (hdFr s) (d.at_ (hdFr s)))) = some (true, fn.map He5.DefA.val) := by
  kernel_rfl
theorem head_3 (w : World) (os : OsState) : (HandSHeadRun.endF (HandSHeadRun.stepQ (HandSHeadRun.denQ HandSHeadRun.tabQ) R.prog w) 30000 R.prog w os).map (fun s => fn.all fun d => d.ok (hdFr s)) = some true := by
  kernel_rfl
theorem head_run (w : World) : HandSHeadRun.RunEq R qv hookP ob 30000 lnames w := fun os =>
  hd_map (head_1 w os) (hd_obs (head_1 w os) (head_2 w os) (head_3 w os))
theorem tx_of {P : Program} {w : World} {K : Frag} {h : Heap} {mg : PySem.Str → Option Value} {base : Heap} (X : K.In h) (G : h.Ns mainGlobals mg) (c : He5.SaysA fa fn K) (x : exL.all (fun p => p K) = true) :
    Tx P w K mg base (ga K "Street") (ga K "Standing") (ga K "Past") (ga K "Coming") where
  b_len := He.free_ok X G (c.fact 0 (f := .free "len") rfl)
  b_int := He.free_ok X G (c.fact 1 (f := .free "int") rfl)
  b_isinstance := He.free_ok X G (c.fact 2 (f := .free "isinstance") rfl)
  b_list := He.free_ok X G (c.fact 3 (f := .free "list") rfl)
  b_tuple := He.free_ok X G (c.fact 4 (f := .free "tuple") rfl)
  b_range := He.free_ok X G (c.fact 5 (f := .free "range") rfl)
  b_enumerate := He.free_ok X G (c.fact 6 (f := .free "enumerate") rfl)
  b_zip := He.free_ok X G (c.fact 7 (f := .free "zip") rfl)
  b_min := He.free_ok X G (c.fact 8 (f := .free "min") rfl)
  b_max := He.free_ok X G (c.fact 9 (f := .free "max") rfl)
  b_sum := He.free_ok X G (c.fact 10 (f := .free "sum") rfl)
  b_all := He.free_ok X G (c.fact 11 (f := .free "all") rfl)
  b_sorted := He.free_ok X G (c.fact 12 (f := .free "sorted") rfl)
  b_set := He.free_ok X G (c.fact 13 (f := .free "set") rfl)
  b_bool := He.free_ok X G (c.fact 14 (f := .free "bool") rfl)
  cf_Street := ⟨He.cls_ok (c.fact 15 (f := .cls "Street") rfl), fun f hf => by
    simp only [List.contains_cons, List.contains_nil, Bool.or_false, Bool.or_eq_true, beq_iff_eq] at hf
    rcases hf with h | h | h | h
    · subst h; exact He.noat_ok (c.fact 16 (f := .noat "Street" "pegs") rfl)
    · subst h; exact He.noat_ok (c.fact 17 (f := .noat "Street" "lanes") rfl)
    · subst h; exact He.noat_ok (c.fact 18 (f := .noat "Street" "to_lists") rfl)
    · subst h; exact He.noat_ok (c.fact 19 (f := .noat "Street" "from_lists") rfl)⟩
  cf_Standing := ⟨He.cls_ok (c.fact 20 (f := .cls "Standing") rfl), fun f hf => by
    simp only [List.contains_cons, List.contains_nil, Bool.or_false, Bool.or_eq_true, beq_iff_eq] at hf
    rcases hf with h | h | h | h
    · subst h; exact He.noat_ok (c.fact 21 (f := .noat "Standing" "street") rfl)
    · subst h; exact He.noat_ok (c.fact 22 (f := .noat "Standing" "ways") rfl)
    · subst h; exact He.noat_ok (c.fact 23 (f := .noat "Standing" "hung") rfl)
    · subst h; exact He.noat_ok (c.fact 24 (f := .noat "Standing" "wants") rfl)⟩
  cf_Past := ⟨He.cls_ok (c.fact 25 (f := .cls "Past") rfl), fun f hf => by
    simp only [List.contains_cons, List.contains_nil, Bool.or_false, Bool.or_eq_true, beq_iff_eq] at hf
    rcases hf with h | h
    · subst h; exact He.noat_ok (c.fact 26 (f := .noat "Past" "row") rfl)
    · subst h; exact He.noat_ok (c.fact 27 (f := .noat "Past" "lot") rfl)⟩
  cf_Coming := ⟨He.cls_ok (c.fact 28 (f := .cls "Coming") rfl), fun f hf => by
    simp only [List.contains_cons, List.contains_nil, Bool.or_false, Bool.or_eq_true, beq_iff_eq] at hf
    rcases hf with h | h
    · subst h; exact He.noat_ok (c.fact 29 (f := .noat "Coming" "row") rfl)
    · subst h; exact He.noat_ok (c.fact 30 (f := .noat "Coming" "lot") rfl)⟩
  ins_Street := insB_ok (He.cls_ok (c.fact 15 (f := .cls "Street") rfl)) (ex_at x 0 (by rfl))
  m_Street := He.glo_ok X G (c.fact 31 (f := .glo "Street") rfl)
  ins_Standing := insB_ok (He.cls_ok (c.fact 20 (f := .cls "Standing") rfl)) (ex_at x 1 (by rfl))
  m_Standing := He.glo_ok X G (c.fact 32 (f := .glo "Standing") rfl)
  ins_Past := insB_ok (He.cls_ok (c.fact 25 (f := .cls "Past") rfl)) (ex_at x 2 (by rfl))
  m_Past := He.glo_ok X G (c.fact 33 (f := .glo "Past") rfl)
  shr := shrB_ok (ex_at x 3 (by rfl))
  d_frozen := (by
    obtain ⟨fd, F⟩ := c.def_ 0 (d := fn.getD 0 d0) rfl
    exact ⟨_, fd, F, He.glo_ok X G (c.fact 34 (f := .glo "frozen") rfl)⟩)
  d_is_number := (by
    obtain ⟨fd, F⟩ := c.def_ 1 (d := fn.getD 1 d0) rfl
    exact ⟨_, fd, F, He.glo_ok X G (c.fact 35 (f := .glo "is_number") rfl)⟩)
  d_ascending := (by
    obtain ⟨fd, F⟩ := c.def_ 2 (d := fn.getD 2 d0) rfl
    exact ⟨_, fd, F, He.glo_ok X G (c.fact 36 (f := .glo "ascending") rfl)⟩)
  d_check_pegs := (by
    obtain ⟨fd, F⟩ := c.def_ 3 (d := fn.getD 3 d0) rfl
    exact ⟨_, fd, F, He.glo_ok X G (c.fact 37 (f := .glo "check_pegs") rfl)⟩)
  d_check_lanes := (by
    obtain ⟨fd, F⟩ := c.def_ 4 (d := fn.getD 4 d0) rfl
    exact ⟨_, fd, F, He.glo_ok X G (c.fact 38 (f := .glo "check_lanes") rfl)⟩)
  m_Street_init := (by
    obtain ⟨fd, F⟩ := c.def_ 5 (d := fn.getD 5 d0) rfl
    exact ⟨_, fd, F, He.mkr_ok (c.fact 39 (f := .mkr "Street") rfl), He.glo_ok X G (c.fact 31 (f := .glo "Street") rfl)⟩)
  m_Street_houses := (by
    obtain ⟨fd, F⟩ := c.def_ 6 (d := fn.getD 6 d0) rfl
    exact ⟨_, _, fd, F, propB_ok (ex_at x 4 (by rfl))⟩)
  m_Street_lends_to := (by
    obtain ⟨fd, F⟩ := c.def_ 7 (d := fn.getD 7 d0) rfl
    exact ⟨_, fd, F, He.meth_ok (c.fact 40 (f := .meth "Street" "lends_to") rfl)⟩)
  m_Street_eq := (by
    obtain ⟨fd, F⟩ := c.def_ 8 (d := fn.getD 8 d0) rfl
    exact ⟨_, fd, F, He.meth_ok (c.fact 41 (f := .meth "Street" "__eq__") rfl)⟩)
  d_is_way := (by
    obtain ⟨fd, F⟩ := c.def_ 9 (d := fn.getD 9 d0) rfl
    exact ⟨_, fd, F, He.glo_ok X G (c.fact 42 (f := .glo "is_way") rfl)⟩)
  d_checked_ways := (by
    obtain ⟨fd, F⟩ := c.def_ 10 (d := fn.getD 10 d0) rfl
    exact ⟨_, fd, F, He.glo_ok X G (c.fact 43 (f := .glo "checked_ways") rfl)⟩)
  d_hanging := (by
    obtain ⟨fd, F⟩ := c.def_ 11 (d := fn.getD 11 d0) rfl
    exact ⟨_, fd, F, He.glo_ok X G (c.fact 44 (f := .glo "hanging") rfl)⟩)
  d_check_loads := (by
    obtain ⟨fd, F⟩ := c.def_ 12 (d := fn.getD 12 d0) rfl
    exact ⟨_, fd, F, He.glo_ok X G (c.fact 45 (f := .glo "check_loads") rfl)⟩)
  m_Standing_init := (by
    obtain ⟨fd, F⟩ := c.def_ 13 (d := fn.getD 13 d0) rfl
    exact ⟨_, fd, F, He.mkr_ok (c.fact 46 (f := .mkr "Standing") rfl), He.glo_ok X G (c.fact 32 (f := .glo "Standing") rfl)⟩)
  m_Standing_home := (by
    obtain ⟨fd, F⟩ := c.def_ 14 (d := fn.getD 14 d0) rfl
    obtain ⟨h1, h2⟩ := cmB_ok (ex_at x 5 (by rfl))
    exact ⟨_, _, _, fd, F, h1, h2, He.glo_ok X G (c.fact 32 (f := .glo "Standing") rfl)⟩)
  m_Standing_holder := (by
    obtain ⟨fd, F⟩ := c.def_ 15 (d := fn.getD 15 d0) rfl
    exact ⟨_, fd, F, He.meth_ok (c.fact 47 (f := .meth "Standing" "holder") rfl)⟩)
  m_Standing_is_full := (by
    obtain ⟨fd, F⟩ := c.def_ 16 (d := fn.getD 16 d0) rfl
    exact ⟨_, fd, F, He.meth_ok (c.fact 48 (f := .meth "Standing" "is_full") rfl)⟩)
  m_Standing_can_return := (by
    obtain ⟨fd, F⟩ := c.def_ 17 (d := fn.getD 17 d0) rfl
    exact ⟨_, fd, F, He.meth_ok (c.fact 49 (f := .meth "Standing" "can_return") rfl)⟩)
  m_Standing_given_back := (by
    obtain ⟨fd, F⟩ := c.def_ 18 (d := fn.getD 18 d0) rfl
    exact ⟨_, fd, F, He.meth_ok (c.fact 50 (f := .meth "Standing" "given_back") rfl)⟩)
  m_Standing_lent := (by
    obtain ⟨fd, F⟩ := c.def_ 19 (d := fn.getD 19 d0) rfl
    exact ⟨_, fd, F, He.meth_ok (c.fact 51 (f := .meth "Standing" "lent") rfl)⟩)
  m_Standing_cut := (by
    obtain ⟨fd, F⟩ := c.def_ 20 (d := fn.getD 20 d0) rfl
    exact ⟨_, fd, F, He.meth_ok (c.fact 52 (f := .meth "Standing" "cut") rfl)⟩)
  m_Standing_after_lending := (by
    obtain ⟨fd, F⟩ := c.def_ 21 (d := fn.getD 21 d0) rfl
    exact ⟨_, fd, F, He.meth_ok (c.fact 53 (f := .meth "Standing" "after_lending") rfl)⟩)
  m_Standing_after_return := (by
    obtain ⟨fd, F⟩ := c.def_ 22 (d := fn.getD 22 d0) rfl
    exact ⟨_, fd, F, He.meth_ok (c.fact 54 (f := .meth "Standing" "after_return") rfl)⟩)
  m_Standing_len := (by
    obtain ⟨fd, F⟩ := c.def_ 23 (d := fn.getD 23 d0) rfl
    exact ⟨_, fd, F, He.meth_ok (c.fact 55 (f := .meth "Standing" "__len__") rfl)⟩)
  m_Standing_eq := (by
    obtain ⟨fd, F⟩ := c.def_ 24 (d := fn.getD 24 d0) rfl
    exact ⟨_, fd, F, He.meth_ok (c.fact 56 (f := .meth "Standing" "__eq__") rfl)⟩)
  m_Standing_rshift := (by
    obtain ⟨fd, F⟩ := c.def_ 25 (d := fn.getD 25 d0) rfl
    exact ⟨_, fd, F, He.meth_ok (c.fact 57 (f := .meth "Standing" "__rshift__") rfl)⟩)
  d_after := (by
    obtain ⟨fd, F⟩ := c.def_ 26 (d := fn.getD 26 d0) rfl
    exact ⟨_, fd, F, He.glo_ok X G (c.fact 58 (f := .glo "after") rfl)⟩)
  d_row_step := (by
    obtain ⟨fd, F⟩ := c.def_ 27 (d := fn.getD 27 d0) rfl
    exact ⟨_, fd, F, He.glo_ok X G (c.fact 59 (f := .glo "row_step") rfl)⟩)
  d_run := (by
    obtain ⟨fd, F⟩ := c.def_ 28 (d := fn.getD 28 d0) rfl
    exact ⟨_, fd, F, He.glo_ok X G (c.fact 60 (f := .glo "run") rfl)⟩)
  d_return_deeds := (by
    obtain ⟨fd, F⟩ := c.def_ 29 (d := fn.getD 29 d0) rfl
    exact ⟨_, fd, F, He.glo_ok X G (c.fact 61 (f := .glo "return_deeds") rfl)⟩)
  d_lending_deeds := (by
    obtain ⟨fd, F⟩ := c.def_ 30 (d := fn.getD 30 d0) rfl
    exact ⟨_, fd, F, He.glo_ok X G (c.fact 62 (f := .glo "lending_deeds") rfl)⟩)
  d_mirror := (by
    obtain ⟨fd, F⟩ := c.def_ 31 (d := fn.getD 31 d0) rfl
    exact ⟨_, fd, F, He.glo_ok X G (c.fact 63 (f := .glo "mirror") rfl)⟩)
  d_home_stage := (by
    obtain ⟨fd, F⟩ := c.def_ 32 (d := fn.getD 32 d0) rfl
    exact ⟨_, fd, F, He.glo_ok X G (c.fact 64 (f := .glo "home_stage") rfl)⟩)
  d_stays_held := (by
    obtain ⟨fd, F⟩ := c.def_ 33 (d := fn.getD 33 d0) rfl
    exact ⟨_, fd, F, He.glo_ok X G (c.fact 65 (f := .glo "stays_held") rfl)⟩)
  d_held_houses := (by
    obtain ⟨fd, F⟩ := c.def_ 34 (d := fn.getD 34 d0) rfl
    exact ⟨_, fd, F, He.glo_ok X G (c.fact 66 (f := .glo "held_houses") rfl)⟩)
  d_end_loads := (by
    obtain ⟨fd, F⟩ := c.def_ 35 (d := fn.getD 35 d0) rfl
    exact ⟨_, fd, F, He.glo_ok X G (c.fact 67 (f := .glo "end_loads") rfl)⟩)
  d_checked_goal := (by
    obtain ⟨fd, F⟩ := c.def_ 36 (d := fn.getD 36 d0) rfl
    exact ⟨_, fd, F, He.glo_ok X G (c.fact 68 (f := .glo "checked_goal") rfl)⟩)
  d_settled_tools := (by
    obtain ⟨fd, F⟩ := c.def_ 37 (d := fn.getD 37 d0) rfl
    exact ⟨_, fd, F, He.glo_ok X G (c.fact 69 (f := .glo "settled_tools") rfl)⟩)
  d_inner_stops := (by
    obtain ⟨fd, F⟩ := c.def_ 38 (d := fn.getD 38 d0) rfl
    exact ⟨_, fd, F, He.glo_ok X G (c.fact 70 (f := .glo "inner_stops") rfl)⟩)
  d_house_short := (by
    obtain ⟨fd, F⟩ := c.def_ 39 (d := fn.getD 39 d0) rfl
    exact ⟨_, fd, F, He.glo_ok X G (c.fact 71 (f := .glo "house_short") rfl)⟩)
  d_lot_against := (by
    obtain ⟨fd, F⟩ := c.def_ 40 (d := fn.getD 40 d0) rfl
    exact ⟨_, fd, F, He.glo_ok X G (c.fact 72 (f := .glo "lot_against") rfl)⟩)
  d_steps_left := (by
    obtain ⟨fd, F⟩ := c.def_ 41 (d := fn.getD 41 d0) rfl
    exact ⟨_, fd, F, He.glo_ok X G (c.fact 73 (f := .glo "steps_left") rfl)⟩)
  m_Coming_init := (by
    obtain ⟨fd, F⟩ := c.def_ 42 (d := fn.getD 42 d0) rfl
    exact ⟨_, fd, F, He.mkr_ok (c.fact 74 (f := .mkr "Coming") rfl), He.glo_ok X G (c.fact 75 (f := .glo "Coming") rfl)⟩)
  m_Coming_reached := (by
    obtain ⟨fd, F⟩ := c.def_ 43 (d := fn.getD 43 d0) rfl
    exact ⟨_, _, fd, F, propB_ok (ex_at x 6 (by rfl))⟩)
  d_roomy_goal := (by
    obtain ⟨fd, F⟩ := c.def_ 44 (d := fn.getD 44 d0) rfl
    exact ⟨_, fd, F, He.glo_ok X G (c.fact 76 (f := .glo "roomy_goal") rfl)⟩)
  d_is_wise := (by
    obtain ⟨fd, F⟩ := c.def_ 45 (d := fn.getD 45 d0) rfl
    exact ⟨_, fd, F, He.glo_ok X G (c.fact 77 (f := .glo "is_wise") rfl)⟩)
  d_least_wise := (by
    obtain ⟨fd, F⟩ := c.def_ 46 (d := fn.getD 46 d0) rfl
    exact ⟨_, fd, F, He.glo_ok X G (c.fact 78 (f := .glo "least_wise") rfl)⟩)
  d_coming_row := (by
    obtain ⟨fd, F⟩ := c.def_ 47 (d := fn.getD 47 d0) rfl
    exact ⟨_, fd, F, He.glo_ok X G (c.fact 79 (f := .glo "coming_row") rfl)⟩)
  d_coming := (by
    obtain ⟨fd, F⟩ := c.def_ 48 (d := fn.getD 48 d0) rfl
    exact ⟨_, fd, F, He.glo_ok X G (c.fact 80 (f := .glo "coming") rfl)⟩)
  d_home_coming := (by
    obtain ⟨fd, F⟩ := c.def_ 49 (d := fn.getD 49 d0) rfl
    exact ⟨_, fd, F, He.glo_ok X G (c.fact 81 (f := .glo "home_coming") rfl)⟩)
  m_Past_init := (by
    obtain ⟨fd, F⟩ := c.def_ 50 (d := fn.getD 50 d0) rfl
    exact ⟨_, fd, F, He.mkr_ok (c.fact 82 (f := .mkr "Past") rfl), He.glo_ok X G (c.fact 33 (f := .glo "Past") rfl)⟩)
  m_Past_possible := (by
    obtain ⟨fd, F⟩ := c.def_ 51 (d := fn.getD 51 d0) rfl
    exact ⟨_, _, fd, F, propB_ok (ex_at x 7 (by rfl))⟩)
  d_goal_of := (by
    obtain ⟨fd, F⟩ := c.def_ 52 (d := fn.getD 52 d0) rfl
    exact ⟨_, fd, F, He.glo_ok X G (c.fact 83 (f := .glo "goal_of") rfl)⟩)
  d_can_lend := (by
    obtain ⟨fd, F⟩ := c.def_ 53 (d := fn.getD 53 d0) rfl
    exact ⟨_, fd, F, He.glo_ok X G (c.fact 84 (f := .glo "can_lend") rfl)⟩)
  d_is_past := (by
    obtain ⟨fd, F⟩ := c.def_ 54 (d := fn.getD 54 d0) rfl
    exact ⟨_, fd, F, He.glo_ok X G (c.fact 85 (f := .glo "is_past") rfl)⟩)
  d_past := (by
    obtain ⟨fd, F⟩ := c.def_ 55 (d := fn.getD 55 d0) rfl
    exact ⟨_, fd, F, He.glo_ok X G (c.fact 86 (f := .glo "past") rfl)⟩)
  d_L_whole := (by
    obtain ⟨fd, F⟩ := c.def_ 56 (d := fn.getD 56 d0) rfl
    exact ⟨_, fd, F, He.glo_ok X G (c.fact 87 (f := .glo "_law_whole") rfl)⟩)
  d_L_cell := (by
    obtain ⟨fd, F⟩ := c.def_ 57 (d := fn.getD 57 d0) rfl
    exact ⟨_, fd, F, He.glo_ok X G (c.fact 88 (f := .glo "_law_cell") rfl)⟩)
  d_L_digits := (by
    obtain ⟨fd, F⟩ := c.def_ 58 (d := fn.getD 58 d0) rfl
    exact ⟨_, fd, F, He.glo_ok X G (c.fact 89 (f := .glo "_law_digits") rfl)⟩)
  d_L_street := (by
    obtain ⟨fd, F⟩ := c.def_ 59 (d := fn.getD 59 d0) rfl
    exact ⟨_, fd, F, He.glo_ok X G (c.fact 90 (f := .glo "_law_street") rfl)⟩)
  d_L_load := (by
    obtain ⟨fd, F⟩ := c.def_ 60 (d := fn.getD 60 d0) rfl
    exact ⟨_, fd, F, He.glo_ok X G (c.fact 91 (f := .glo "_law_load") rfl)⟩)
  d_L_way := (by
    obtain ⟨fd, F⟩ := c.def_ 61 (d := fn.getD 61 d0) rfl
    exact ⟨_, fd, F, He.glo_ok X G (c.fact 92 (f := .glo "_law_way") rfl)⟩)
  d_L_waiting := (by
    obtain ⟨fd, F⟩ := c.def_ 62 (d := fn.getD 62 d0) rfl
    exact ⟨_, fd, F, He.glo_ok X G (c.fact 93 (f := .glo "_law_waiting") rfl)⟩)
  d_L_ringed := (by
    obtain ⟨fd, F⟩ := c.def_ 63 (d := fn.getD 63 d0) rfl
    exact ⟨_, fd, F, He.glo_ok X G (c.fact 94 (f := .glo "_law_ringed") rfl)⟩)
  d_L_renamed := (by
    obtain ⟨fd, F⟩ := c.def_ 64 (d := fn.getD 64 d0) rfl
    exact ⟨_, fd, F, He.glo_ok X G (c.fact 95 (f := .glo "_law_renamed") rfl)⟩)
  d_L_town := (by
    obtain ⟨fd, F⟩ := c.def_ 65 (d := fn.getD 65 d0) rfl
    exact ⟨_, fd, F, He.glo_ok X G (c.fact 96 (f := .glo "_law_town") rfl)⟩)
  d_L_wanted := (by
    obtain ⟨fd, F⟩ := c.def_ 66 (d := fn.getD 66 d0) rfl
    exact ⟨_, fd, F, He.glo_ok X G (c.fact 97 (f := .glo "_law_wanted") rfl)⟩)
  d_L_can_back := (by
    obtain ⟨fd, F⟩ := c.def_ 67 (d := fn.getD 67 d0) rfl
    exact ⟨_, fd, F, He.glo_ok X G (c.fact 98 (f := .glo "_law_can_back") rfl)⟩)
  d_L_back := (by
    obtain ⟨fd, F⟩ := c.def_ 68 (d := fn.getD 68 d0) rfl
    exact ⟨_, fd, F, He.glo_ok X G (c.fact 99 (f := .glo "_law_back") rfl)⟩)
  d_L_can_lend := (by
    obtain ⟨fd, F⟩ := c.def_ 69 (d := fn.getD 69 d0) rfl
    exact ⟨_, fd, F, He.glo_ok X G (c.fact 100 (f := .glo "_law_can_lend") rfl)⟩)
  d_L_lend := (by
    obtain ⟨fd, F⟩ := c.def_ 70 (d := fn.getD 70 d0) rfl
    exact ⟨_, fd, F, He.glo_ok X G (c.fact 101 (f := .glo "_law_lend") rfl)⟩)
  d_L_held := (by
    obtain ⟨fd, F⟩ := c.def_ 71 (d := fn.getD 71 d0) rfl
    exact ⟨_, fd, F, He.glo_ok X G (c.fact 102 (f := .glo "_law_held") rfl)⟩)
  d_L_lot := (by
    obtain ⟨fd, F⟩ := c.def_ 72 (d := fn.getD 72 d0) rfl
    exact ⟨_, fd, F, He.glo_ok X G (c.fact 103 (f := .glo "_law_lot") rfl)⟩)
  d_L_home := (by
    obtain ⟨fd, F⟩ := c.def_ 73 (d := fn.getD 73 d0) rfl
    exact ⟨_, fd, F, He.glo_ok X G (c.fact 104 (f := .glo "_law_home") rfl)⟩)
  d_L_beside := (by
    obtain ⟨fd, F⟩ := c.def_ 74 (d := fn.getD 74 d0) rfl
    exact ⟨_, fd, F, He.glo_ok X G (c.fact 105 (f := .glo "_law_beside") rfl)⟩)
  d_L_longer := (by
    obtain ⟨fd, F⟩ := c.def_ 75 (d := fn.getD 75 d0) rfl
    exact ⟨_, fd, F, He.glo_ok X G (c.fact 106 (f := .glo "_law_longer") rfl)⟩)
  d_L_row := (by
    obtain ⟨fd, F⟩ := c.def_ 76 (d := fn.getD 76 d0) rfl
    exact ⟨_, fd, F, He.glo_ok X G (c.fact 107 (f := .glo "_law_row") rfl)⟩)
  d_L_mirror := (by
    obtain ⟨fd, F⟩ := c.def_ 77 (d := fn.getD 77 d0) rfl
    exact ⟨_, fd, F, He.glo_ok X G (c.fact 108 (f := .glo "_law_mirror") rfl)⟩)
  d_L_lendings := (by
    obtain ⟨fd, F⟩ := c.def_ 78 (d := fn.getD 78 d0) rfl
    exact ⟨_, fd, F, He.glo_ok X G (c.fact 109 (f := .glo "_law_lendings") rfl)⟩)
  d_L_are_pairs := (by
    obtain ⟨fd, F⟩ := c.def_ 79 (d := fn.getD 79 d0) rfl
    exact ⟨_, fd, F, He.glo_ok X G (c.fact 110 (f := .glo "_law_are_pairs") rfl)⟩)
  d_L_are_numbers := (by
    obtain ⟨fd, F⟩ := c.def_ 80 (d := fn.getD 80 d0) rfl
    exact ⟨_, fd, F, He.glo_ok X G (c.fact 111 (f := .glo "_law_are_numbers") rfl)⟩)
  d_L_told := (by
    obtain ⟨fd, F⟩ := c.def_ 81 (d := fn.getD 81 d0) rfl
    exact ⟨_, fd, F, He.glo_ok X G (c.fact 112 (f := .glo "_law_told") rfl)⟩)
  d_L_product := (by
    obtain ⟨fd, F⟩ := c.def_ 82 (d := fn.getD 82 d0) rfl
    exact ⟨_, fd, F, He.glo_ok X G (c.fact 113 (f := .glo "_law_product") rfl)⟩)
  d_L_stage := (by
    obtain ⟨fd, F⟩ := c.def_ 83 (d := fn.getD 83 d0) rfl
    exact ⟨_, fd, F, He.glo_ok X G (c.fact 114 (f := .glo "_law_stage") rfl)⟩)
  d_L_cut := (by
    obtain ⟨fd, F⟩ := c.def_ 84 (d := fn.getD 84 d0) rfl
    exact ⟨_, fd, F, He.glo_ok X G (c.fact 115 (f := .glo "_law_cut") rfl)⟩)
  d_L_next := (by
    obtain ⟨fd, F⟩ := c.def_ 85 (d := fn.getD 85 d0) rfl
    exact ⟨_, fd, F, He.glo_ok X G (c.fact 116 (f := .glo "_law_next") rfl)⟩)
  d_L_build := (by
    obtain ⟨fd, F⟩ := c.def_ 86 (d := fn.getD 86 d0) rfl
    exact ⟨_, fd, F, He.glo_ok X G (c.fact 117 (f := .glo "_law_build") rfl)⟩)
  d_L_lent_here := (by
    obtain ⟨fd, F⟩ := c.def_ 87 (d := fn.getD 87 d0) rfl
    exact ⟨_, fd, F, He.glo_ok X G (c.fact 118 (f := .glo "_law_lent_here") rfl)⟩)
  d_L_lent_from := (by
    obtain ⟨fd, F⟩ := c.def_ 88 (d := fn.getD 88 d0) rfl
    exact ⟨_, fd, F, He.glo_ok X G (c.fact 119 (f := .glo "_law_lent_from") rfl)⟩)
  d_law := (by
    obtain ⟨fd, F⟩ := c.def_ 89 (d := fn.getD 89 d0) rfl
    exact ⟨_, fd, F, He.glo_ok X G (c.fact 120 (f := .glo "law") rfl)⟩)
end Pg
set_option Elab.async false
set_option linter.all false
set_option maxRecDepth 100000
set_option maxHeartbeats 1000000
namespace Pg
open PySem PySem.Spec PyProof.Rows L2
abbrev s_is_number : Stmt := top 17
theorem sc_is_number : FnScope ["value"] ["value"] (defScope s_is_number) := ⟨rfl, rfl, rfl, by decide +kernel, rfl, by decide +kernel, by decide +kernel⟩
def m_is_number (p0 : Int) : Option (Out Unit Unit Bool) := some (.ret (true && (!false)))
def f_is_number (p0 : Int) : Option Bool := retO (m_is_number p0)
theorem has_is_number {P : Program} {w : World} {K : PySem.W.Frag} {mg : Str → Option Value} {base : Heap} {cS cT cP cC : Addr} (T : Tx P w K mg base cS cT cP cC) : Has P w K mg base "is_number" 1 (SpF (ysC tInt ysN) tBool fun d => f_is_number d.1) := by
  obtain ⟨f, fd, F, hm⟩ := T.d_is_number
  exact has_def (A := (ysC tInt ysN)) (R := tBool) (k := 0) (Gn := fun _ : Unit => ⟨[], mu0⟩) (Gb := fun _ : Unit => ⟨[], mu0⟩) F hm sc_is_number (prm_cons prm_nil) rfl (F.bindsN fun _ _ _ _ _ _ us hl => match us, hl with | [_], _ => rfl)
    (m := fun d => m_is_number d.1) (fun cdv Ar outer s H E ⟨p0, ()⟩ hr => (xs_ret (x_eq (x_and (x_isiTy (tn := "int") (b := true) T.b_isinstance (x_var (d := p0) 0) (pe_bltn (v := .ty "int") (u := .type "int") rfl T.b_int (by decide +kernel) rfl) (fun v H h => tyx_int v H h) (by decide +kernel)) (fun _ => (x_one (x_not (x_isiTy (tn := "int") (b := false) T.b_isinstance (x_var (d := p0) 0) (pe_bltn (v := .ty "bool") (u := .type "bool") rfl T.b_bool (by decide +kernel) rfl) (fun v H h => tyx_int v H h) (by decide +kernel)))))) and_p)))
abbrev s_ascending : Stmt := top 18
theorem sc_ascending : FnScope ["values"] ["values"] (defScope s_ascending) := ⟨rfl, rfl, rfl, by decide +kernel, rfl, by decide +kernel, by decide +kernel⟩
def m_ascending (p0 : (List (Int × Int × Unit))) : Option (Out Unit Unit (List (Int × Int × Unit))) := ((ascO p0).bind fun d1 => some (.ret d1))
def f_ascending (p0 : (List (Int × Int × Unit))) : Option (List (Int × Int × Unit)) := retO (m_ascending p0)
theorem has_ascending {P : Program} {w : World} {K : PySem.W.Frag} {mg : Str → Option Value} {base : Heap} {cS cT cP cC : Addr} (T : Tx P w K mg base cS cT cP cC) : Has P w K mg base "ascending" 1 (SpF (ysC (tTup P2T) ysN) (tTup P2T) fun d => f_ascending d.1) := by
  obtain ⟨f, fd, F, hm⟩ := T.d_ascending
  exact has_def (A := (ysC (tTup P2T) ysN)) (R := (tTup P2T)) (k := 0) (Gn := fun _ : Unit => ⟨[], mu0⟩) (Gb := fun _ : Unit => ⟨[], mu0⟩) F hm sc_ascending (prm_cons prm_nil) rfl (F.bindsN fun _ _ _ _ _ _ us hl => match us, hl with | [_], _ => rfl)
    (m := fun d => m_ascending d.1) (fun cdv Ar outer s H E ⟨p0, ()⟩ hr => (xs_let fun d1 h2 => (xs_ret (x_tuple T.b_tuple (x_asc T.b_sorted T.b_set hr.units (x_var (d := p0) 0) h2)))))
abbrev s_check_pegs : Stmt := top 28
theorem sc_check_pegs : FnScope ["pegs", "house", "number"] ["pegs"] (defScope s_check_pegs) := ⟨rfl, rfl, rfl, by decide +kernel, rfl, by decide +kernel, by decide +kernel⟩
def m_check_pegs (p0 : (List Int)) : Option (Out Unit Unit Unit) := (thenO (forO (fun (x2 : (Int × Int × Unit)) (s1 : Unit) => ((f_is_number x2.2.1).bind fun d3 => (if ((!d3) || ((decide (x2.2.1 < (1 : Int))) || (decide ((9 : Int) < x2.2.1)))) = true then none else some (.nx ())))) (enumL p0) ()) fun s1 : Unit => some (.nx ()))
def f_check_pegs (p0 : (List Int)) : Option Unit := endO (m_check_pegs p0)
theorem has_check_pegs {P : Program} {w : World} {K : PySem.W.Frag} {mg : Str → Option Value} {base : Heap} {cS cT cP cC : Addr} (T : Tx P w K mg base cS cT cP cC) : Has P w K mg base "check_pegs" 2 (SpF (ysC (tTup tInt) ysN) tNon fun d => f_check_pegs d.1) := by
  obtain ⟨f, fd, F, hm⟩ := T.d_check_pegs
  exact has_end (A := (ysC (tTup tInt) ysN)) (R := tNon) (k := 1) (Gn := fun _ : Unit => ⟨[.non, .non, .non], mu0⟩) (Gb := fun _ : Unit => ⟨[], mu0⟩) F hm sc_check_pegs (prm_cons prm_nil) rfl (F.bindsN fun _ _ _ _ _ _ us hl => match us, hl with | [_], _ => rfl)
    (m := fun d => m_check_pegs d.1) (fun cdv Ar outer s H E ⟨p0, ()⟩ hr => (xs_seq (G1 := (fun s1 : Unit => (⟨[.val (tTup tInt) p0, .non, .non], mu0⟩ : Cn))) (xs_for (Gl := (fun s1 : Unit => (⟨[.val (tTup tInt) p0, .non, .non], mu0⟩ : Cn))) () (xi_enumT T.b_enumerate (x_var (d := p0) 0)) (xg_tup (xgs_cons (xg_name 1 sc_check_pegs.nd) (xgs_cons (xg_name 2 sc_check_pegs.nd) xgs_nil))) (wk_of (.same (.non (.non .nil)))) (fun _ => rfl) (fun x2 s1 => (xs_let fun d3 h4 => (xs_ifx (XW.t (xw_eqm (xw_or (xt_not (xt_val (x_got h4 (x_eq (x_call (has_is_number T) (hr.mono (by decide)) (xa_cons (x_var (d := x2.2.1) 2) xa_nil)) rfl)))) (fun _ => (xw_eqm (xw_or (xt_lt (x_var (d := x2.2.1) 2) x_int) (fun _ => (xw_or1 (xt_gt (x_var (d := x2.2.1) 2) x_int)))) or_p))) or_p)) (fun g5 => xs_fail) (fun g5 => (xs_nil () (wk_of (.same (.non (.non .nil)))))))))) (fun s1 => (xs_nil () (wk_of (.non (.non (.non .nil))))))))
abbrev s_check_lanes : Stmt := top 29
theorem sc_check_lanes : FnScope ["houses", "lanes", "index", "a", "b"] ["houses", "lanes"] (defScope s_check_lanes) := ⟨rfl, rfl, rfl, by decide +kernel, rfl, by decide +kernel, by decide +kernel⟩
def m_check_lanes (p0 : Int) (p1 : (List (Int × Int × Unit))) : Option (Out Unit Unit Unit) := (thenO (forO (fun (x2 : (Int × (Int × Int × Unit) × Unit)) (s1 : Unit) => (if ((decide (x2.2.1.1 = x2.2.1.2.1)) || ((decide ((if x2.2.1.2.1 < x2.2.1.1 then x2.2.1.2.1 else x2.2.1.1) < (0 : Int))) || (decide (p0 ≤ (if x2.2.1.2.1 > x2.2.1.1 then x2.2.1.2.1 else x2.2.1.1))))) = true then none else some (.nx ()))) (enumL p1) ()) fun s1 : Unit => some (.nx ()))
def f_check_lanes (p0 : Int) (p1 : (List (Int × Int × Unit))) : Option Unit := endO (m_check_lanes p0 p1)
theorem has_check_lanes {P : Program} {w : World} {K : PySem.W.Frag} {mg : Str → Option Value} {base : Heap} {cS cT cP cC : Addr} (T : Tx P w K mg base cS cT cP cC) : Has P w K mg base "check_lanes" 1 (SpF (ysC tInt (ysC (tTup P2T) ysN)) tNon fun d => f_check_lanes d.1 d.2.1) := by
  obtain ⟨f, fd, F, hm⟩ := T.d_check_lanes
  exact has_end (A := (ysC tInt (ysC (tTup P2T) ysN))) (R := tNon) (k := 0) (Gn := fun _ : Unit => ⟨[.non, .non, .non, .non, .non], mu0⟩) (Gb := fun _ : Unit => ⟨[], mu0⟩) F hm sc_check_lanes (prm_cons (prm_cons prm_nil)) rfl (F.bindsN fun _ _ _ _ _ _ us hl => match us, hl with | [_, _], _ => rfl)
    (m := fun d => m_check_lanes d.1 d.2.1) (fun cdv Ar outer s H E ⟨p0, p1, ()⟩ hr => (xs_seq (G1 := (fun s1 : Unit => (⟨[.val tInt p0, .val (tTup P2T) p1, .non, .non, .non], mu0⟩ : Cn))) (xs_for (Gl := (fun s1 : Unit => (⟨[.val tInt p0, .val (tTup P2T) p1, .non, .non, .non], mu0⟩ : Cn))) () (xi_enumT T.b_enumerate (x_var (d := p1) 1)) (xg_tup (xgs_cons (xg_name 2 sc_check_lanes.nd) (xgs_cons (xg_tup (xgs_cons (xg_name 3 sc_check_lanes.nd) (xgs_cons (xg_name 4 sc_check_lanes.nd) xgs_nil))) xgs_nil))) (wk_of (.same (.same (.non (.non (.non .nil)))))) (fun _ => rfl) (fun x2 s1 => (xs_ifx (XW.t (xw_eqm (xw_or (xt_eqm (xt_eqs es_int (x_var (d := x2.2.1.1) 3) (x_var (d := x2.2.1.2.1) 4)) rfl) (fun _ => (xw_eqm (xw_or (xt_lt (x_min2 T.b_min (x_var (d := x2.2.1.1) 3) (x_var (d := x2.2.1.2.1) 4)) x_int) (fun _ => (xw_or1 (xt_ge (x_max2 T.b_max (x_var (d := x2.2.1.1) 3) (x_var (d := x2.2.1.2.1) 4)) (x_var (d := p0) 0))))) or_p))) or_p)) (fun g3 => xs_fail) (fun g3 => (xs_nil () (wk_of (.same (.same (.non (.non (.non .nil))))))))))) (fun s1 => (xs_nil () (wk_of (.non (.non (.non (.non (.non .nil))))))))))
abbrev s_Street_init : Stmt := mth 30 1
theorem sc_Street_init : FnScope ["self", "pegs", "lanes", "pairs", "houses", "a", "b", "house"] ["self", "pegs", "lanes"] (defScope s_Street_init) := ⟨rfl, rfl, rfl, by decide +kernel, rfl, by decide +kernel, by decide +kernel⟩
def m_Street_init_t (p0 : (List Int)) (p1 : (List (Int × Int × Unit))) : Option (Out StreetD Unit Unit) := ((f_check_pegs p0).bind fun d1 => ((f_check_lanes (p0.length : Int) p1).bind fun d3 => ((f_ascending p1).bind fun d5 => ((rngO 0 (p0.length : Int)).bind fun d7 => ((rngO 0 (p0.length : Int)).bind fun d11 => some (.nx (⟨p0, d5, (d7.map fun (x9 : Int) => ((d5.filter fun (x10 : (Int × Int × Unit)) => (decide (x10.1 = x9))).map fun (x10 : (Int × Int × Unit)) => x10.2.1)), (d11.map fun (x13 : Int) => ((d5.filter fun (x14 : (Int × Int × Unit)) => (decide (x14.2.1 = x13))).map fun (x14 : (Int × Int × Unit)) => x14.1))⟩ : StreetD)))))))
def f_Street_init_t (p0 : (List Int)) (p1 : (List (Int × Int × Unit))) : Option StreetD := endG id (m_Street_init_t p0 p1)
theorem fn_Street_init_t {P : Program} {w : World} {K : PySem.W.Frag} {mg : Str → Option Value} {base : Heap} {cS cT cP cC : Addr} (T : Tx P w K mg base cS cT cP cC) : ∃ f fd, FunD K "__init__" "Street.__init__" (defArgs s_Street_init) (defBody s_Street_init) (defScope s_Street_init) [] [] f fd ∧ Mk K cS f ∧ mg "Street" = some (.ref cS) ∧ FnOk P w K mg base CX0 4 f fd ["self", "pegs", "lanes"] (SpI cS flStreet (ysC (tTup tInt) (ysC (tTup P2T) ysN)) fun d => f_Street_init_t d.1 d.2.1) := by
  obtain ⟨f, fd, F, hM, hm⟩ := T.m_Street_init
  refine ⟨f, fd, F, hM, hm, ?_⟩
  exact fn_init (A := (ysC (tTup tInt) (ysC (tTup P2T) ysN))) (k := 3) (Tr := tNon) (Gn := fun a0 s0 => ⟨[.non, .non, .non, .non, .non, .non, .non, .non], muO 0 cS a0 (flStreet s0)⟩) (Gb := fun _ : Unit => ⟨[], mu0⟩) (m := fun d => m_Street_init_t d.1 d.2.1) id F sc_Street_init (prm_cons (prm_cons prm_nil)) rfl (by decide) (fun _ _ => rfl) (fun cdv Ar outer s H E a0 ⟨p0, p1, ()⟩ hr => (xs_fset T.cf_Street (x_eq (x_call (fz_tI T) (hr.mono (by decide)) (xa_cons (x_var (d := p0) 1) xa_nil)) rfl) (xs_let fun d1 h2 => (xs_expr (x_got h2 (x_eq (x_call (has_check_pegs T) (hr.mono (by decide)) (xa_cons (x_sfld T.cf_Street) xa_nil)) rfl)) (xs_set 3 sc_Street_init.nd (x_eq (x_call (fz_tP T) (hr.mono (by decide)) (xa_cons (x_var (d := p1) 2) xa_nil)) rfl) (xs_let fun d3 h4 => (xs_expr (x_got h4 (x_eq (x_call (has_check_lanes T) (hr.mono (by decide)) (xa_cons (x_lenT T.b_len (x_sfld T.cf_Street)) (xa_cons (x_var (d := p1) 3) xa_nil))) rfl)) (xs_let fun d5 h6 => (xs_fset T.cf_Street (x_got h6 (x_eq (x_call (has_ascending T) (hr.mono (by decide)) (xa_cons (x_var (d := p1) 3) xa_nil)) rfl)) (xs_set 4 sc_Street_init.nd (x_range1 T.b_range (x_lenT T.b_len (x_sfld T.cf_Street))) (xs_let fun d7 h8 => (xs_fset T.cf_Street (x_tuple T.b_tuple (x_eq (x_lc [("house", 7)] sc_Street_init.nd (xi_rngV (x_var (d := (p0.length : Int)) 4) h8) (fun _ _ _ _ _ => (xg_name 7 sc_Street_init.nd)) xf_no (fun _ _ _ _ _ x9 => (x_tuple T.b_tuple (x_eq (x_lc [("a", 5), ("b", 6)] sc_Street_init.nd (xi_tup (x_sfld T.cf_Street)) (fun _ _ _ _ _ => (xg_tup (xgs_cons (xg_name 5 sc_Street_init.nd) (xgs_cons (xg_name 6 sc_Street_init.nd) xgs_nil)))) (xf_one fun _ _ _ _ _ x10 => (xt_eqm (xt_eqs es_int (x_var (d := x10.1) 5) (x_var (d := x9) 7)) rfl)) (fun _ _ _ _ _ x10 => (x_var (d := x10.2.1) 6))) (lcM_filter _ _ _))))) (lcM_map _ _))) (xs_let fun d11 h12 => (xs_fset T.cf_Street (x_tuple T.b_tuple (x_eq (x_lc [("house", 7)] sc_Street_init.nd (xi_rngV (x_var (d := (p0.length : Int)) 4) h12) (fun _ _ _ _ _ => (xg_name 7 sc_Street_init.nd)) xf_no (fun _ _ _ _ _ x13 => (x_tuple T.b_tuple (x_eq (x_lc [("a", 5), ("b", 6)] sc_Street_init.nd (xi_tup (x_sfld T.cf_Street)) (fun _ _ _ _ _ => (xg_tup (xgs_cons (xg_name 5 sc_Street_init.nd) (xgs_cons (xg_name 6 sc_Street_init.nd) xgs_nil)))) (xf_one fun _ _ _ _ _ x14 => (xt_eqm (xt_eqs es_int (x_var (d := x14.2.1) 6) (x_var (d := x13) 7)) rfl)) (fun _ _ _ _ _ x14 => (x_var (d := x14.1) 5))) (lcM_filter _ _ _))))) (lcM_map _ _))) (xs_nil (⟨p0, d5, (d7.map fun (x9 : Int) => ((d5.filter fun (x10 : (Int × Int × Unit)) => (decide (x10.1 = x9))).map fun (x10 : (Int × Int × Unit)) => x10.2.1)), (d11.map fun (x13 : Int) => ((d5.filter fun (x14 : (Int × Int × Unit)) => (decide (x14.2.1 = x13))).map fun (x14 : (Int × Int × Unit)) => x14.1))⟩ : StreetD) (wk_of (.non (.non (.non (.non (.non (.non (.non (.non .nil))))))))))))))))))))))))
theorem has_Street_init_t {P : Program} {w : World} {K : PySem.W.Frag} {mg : Str → Option Value} {base : Heap} {cS cT cP cC : Addr} (T : Tx P w K mg base cS cT cP cC) : HasC P w K mg base "Street" cS 4 (SpI cS flStreet (ysC (tTup tInt) (ysC (tTup P2T) ysN)) fun d => f_Street_init_t d.1 d.2.1) := by
  obtain ⟨f, fd, F, hM, hm, hF⟩ := fn_Street_init_t T
  exact ⟨f, fd, _, hF, hM, hm, (F.bindsN fun _ _ _ _ _ _ us hl => match us, hl with | [_, _, _], _ => rfl)⟩
def m_Street_init_l (p0 : (List Int)) (p1 : (List (Int × Int × Unit))) : Option (Out StreetD Unit Unit) := ((f_check_pegs p0).bind fun d1 => ((f_check_lanes (p0.length : Int) p1).bind fun d3 => ((f_ascending p1).bind fun d5 => ((rngO 0 (p0.length : Int)).bind fun d7 => ((rngO 0 (p0.length : Int)).bind fun d11 => some (.nx (⟨p0, d5, (d7.map fun (x9 : Int) => ((d5.filter fun (x10 : (Int × Int × Unit)) => (decide (x10.1 = x9))).map fun (x10 : (Int × Int × Unit)) => x10.2.1)), (d11.map fun (x13 : Int) => ((d5.filter fun (x14 : (Int × Int × Unit)) => (decide (x14.2.1 = x13))).map fun (x14 : (Int × Int × Unit)) => x14.1))⟩ : StreetD)))))))
def f_Street_init_l (p0 : (List Int)) (p1 : (List (Int × Int × Unit))) : Option StreetD := endG id (m_Street_init_l p0 p1)
theorem fn_Street_init_l {P : Program} {w : World} {K : PySem.W.Frag} {mg : Str → Option Value} {base : Heap} {cS cT cP cC : Addr} (T : Tx P w K mg base cS cT cP cC) : ∃ f fd, FunD K "__init__" "Street.__init__" (defArgs s_Street_init) (defBody s_Street_init) (defScope s_Street_init) [] [] f fd ∧ Mk K cS f ∧ mg "Street" = some (.ref cS) ∧ FnOk P w K mg base CX0 4 f fd ["self", "pegs", "lanes"] (SpI cS flStreet (ysC (tLst tInt) (ysC (tLst (tLstN (ysC tInt (ysC tInt ysN)))) ysN)) fun d => f_Street_init_l d.1 d.2.1) := by
  obtain ⟨f, fd, F, hM, hm⟩ := T.m_Street_init
  refine ⟨f, fd, F, hM, hm, ?_⟩
  exact fn_init (A := (ysC (tLst tInt) (ysC (tLst (tLstN (ysC tInt (ysC tInt ysN)))) ysN))) (k := 3) (Tr := tNon) (Gn := fun a0 s0 => ⟨[.non, .non, .non, .non, .non, .non, .non, .non], muO 0 cS a0 (flStreet s0)⟩) (Gb := fun _ : Unit => ⟨[], mu0⟩) (m := fun d => m_Street_init_l d.1 d.2.1) id F sc_Street_init (prm_cons (prm_cons prm_nil)) rfl (by decide) (fun _ _ => rfl) (fun cdv Ar outer s H E a0 ⟨p0, p1, ()⟩ hr => (xs_fset T.cf_Street (x_eq (x_call (fz_lI T) (hr.mono (by decide)) (xa_cons (x_var (d := p0) 1) xa_nil)) rfl) (xs_let fun d1 h2 => (xs_expr (x_got h2 (x_eq (x_call (has_check_pegs T) (hr.mono (by decide)) (xa_cons (x_sfld T.cf_Street) xa_nil)) rfl)) (xs_set 3 sc_Street_init.nd (x_eq (x_call (fz_lP T) (hr.mono (by decide)) (xa_cons (x_var (d := p1) 2) xa_nil)) rfl) (xs_let fun d3 h4 => (xs_expr (x_got h4 (x_eq (x_call (has_check_lanes T) (hr.mono (by decide)) (xa_cons (x_lenT T.b_len (x_sfld T.cf_Street)) (xa_cons (x_var (d := p1) 3) xa_nil))) rfl)) (xs_let fun d5 h6 => (xs_fset T.cf_Street (x_got h6 (x_eq (x_call (has_ascending T) (hr.mono (by decide)) (xa_cons (x_var (d := p1) 3) xa_nil)) rfl)) (xs_set 4 sc_Street_init.nd (x_range1 T.b_range (x_lenT T.b_len (x_sfld T.cf_Street))) (xs_let fun d7 h8 => (xs_fset T.cf_Street (x_tuple T.b_tuple (x_eq (x_lc [("house", 7)] sc_Street_init.nd (xi_rngV (x_var (d := (p0.length : Int)) 4) h8) (fun _ _ _ _ _ => (xg_name 7 sc_Street_init.nd)) xf_no (fun _ _ _ _ _ x9 => (x_tuple T.b_tuple (x_eq (x_lc [("a", 5), ("b", 6)] sc_Street_init.nd (xi_tup (x_sfld T.cf_Street)) (fun _ _ _ _ _ => (xg_tup (xgs_cons (xg_name 5 sc_Street_init.nd) (xgs_cons (xg_name 6 sc_Street_init.nd) xgs_nil)))) (xf_one fun _ _ _ _ _ x10 => (xt_eqm (xt_eqs es_int (x_var (d := x10.1) 5) (x_var (d := x9) 7)) rfl)) (fun _ _ _ _ _ x10 => (x_var (d := x10.2.1) 6))) (lcM_filter _ _ _))))) (lcM_map _ _))) (xs_let fun d11 h12 => (xs_fset T.cf_Street (x_tuple T.b_tuple (x_eq (x_lc [("house", 7)] sc_Street_init.nd (xi_rngV (x_var (d := (p0.length : Int)) 4) h12) (fun _ _ _ _ _ => (xg_name 7 sc_Street_init.nd)) xf_no (fun _ _ _ _ _ x13 => (x_tuple T.b_tuple (x_eq (x_lc [("a", 5), ("b", 6)] sc_Street_init.nd (xi_tup (x_sfld T.cf_Street)) (fun _ _ _ _ _ => (xg_tup (xgs_cons (xg_name 5 sc_Street_init.nd) (xgs_cons (xg_name 6 sc_Street_init.nd) xgs_nil)))) (xf_one fun _ _ _ _ _ x14 => (xt_eqm (xt_eqs es_int (x_var (d := x14.2.1) 6) (x_var (d := x13) 7)) rfl)) (fun _ _ _ _ _ x14 => (x_var (d := x14.1) 5))) (lcM_filter _ _ _))))) (lcM_map _ _))) (xs_nil (⟨p0, d5, (d7.map fun (x9 : Int) => ((d5.filter fun (x10 : (Int × Int × Unit)) => (decide (x10.1 = x9))).map fun (x10 : (Int × Int × Unit)) => x10.2.1)), (d11.map fun (x13 : Int) => ((d5.filter fun (x14 : (Int × Int × Unit)) => (decide (x14.2.1 = x13))).map fun (x14 : (Int × Int × Unit)) => x14.1))⟩ : StreetD) (wk_of (.non (.non (.non (.non (.non (.non (.non (.non .nil))))))))))))))))))))))))
theorem has_Street_init_l {P : Program} {w : World} {K : PySem.W.Frag} {mg : Str → Option Value} {base : Heap} {cS cT cP cC : Addr} (T : Tx P w K mg base cS cT cP cC) : HasC P w K mg base "Street" cS 4 (SpI cS flStreet (ysC (tLst tInt) (ysC (tLst (tLstN (ysC tInt (ysC tInt ysN)))) ysN)) fun d => f_Street_init_l d.1 d.2.1) := by
  obtain ⟨f, fd, F, hM, hm, hF⟩ := fn_Street_init_l T
  exact ⟨f, fd, _, hF, hM, hm, (F.bindsN fun _ _ _ _ _ _ us hl => match us, hl with | [_, _, _], _ => rfl)⟩
abbrev s_Street_houses : Stmt := mth 30 2
theorem sc_Street_houses : FnScope ["self"] ["self"] (defScope s_Street_houses) := ⟨rfl, rfl, rfl, by decide +kernel, rfl, by decide +kernel, by decide +kernel⟩
def m_Street_houses (p0 : StreetD) : Option (Out Unit Unit Int) := some (.ret (p0.pegs.length : Int))
def f_Street_houses (p0 : StreetD) : Option Int := retO (m_Street_houses p0)
theorem has_Street_houses {P : Program} {w : World} {K : PySem.W.Frag} {mg : Str → Option Value} {base : Heap} {cS cT cP cC : Addr} (T : Tx P w K mg base cS cT cP cC) : HasP P w K mg base cS "houses" 1 (SpF (ysC (tStreet cS) ysN) tInt fun d => f_Street_houses d.1) := by
  obtain ⟨p, f, fd, F, hm⟩ := T.m_Street_houses
  exact ⟨p, f, fd, ["self"], fnok_def (A := (ysC (tStreet cS) ysN)) (R := tInt) (k := 0) (Gn := fun _ : Unit => ⟨[], mu0⟩) (Gb := fun _ : Unit => ⟨[], mu0⟩) F sc_Street_houses (prm_cons prm_nil) rfl (m := fun d => m_Street_houses d.1) (fun cdv Ar outer s H E ⟨p0, ()⟩ hr => (xs_ret (x_lenT T.b_len (x_fld T.cf_Street (x_var (d := p0) 0))))), hm, (F.bindsN fun _ _ _ _ _ _ us hl => match us, hl with | [_], _ => rfl)⟩
abbrev s_Street_lends_to : Stmt := mth 30 3
theorem sc_Street_lends_to : FnScope ["self", "house"] ["self", "house"] (defScope s_Street_lends_to) := ⟨rfl, rfl, rfl, by decide +kernel, rfl, by decide +kernel, by decide +kernel⟩
def m_Street_lends_to (p0 : StreetD) (p1 : Int) : Option (Out Unit Unit (List Int)) := ((atI p0.to_lists p1).bind fun d1 => some (.ret d1))
def f_Street_lends_to (p0 : StreetD) (p1 : Int) : Option (List Int) := retO (m_Street_lends_to p0 p1)
theorem has_Street_lends_to {P : Program} {w : World} {K : PySem.W.Frag} {mg : Str → Option Value} {base : Heap} {cS cT cP cC : Addr} (T : Tx P w K mg base cS cT cP cC) : HasM P w K mg base cS "lends_to" 1 (SpF (ysC (tStreet cS) (ysC tInt ysN)) (tTup tInt) fun d => f_Street_lends_to d.1 d.2.1) := by
  obtain ⟨f, fd, F, hm⟩ := T.m_Street_lends_to
  exact ⟨f, fd, ["self", "house"], fnok_def (A := (ysC (tStreet cS) (ysC tInt ysN))) (R := (tTup tInt)) (k := 0) (Gn := fun _ : Unit => ⟨[], mu0⟩) (Gb := fun _ : Unit => ⟨[], mu0⟩) F sc_Street_lends_to (prm_cons (prm_cons prm_nil)) rfl (m := fun d => m_Street_lends_to d.1 d.2.1) (fun cdv Ar outer s H E ⟨p0, p1, ()⟩ hr => (xs_let fun d1 h2 => (xs_ret (x_got h2 (x_ixT (x_fld T.cf_Street (x_var (d := p0) 0)) (x_var (d := p1) 1)))))), hm, (F.bindsN fun _ _ _ _ _ _ us hl => match us, hl with | [_, _], _ => rfl)⟩
abbrev s_Street_eq : Stmt := mth 30 7
theorem sc_Street_eq : FnScope ["self", "other"] ["self", "other"] (defScope s_Street_eq) := ⟨rfl, rfl, rfl, by decide +kernel, rfl, by decide +kernel, by decide +kernel⟩
def m_Street_eq (p0 : StreetD) (p1 : StreetD) : Option (Out Unit Unit Bool) := some (.ret (true && ((decide (p0.pegs = p1.pegs)) && (decide (p0.lanes = p1.lanes)))))
def f_Street_eq (p0 : StreetD) (p1 : StreetD) : Option Bool := retO (m_Street_eq p0 p1)
theorem has_Street_eq {P : Program} {w : World} {K : PySem.W.Frag} {mg : Str → Option Value} {base : Heap} {cS cT cP cC : Addr} (T : Tx P w K mg base cS cT cP cC) : HasM P w K mg base cS "__eq__" 1 (SpF (ysC (tStreet cS) (ysC (tStreet cS) ysN)) tBool fun d => f_Street_eq d.1 d.2.1) := by
  obtain ⟨f, fd, F, hm⟩ := T.m_Street_eq
  exact ⟨f, fd, ["self", "other"], fnok_def (A := (ysC (tStreet cS) (ysC (tStreet cS) ysN))) (R := tBool) (k := 0) (Gn := fun _ : Unit => ⟨[], mu0⟩) (Gb := fun _ : Unit => ⟨[], mu0⟩) F sc_Street_eq (prm_cons (prm_cons prm_nil)) rfl (m := fun d => m_Street_eq d.1 d.2.1) (fun cdv Ar outer s H E ⟨p0, p1, ()⟩ hr => (xs_ret (x_eq (x_and (x_isiO T.ins_Street T.b_isinstance T.m_Street (x_var (d := p1) 1)) (fun _ => (x_eq (x_and (x_eqD (de_tup de_int) hr.units (x_fld T.cf_Street (x_var (d := p0) 0)) (x_fld T.cf_Street (x_var (d := p1) 1))) (fun _ => (x_one (x_eqD (de_tup de_pair) hr.units (x_fld T.cf_Street (x_var (d := p0) 0)) (x_fld T.cf_Street (x_var (d := p1) 1)))))) and_p))) and_p))), hm, (F.bindsN fun _ _ _ _ _ _ us hl => match us, hl with | [_, _], _ => rfl)⟩
theorem hasL_Street_eq {P : Program} {w : World} {K : PySem.W.Frag} {mg : Str → Option Value} {base : Heap} {cS cT cP cC : Addr} (T : Tx P w K mg base cS cT cP cC) : HasL P w K mg base cS "__eq__" 1 (SpF (ysC (tStreet cS) (ysC (tStreet cS) ysN)) tBool fun d => f_Street_eq d.1 d.2.1) := by
  obtain ⟨f, fd, ps, F, hm, hb⟩ := (has_Street_eq T).ex
  exact ⟨f, fnr_of F hb, hm.at_, hm.fn⟩
abbrev s_is_way : Stmt := top 31
theorem sc_is_way : FnScope ["street", "value", "way", "a", "b"] ["street", "value"] (defScope s_is_way) := ⟨rfl, rfl, rfl, by decide +kernel, rfl, by decide +kernel, by decide +kernel⟩
def m_is_way (p0 : StreetD) (p1 : (List Int)) : Option (Out Unit Unit Bool) := (if (decide ((p1.length : Int) = (0 : Int))) = true then some (.ret false) else ((minL p1).bind fun d2 => ((if (decide (d2 < (0 : Int))) = true then some true else ((maxL p1).bind fun d4 => ((f_Street_houses p0).bind fun d6 => some (decide (d6 ≤ d4))))).bind fun d8 => (if d8 = true then some (.ret false) else ((mapO (fun (x11 : (Int × Int × Unit)) => ((atI p0.to_lists x11.1).bind fun d12 => some (d12.any (fun y => decide (x11.2.1 = y))))) (zipL p1 (cutD p1 (some (1 : Int)) none))).bind fun d14 => some (.ret (d14.all id)))))))
def f_is_way (p0 : StreetD) (p1 : (List Int)) : Option Bool := retO (m_is_way p0 p1)
theorem has_is_way {P : Program} {w : World} {K : PySem.W.Frag} {mg : Str → Option Value} {base : Heap} {cS cT cP cC : Addr} (T : Tx P w K mg base cS cT cP cC) : Has P w K mg base "is_way" 3 (SpF (ysC (tStreet cS) (ysC (tTup tInt) ysN)) tBool fun d => f_is_way d.1 d.2.1) := by
  obtain ⟨f, fd, F, hm⟩ := T.d_is_way
  exact has_def (A := (ysC (tStreet cS) (ysC (tTup tInt) ysN))) (R := tBool) (k := 2) (Gn := fun _ : Unit => ⟨[], mu0⟩) (Gb := fun _ : Unit => ⟨[], mu0⟩) F hm sc_is_way (prm_cons (prm_cons prm_nil)) rfl (F.bindsN fun _ _ _ _ _ _ us hl => match us, hl with | [_, _], _ => rfl)
    (m := fun d => m_is_way d.1 d.2.1) (fun cdv Ar outer s H E ⟨p0, p1, ()⟩ hr => (xs_set 2 sc_is_way.nd (x_eq (x_call (fz_tI T) (hr.mono (by decide)) (xa_cons (x_var (d := p1) 1) xa_nil)) rfl) (xs_ifx (xt_eqm (xt_eqs es_int (x_lenT T.b_len (x_var (d := p1) 2)) x_int) rfl) (fun g1 => (xs_ret x_bl)) (fun g1 => (xs_let fun d2 h3 => (xs_let fun d8 h9 => (xs_ifx (xt_got h9 (XW.t (xw_or (xt_lt (x_got h3 (x_minT T.b_min hr.units (x_var (d := p1) 2))) x_int) (fun _ => (xw_let fun d4 h5 => (xw_let fun d6 h7 => (xw_or1 (xt_ge (x_got h5 (x_maxT T.b_max hr.units (x_var (d := p1) 2))) (x_got h7 (x_eq (x_prop T.cf_Street.cl (has_Street_houses T) (hr.mono (by decide)) (x_var (d := p0) 0)) rfl)))))))))) (fun g10 => (xs_ret x_bl)) (fun g10 => (xs_let fun d14 h15 => (xs_ret (x_all T.b_all (x_got h15 (x_eq (x_lc [("a", 3), ("b", 4)] sc_is_way.nd (xi_zipT T.b_zip (x_var (d := p1) 2) (x_slT (x_var (d := p1) 2) (xo_some x_int) xo_none)) (fun _ _ _ _ _ => (xg_tup (xgs_cons (xg_name 3 sc_is_way.nd) (xgs_cons (xg_name 4 sc_is_way.nd) xgs_nil)))) xf_no (fun _ _ _ _ _ x11 => (x_let fun d12 h13 => (x_eq (x_inT fe_int (x_var (d := x11.2.1) 4) (x_got h13 (x_ixT (x_fld T.cf_Street (x_var (d := p0) 0)) (x_var (d := x11.1) 3)))) rfl)))) (lcM_mapO _ _))))))))))))))
abbrev s_checked_ways : Stmt := top 33
theorem sc_checked_ways : FnScope ["street", "ways", "kept", "tool", "way"] ["street", "ways"] (defScope s_checked_ways) := ⟨rfl, rfl, rfl, by decide +kernel, rfl, by decide +kernel, by decide +kernel⟩
def m_checked_ways_tt (p0 : StreetD) (p1 : (List (List Int))) : Option (Out Unit Unit (List (List Int))) := (thenO (forO (fun (x2 : (Int × (List Int) × Unit)) (s1 : Unit) => ((f_is_way p0 x2.2.1).bind fun d3 => (if (!d3) = true then none else some (.nx ())))) (enumL p1) ()) fun s1 : Unit => some (.ret p1))
def f_checked_ways_tt (p0 : StreetD) (p1 : (List (List Int))) : Option (List (List Int)) := retO (m_checked_ways_tt p0 p1)
theorem has_checked_ways_tt {P : Program} {w : World} {K : PySem.W.Frag} {mg : Str → Option Value} {base : Heap} {cS cT cP cC : Addr} (T : Tx P w K mg base cS cT cP cC) : Has P w K mg base "checked_ways" 4 (SpF (ysC (tStreet cS) (ysC (tTup (tTup tInt)) ysN)) (tTup (tTup tInt)) fun d => f_checked_ways_tt d.1 d.2.1) := by
  obtain ⟨f, fd, F, hm⟩ := T.d_checked_ways
  exact has_def (A := (ysC (tStreet cS) (ysC (tTup (tTup tInt)) ysN))) (R := (tTup (tTup tInt))) (k := 3) (Gn := fun _ : Unit => ⟨[], mu0⟩) (Gb := fun _ : Unit => ⟨[], mu0⟩) F hm sc_checked_ways (prm_cons (prm_cons prm_nil)) rfl (F.bindsN fun _ _ _ _ _ _ us hl => match us, hl with | [_, _], _ => rfl)
    (m := fun d => m_checked_ways_tt d.1 d.2.1) (fun cdv Ar outer s H E ⟨p0, p1, ()⟩ hr => (xs_set 2 sc_checked_ways.nd (x_eq (x_call (fz_tTI T) (hr.mono (by decide)) (xa_cons (x_var (d := p1) 1) xa_nil)) rfl) (xs_seq (G1 := (fun s1 : Unit => (⟨[.val (tStreet cS) p0, .val (tTup (tTup tInt)) p1, .val (tTup (tTup tInt)) p1, .non, .non], mu0⟩ : Cn))) (xs_for (Gl := (fun s1 : Unit => (⟨[.val (tStreet cS) p0, .val (tTup (tTup tInt)) p1, .val (tTup (tTup tInt)) p1, .non, .non], mu0⟩ : Cn))) () (xi_enumT T.b_enumerate (x_var (d := p1) 2)) (xg_tup (xgs_cons (xg_name 3 sc_checked_ways.nd) (xgs_cons (xg_name 4 sc_checked_ways.nd) xgs_nil))) (wk_of (.same (.same (.same (.non (.non .nil)))))) (fun _ => rfl) (fun x2 s1 => (xs_let fun d3 h4 => (xs_ifx (xt_not (xt_val (x_got h4 (x_eq (x_call (has_is_way T) (hr.mono (by decide)) (xa_cons (x_var (d := p0) 0) (xa_cons (x_var (d := x2.2.1) 4) xa_nil))) rfl)))) (fun g5 => xs_fail) (fun g5 => (xs_nil () (wk_of (.same (.same (.same (.non (.non .nil)))))))))))) (fun s1 => (xs_ret (x_var (d := p1) 2))))))
def m_checked_ways_lt (p0 : StreetD) (p1 : (List (List Int))) : Option (Out Unit Unit (List (List Int))) := (thenO (forO (fun (x2 : (Int × (List Int) × Unit)) (s1 : Unit) => ((f_is_way p0 x2.2.1).bind fun d3 => (if (!d3) = true then none else some (.nx ())))) (enumL p1) ()) fun s1 : Unit => some (.ret p1))
def f_checked_ways_lt (p0 : StreetD) (p1 : (List (List Int))) : Option (List (List Int)) := retO (m_checked_ways_lt p0 p1)
theorem has_checked_ways_lt {P : Program} {w : World} {K : PySem.W.Frag} {mg : Str → Option Value} {base : Heap} {cS cT cP cC : Addr} (T : Tx P w K mg base cS cT cP cC) : Has P w K mg base "checked_ways" 4 (SpF (ysC (tStreet cS) (ysC (tLst (tTup tInt)) ysN)) (tTup (tTup tInt)) fun d => f_checked_ways_lt d.1 d.2.1) := by
  obtain ⟨f, fd, F, hm⟩ := T.d_checked_ways
  exact has_def (A := (ysC (tStreet cS) (ysC (tLst (tTup tInt)) ysN))) (R := (tTup (tTup tInt))) (k := 3) (Gn := fun _ : Unit => ⟨[], mu0⟩) (Gb := fun _ : Unit => ⟨[], mu0⟩) F hm sc_checked_ways (prm_cons (prm_cons prm_nil)) rfl (F.bindsN fun _ _ _ _ _ _ us hl => match us, hl with | [_, _], _ => rfl)
    (m := fun d => m_checked_ways_lt d.1 d.2.1) (fun cdv Ar outer s H E ⟨p0, p1, ()⟩ hr => (xs_set 2 sc_checked_ways.nd (x_eq (x_call (fz_lTI T) (hr.mono (by decide)) (xa_cons (x_var (d := p1) 1) xa_nil)) rfl) (xs_seq (G1 := (fun s1 : Unit => (⟨[.val (tStreet cS) p0, .val (tLst (tTup tInt)) p1, .val (tTup (tTup tInt)) p1, .non, .non], mu0⟩ : Cn))) (xs_for (Gl := (fun s1 : Unit => (⟨[.val (tStreet cS) p0, .val (tLst (tTup tInt)) p1, .val (tTup (tTup tInt)) p1, .non, .non], mu0⟩ : Cn))) () (xi_enumT T.b_enumerate (x_var (d := p1) 2)) (xg_tup (xgs_cons (xg_name 3 sc_checked_ways.nd) (xgs_cons (xg_name 4 sc_checked_ways.nd) xgs_nil))) (wk_of (.same (.same (.same (.non (.non .nil)))))) (fun _ => rfl) (fun x2 s1 => (xs_let fun d3 h4 => (xs_ifx (xt_not (xt_val (x_got h4 (x_eq (x_call (has_is_way T) (hr.mono (by decide)) (xa_cons (x_var (d := p0) 0) (xa_cons (x_var (d := x2.2.1) 4) xa_nil))) rfl)))) (fun g5 => xs_fail) (fun g5 => (xs_nil () (wk_of (.same (.same (.same (.non (.non .nil)))))))))))) (fun s1 => (xs_ret (x_var (d := p1) 2))))))
def m_checked_ways_ll (p0 : StreetD) (p1 : (List (List Int))) : Option (Out Unit Unit (List (List Int))) := (thenO (forO (fun (x2 : (Int × (List Int) × Unit)) (s1 : Unit) => ((f_is_way p0 x2.2.1).bind fun d3 => (if (!d3) = true then none else some (.nx ())))) (enumL p1) ()) fun s1 : Unit => some (.ret p1))
def f_checked_ways_ll (p0 : StreetD) (p1 : (List (List Int))) : Option (List (List Int)) := retO (m_checked_ways_ll p0 p1)
theorem has_checked_ways_ll {P : Program} {w : World} {K : PySem.W.Frag} {mg : Str → Option Value} {base : Heap} {cS cT cP cC : Addr} (T : Tx P w K mg base cS cT cP cC) : Has P w K mg base "checked_ways" 4 (SpF (ysC (tStreet cS) (ysC (tLst (tLst tInt)) ysN)) (tTup (tTup tInt)) fun d => f_checked_ways_ll d.1 d.2.1) := by
  obtain ⟨f, fd, F, hm⟩ := T.d_checked_ways
  exact has_def (A := (ysC (tStreet cS) (ysC (tLst (tLst tInt)) ysN))) (R := (tTup (tTup tInt))) (k := 3) (Gn := fun _ : Unit => ⟨[], mu0⟩) (Gb := fun _ : Unit => ⟨[], mu0⟩) F hm sc_checked_ways (prm_cons (prm_cons prm_nil)) rfl (F.bindsN fun _ _ _ _ _ _ us hl => match us, hl with | [_, _], _ => rfl)
    (m := fun d => m_checked_ways_ll d.1 d.2.1) (fun cdv Ar outer s H E ⟨p0, p1, ()⟩ hr => (xs_set 2 sc_checked_ways.nd (x_eq (x_call (fz_lLI T) (hr.mono (by decide)) (xa_cons (x_var (d := p1) 1) xa_nil)) rfl) (xs_seq (G1 := (fun s1 : Unit => (⟨[.val (tStreet cS) p0, .val (tLst (tLst tInt)) p1, .val (tTup (tTup tInt)) p1, .non, .non], mu0⟩ : Cn))) (xs_for (Gl := (fun s1 : Unit => (⟨[.val (tStreet cS) p0, .val (tLst (tLst tInt)) p1, .val (tTup (tTup tInt)) p1, .non, .non], mu0⟩ : Cn))) () (xi_enumT T.b_enumerate (x_var (d := p1) 2)) (xg_tup (xgs_cons (xg_name 3 sc_checked_ways.nd) (xgs_cons (xg_name 4 sc_checked_ways.nd) xgs_nil))) (wk_of (.same (.same (.same (.non (.non .nil)))))) (fun _ => rfl) (fun x2 s1 => (xs_let fun d3 h4 => (xs_ifx (xt_not (xt_val (x_got h4 (x_eq (x_call (has_is_way T) (hr.mono (by decide)) (xa_cons (x_var (d := p0) 0) (xa_cons (x_var (d := x2.2.1) 4) xa_nil))) rfl)))) (fun g5 => xs_fail) (fun g5 => (xs_nil () (wk_of (.same (.same (.same (.non (.non .nil)))))))))))) (fun s1 => (xs_ret (x_var (d := p1) 2))))))
abbrev s_hanging : Stmt := top 34
theorem sc_hanging : FnScope ["street", "ways", "holders", "way", "tool", "holder", "house"] ["street", "ways"] (defScope s_hanging) := ⟨rfl, rfl, rfl, by decide +kernel, rfl, by decide +kernel, by decide +kernel⟩
def m_hanging (p0 : StreetD) (p1 : (List (List Int))) : Option (Out Unit Unit (List (List Int))) := ((mapO (fun (x1 : (List Int)) => ((if (decide ((1 : Int) < (x1.length : Int))) = true then ((atI x1 (-(1 : Int))).bind fun d4 => some (some d4)) else some none).bind fun d6 => some d6)) p1).bind fun d8 => ((f_Street_houses p0).bind fun d10 => ((rngO 0 d10).bind fun d12 => some (.ret (d12.map fun (x14 : Int) => (((enumL d8).filter fun (x15 : (Int × (Option Int) × Unit)) => (decide (x15.2.1 = some x14))).map fun (x15 : (Int × (Option Int) × Unit)) => x15.1))))))
def f_hanging (p0 : StreetD) (p1 : (List (List Int))) : Option (List (List Int)) := retO (m_hanging p0 p1)
theorem has_hanging {P : Program} {w : World} {K : PySem.W.Frag} {mg : Str → Option Value} {base : Heap} {cS cT cP cC : Addr} (T : Tx P w K mg base cS cT cP cC) : Has P w K mg base "hanging" 3 (SpF (ysC (tStreet cS) (ysC (tTup (tTup tInt)) ysN)) (tTup (tTup tInt)) fun d => f_hanging d.1 d.2.1) := by
  obtain ⟨f, fd, F, hm⟩ := T.d_hanging
  exact has_def (A := (ysC (tStreet cS) (ysC (tTup (tTup tInt)) ysN))) (R := (tTup (tTup tInt))) (k := 2) (Gn := fun _ : Unit => ⟨[], mu0⟩) (Gb := fun _ : Unit => ⟨[], mu0⟩) F hm sc_hanging (prm_cons (prm_cons prm_nil)) rfl (F.bindsN fun _ _ _ _ _ _ us hl => match us, hl with | [_, _], _ => rfl)
    (m := fun d => m_hanging d.1 d.2.1) (fun cdv Ar outer s H E ⟨p0, p1, ()⟩ hr => (xs_let fun d8 h9 => (xs_set 2 sc_hanging.nd (x_got h9 (x_eq (x_lc [("way", 3)] sc_hanging.nd (xi_tup (x_var (d := p1) 1)) (fun _ _ _ _ _ => (xg_name 3 sc_hanging.nd)) xf_no (fun _ _ _ _ _ x1 => (x_let fun d6 h7 => (x_got h7 (x_if (xt_gt (x_lenT T.b_len (x_var (d := x1) 3)) x_int) (fun _ => (x_let fun d4 h5 => (x_some nn_int (x_got h5 (x_ixT (x_var (d := x1) 3) (x_neg x_int)))))) (fun _ => x_none)))))) (lcM_mapO _ _))) (xs_let fun d10 h11 => (xs_let fun d12 h13 => (xs_ret (x_tuple T.b_tuple (x_eq (x_lc [("house", 6)] sc_hanging.nd (xi_rng1 T.b_range (x_got h11 (x_eq (x_prop T.cf_Street.cl (has_Street_houses T) (hr.mono (by decide)) (x_var (d := p0) 0)) rfl)) h13) (fun _ _ _ _ _ => (xg_name 6 sc_hanging.nd)) xf_no (fun _ _ _ _ _ x14 => (x_tuple T.b_tuple (x_eq (x_lc [("tool", 4), ("holder", 5)] sc_hanging.nd (xi_enumL T.b_enumerate (x_var (d := d8) 2)) (fun _ _ _ _ _ => (xg_tup (xgs_cons (xg_name 4 sc_hanging.nd) (xgs_cons (xg_name 5 sc_hanging.nd) xgs_nil)))) (xf_one fun _ _ _ _ _ x15 => (xt_eqm (xt_eqs es_oi (x_var (d := x15.2.1) 5) (x_var (d := x14) 6)) rfl)) (fun _ _ _ _ _ x15 => (x_var (d := x15.1) 4))) (lcM_filter _ _ _))))) (lcM_map _ _)))))))))
abbrev s_check_loads : Stmt := top 35
theorem sc_check_loads : FnScope ["street", "hung", "house", "tools"] ["street", "hung"] (defScope s_check_loads) := ⟨rfl, rfl, rfl, by decide +kernel, rfl, by decide +kernel, by decide +kernel⟩
def m_check_loads (p0 : StreetD) (p1 : (List (List Int))) : Option (Out Unit Unit Unit) := (thenO (forO (fun (x2 : (Int × (List Int) × Unit)) (s1 : Unit) => ((atI p0.pegs x2.1).bind fun d3 => (if (decide (d3 < (x2.2.1.length : Int))) = true then none else some (.nx ())))) (enumL p1) ()) fun s1 : Unit => some (.nx ()))
def f_check_loads (p0 : StreetD) (p1 : (List (List Int))) : Option Unit := endO (m_check_loads p0 p1)
theorem has_check_loads {P : Program} {w : World} {K : PySem.W.Frag} {mg : Str → Option Value} {base : Heap} {cS cT cP cC : Addr} (T : Tx P w K mg base cS cT cP cC) : Has P w K mg base "check_loads" 1 (SpF (ysC (tStreet cS) (ysC (tTup (tTup tInt)) ysN)) tNon fun d => f_check_loads d.1 d.2.1) := by
  obtain ⟨f, fd, F, hm⟩ := T.d_check_loads
  exact has_end (A := (ysC (tStreet cS) (ysC (tTup (tTup tInt)) ysN))) (R := tNon) (k := 0) (Gn := fun _ : Unit => ⟨[.non, .non, .non, .non], mu0⟩) (Gb := fun _ : Unit => ⟨[], mu0⟩) F hm sc_check_loads (prm_cons (prm_cons prm_nil)) rfl (F.bindsN fun _ _ _ _ _ _ us hl => match us, hl with | [_, _], _ => rfl)
    (m := fun d => m_check_loads d.1 d.2.1) (fun cdv Ar outer s H E ⟨p0, p1, ()⟩ hr => (xs_seq (G1 := (fun s1 : Unit => (⟨[.val (tStreet cS) p0, .val (tTup (tTup tInt)) p1, .non, .non], mu0⟩ : Cn))) (xs_for (Gl := (fun s1 : Unit => (⟨[.val (tStreet cS) p0, .val (tTup (tTup tInt)) p1, .non, .non], mu0⟩ : Cn))) () (xi_enumT T.b_enumerate (x_var (d := p1) 1)) (xg_tup (xgs_cons (xg_name 2 sc_check_loads.nd) (xgs_cons (xg_name 3 sc_check_loads.nd) xgs_nil))) (wk_of (.same (.same (.non (.non .nil))))) (fun _ => rfl) (fun x2 s1 => (xs_let fun d3 h4 => (xs_ifx (xt_gt (x_lenT T.b_len (x_var (d := x2.2.1) 3)) (x_got h4 (x_ixT (x_fld T.cf_Street (x_var (d := p0) 0)) (x_var (d := x2.1) 2)))) (fun g5 => xs_fail) (fun g5 => (xs_nil () (wk_of (.same (.same (.non (.non .nil))))))))))) (fun s1 => (xs_nil () (wk_of (.non (.non (.non (.non .nil)))))))))
abbrev s_Standing_init : Stmt := mth 36 0
theorem sc_Standing_init : FnScope ["self", "street", "ways", "sure", "way"] ["self", "street", "ways", "sure"] (defScope s_Standing_init) := ⟨rfl, rfl, rfl, by decide +kernel, rfl, by decide +kernel, by decide +kernel⟩
def m_Standing_init_tt (p0 : StreetD) (p1 : (List (List Int))) (p2 : Bool) : Option (Out StandD Unit Unit) := ((if p2 = true then some p1 else ((f_checked_ways_tt p0 p1).bind fun d1 => some d1)).bind fun d3 => ((f_hanging p0 d3).bind fun d5 => ((mapO (fun (x7 : (List Int)) => ((if (decide ((2 : Int) < (x7.length : Int))) = true then ((atI x7 (-(2 : Int))).bind fun d8 => some (some d8)) else some none).bind fun d10 => some d10)) d3).bind fun d12 => (thenO (if (!p2) = true then ((f_check_loads p0 d5).bind fun d16 => some (.nx ())) else some (.nx ())) fun s15 : Unit => some (.nx (⟨p0, d3, d5, d12⟩ : StandD))))))
def f_Standing_init_tt (p0 : StreetD) (p1 : (List (List Int))) (p2 : Bool) : Option StandD := endG id (m_Standing_init_tt p0 p1 p2)
theorem fn_Standing_init_tt {P : Program} {w : World} {K : PySem.W.Frag} {mg : Str → Option Value} {base : Heap} {cS cT cP cC : Addr} (T : Tx P w K mg base cS cT cP cC) : ∃ f fd, FunD K "__init__" "Standing.__init__" (defArgs s_Standing_init) (defBody s_Standing_init) (defScope s_Standing_init) [] [("sure", .bl false)] f fd ∧ Mk K cT f ∧ mg "Standing" = some (.ref cT) ∧ FnOk P w K mg base CX0 5 f fd ["self", "street", "ways", "sure"] (SpI cT (flStand cS) (ysC (tStreet cS) (ysC (tTup (tTup tInt)) (ysC tBool ysN))) fun d => f_Standing_init_tt d.1 d.2.1 d.2.2.1) := by
  obtain ⟨f, fd, F, hM, hm⟩ := T.m_Standing_init
  refine ⟨f, fd, F, hM, hm, ?_⟩
  exact fn_init (A := (ysC (tStreet cS) (ysC (tTup (tTup tInt)) (ysC tBool ysN)))) (k := 4) (Tr := tNon) (Gn := fun a0 s0 => ⟨[.non, .non, .non, .non, .non], muO 0 cT a0 ((flStand cS) s0)⟩) (Gb := fun _ : Unit => ⟨[], mu0⟩) (m := fun d => m_Standing_init_tt d.1 d.2.1 d.2.2.1) id F sc_Standing_init (prm_cons (prm_cons (prm_cons prm_nil))) rfl (by decide) (fun _ _ => rfl) (fun cdv Ar outer s H E a0 ⟨p0, p1, p2, ()⟩ hr => (xs_fset T.cf_Standing (x_var (d := p0) 1) (xs_let fun d3 h4 => (xs_fset T.cf_Standing (x_got h4 (x_if (xt_val (x_var (d := p2) 3)) (fun _ => (x_tupleT T.b_tuple (x_var (d := p1) 2))) (fun _ => (x_let fun d1 h2 => (x_got h2 (x_eq (x_call (has_checked_ways_tt T) (hr.mono (by decide)) (xa_cons (x_var (d := p0) 1) (xa_cons (x_var (d := p1) 2) xa_nil))) rfl)))))) (xs_let fun d5 h6 => (xs_fset T.cf_Standing (x_got h6 (x_eq (x_call (has_hanging T) (hr.mono (by decide)) (xa_cons (x_var (d := p0) 1) (xa_cons (x_sfld T.cf_Standing) xa_nil))) rfl)) (xs_let fun d12 h13 => (xs_fset T.cf_Standing (x_tuple T.b_tuple (x_got h13 (x_eq (x_lc [("way", 4)] sc_Standing_init.nd (xi_tup (x_sfld T.cf_Standing)) (fun _ _ _ _ _ => (xg_name 4 sc_Standing_init.nd)) xf_no (fun _ _ _ _ _ x7 => (x_let fun d10 h11 => (x_got h11 (x_if (xt_gt (x_lenT T.b_len (x_var (d := x7) 4)) x_int) (fun _ => (x_let fun d8 h9 => (x_some nn_int (x_got h9 (x_ixT (x_var (d := x7) 4) (x_neg x_int)))))) (fun _ => x_none)))))) (lcM_mapO _ _)))) (xs_seq (G1 := (fun s15 : Unit => (⟨[.non, .val (tStreet cS) p0, .val (tTup (tTup tInt)) p1, .val tBool p2, .non], (muO 0 cT a0 [("street", .val (tStreet cS) p0), ("ways", .val (tTup (tTup tInt)) d3), ("hung", .val (tTup (tTup tInt)) d5), ("wants", .val (tTup (tOpt tInt)) d12)])⟩ : Cn))) (xs_if (xt_not (xt_val (x_var (d := p2) 3))) (fun g14 => (xs_let fun d16 h17 => (xs_expr (x_got h17 (x_eq (x_call (has_check_loads T) (hr.mono (by decide)) (xa_cons (x_var (d := p0) 1) (xa_cons (x_sfld T.cf_Standing) xa_nil))) rfl)) (xs_nil () (wk_of (.non (.same (.same (.same (.non .nil)))))))))) (fun g14 => (xs_nil () (wk_of (.non (.same (.same (.same (.non .nil))))))))) (fun s15 => (xs_nil (⟨p0, d3, d5, d12⟩ : StandD) (wk_of (.non (.non (.non (.non (.non .nil)))))))))))))))))
def f_StandingD_tt (p0 : StreetD) (p1 : (List (List Int))) : Option StandD := f_Standing_init_tt p0 p1 false
theorem has_StandingD_tt {P : Program} {w : World} {K : PySem.W.Frag} {mg : Str → Option Value} {base : Heap} {cS cT cP cC : Addr} (T : Tx P w K mg base cS cT cP cC) : HasCK P w K mg base "Standing" cT 5 2 [] (fun vs zs => vs ++ ([.bl false] ++ zs)) (SpI cT (flStand cS) (ysC (tStreet cS) (ysC (tTup (tTup tInt)) (ysC tBool ysN))) fun d => f_Standing_init_tt d.1 d.2.1 d.2.2.1) := by
  obtain ⟨f, fd, F, hM, hm, hF⟩ := fn_Standing_init_tt T
  obtain ⟨mv, hb⟩ := kb_D F
  exact ⟨f, fd, _, _, hF, hM, hm, hb⟩
def m_Standing_init_lt (p0 : StreetD) (p1 : (List (List Int))) (p2 : Bool) : Option (Out StandD Unit Unit) := ((if p2 = true then some p1 else ((f_checked_ways_lt p0 p1).bind fun d1 => some d1)).bind fun d3 => ((f_hanging p0 d3).bind fun d5 => ((mapO (fun (x7 : (List Int)) => ((if (decide ((2 : Int) < (x7.length : Int))) = true then ((atI x7 (-(2 : Int))).bind fun d8 => some (some d8)) else some none).bind fun d10 => some d10)) d3).bind fun d12 => (thenO (if (!p2) = true then ((f_check_loads p0 d5).bind fun d16 => some (.nx ())) else some (.nx ())) fun s15 : Unit => some (.nx (⟨p0, d3, d5, d12⟩ : StandD))))))
def f_Standing_init_lt (p0 : StreetD) (p1 : (List (List Int))) (p2 : Bool) : Option StandD := endG id (m_Standing_init_lt p0 p1 p2)
theorem fn_Standing_init_lt {P : Program} {w : World} {K : PySem.W.Frag} {mg : Str → Option Value} {base : Heap} {cS cT cP cC : Addr} (T : Tx P w K mg base cS cT cP cC) : ∃ f fd, FunD K "__init__" "Standing.__init__" (defArgs s_Standing_init) (defBody s_Standing_init) (defScope s_Standing_init) [] [("sure", .bl false)] f fd ∧ Mk K cT f ∧ mg "Standing" = some (.ref cT) ∧ FnOk P w K mg base CX0 5 f fd ["self", "street", "ways", "sure"] (SpI cT (flStand cS) (ysC (tStreet cS) (ysC (tLst (tTup tInt)) (ysC tBool ysN))) fun d => f_Standing_init_lt d.1 d.2.1 d.2.2.1) := by
  obtain ⟨f, fd, F, hM, hm⟩ := T.m_Standing_init
  refine ⟨f, fd, F, hM, hm, ?_⟩
  exact fn_init (A := (ysC (tStreet cS) (ysC (tLst (tTup tInt)) (ysC tBool ysN)))) (k := 4) (Tr := tNon) (Gn := fun a0 s0 => ⟨[.non, .non, .non, .non, .non], muO 0 cT a0 ((flStand cS) s0)⟩) (Gb := fun _ : Unit => ⟨[], mu0⟩) (m := fun d => m_Standing_init_lt d.1 d.2.1 d.2.2.1) id F sc_Standing_init (prm_cons (prm_cons (prm_cons prm_nil))) rfl (by decide) (fun _ _ => rfl) (fun cdv Ar outer s H E a0 ⟨p0, p1, p2, ()⟩ hr => (xs_fset T.cf_Standing (x_var (d := p0) 1) (xs_let fun d3 h4 => (xs_fset T.cf_Standing (x_got h4 (x_if (xt_val (x_var (d := p2) 3)) (fun _ => (x_tuple T.b_tuple (x_var (d := p1) 2))) (fun _ => (x_let fun d1 h2 => (x_got h2 (x_eq (x_call (has_checked_ways_lt T) (hr.mono (by decide)) (xa_cons (x_var (d := p0) 1) (xa_cons (x_var (d := p1) 2) xa_nil))) rfl)))))) (xs_let fun d5 h6 => (xs_fset T.cf_Standing (x_got h6 (x_eq (x_call (has_hanging T) (hr.mono (by decide)) (xa_cons (x_var (d := p0) 1) (xa_cons (x_sfld T.cf_Standing) xa_nil))) rfl)) (xs_let fun d12 h13 => (xs_fset T.cf_Standing (x_tuple T.b_tuple (x_got h13 (x_eq (x_lc [("way", 4)] sc_Standing_init.nd (xi_tup (x_sfld T.cf_Standing)) (fun _ _ _ _ _ => (xg_name 4 sc_Standing_init.nd)) xf_no (fun _ _ _ _ _ x7 => (x_let fun d10 h11 => (x_got h11 (x_if (xt_gt (x_lenT T.b_len (x_var (d := x7) 4)) x_int) (fun _ => (x_let fun d8 h9 => (x_some nn_int (x_got h9 (x_ixT (x_var (d := x7) 4) (x_neg x_int)))))) (fun _ => x_none)))))) (lcM_mapO _ _)))) (xs_seq (G1 := (fun s15 : Unit => (⟨[.non, .val (tStreet cS) p0, .val (tLst (tTup tInt)) p1, .val tBool p2, .non], (muO 0 cT a0 [("street", .val (tStreet cS) p0), ("ways", .val (tTup (tTup tInt)) d3), ("hung", .val (tTup (tTup tInt)) d5), ("wants", .val (tTup (tOpt tInt)) d12)])⟩ : Cn))) (xs_if (xt_not (xt_val (x_var (d := p2) 3))) (fun g14 => (xs_let fun d16 h17 => (xs_expr (x_got h17 (x_eq (x_call (has_check_loads T) (hr.mono (by decide)) (xa_cons (x_var (d := p0) 1) (xa_cons (x_sfld T.cf_Standing) xa_nil))) rfl)) (xs_nil () (wk_of (.non (.same (.same (.same (.non .nil)))))))))) (fun g14 => (xs_nil () (wk_of (.non (.same (.same (.same (.non .nil))))))))) (fun s15 => (xs_nil (⟨p0, d3, d5, d12⟩ : StandD) (wk_of (.non (.non (.non (.non (.non .nil)))))))))))))))))
def f_StandingD_lt (p0 : StreetD) (p1 : (List (List Int))) : Option StandD := f_Standing_init_lt p0 p1 false
theorem has_StandingD_lt {P : Program} {w : World} {K : PySem.W.Frag} {mg : Str → Option Value} {base : Heap} {cS cT cP cC : Addr} (T : Tx P w K mg base cS cT cP cC) : HasCK P w K mg base "Standing" cT 5 2 [] (fun vs zs => vs ++ ([.bl false] ++ zs)) (SpI cT (flStand cS) (ysC (tStreet cS) (ysC (tLst (tTup tInt)) (ysC tBool ysN))) fun d => f_Standing_init_lt d.1 d.2.1 d.2.2.1) := by
  obtain ⟨f, fd, F, hM, hm, hF⟩ := fn_Standing_init_lt T
  obtain ⟨mv, hb⟩ := kb_D F
  exact ⟨f, fd, _, _, hF, hM, hm, hb⟩
def f_StandingK_lt (p0 : StreetD) (p1 : (List (List Int))) : Option StandD := f_Standing_init_lt p0 p1 true
theorem has_StandingK_lt {P : Program} {w : World} {K : PySem.W.Frag} {mg : Str → Option Value} {base : Heap} {cS cT cP cC : Addr} (T : Tx P w K mg base cS cT cP cC) : HasCK P w K mg base "Standing" cT 5 2 ["sure"] (fun vs zs => vs ++ ([] ++ zs)) (SpI cT (flStand cS) (ysC (tStreet cS) (ysC (tLst (tTup tInt)) (ysC tBool ysN))) fun d => f_Standing_init_lt d.1 d.2.1 d.2.2.1) := by
  obtain ⟨f, fd, F, hM, hm, hF⟩ := fn_Standing_init_lt T
  obtain ⟨mv, hb⟩ := kb_K F
  exact ⟨f, fd, _, _, hF, hM, hm, hb⟩
def m_Standing_init_ll (p0 : StreetD) (p1 : (List (List Int))) (p2 : Bool) : Option (Out StandD Unit Unit) := ((if p2 = true then none else ((f_checked_ways_ll p0 p1).bind fun d1 => some d1)).bind fun d3 => ((f_hanging p0 d3).bind fun d5 => ((mapO (fun (x7 : (List Int)) => ((if (decide ((2 : Int) < (x7.length : Int))) = true then ((atI x7 (-(2 : Int))).bind fun d8 => some (some d8)) else some none).bind fun d10 => some d10)) d3).bind fun d12 => (thenO (if (!p2) = true then ((f_check_loads p0 d5).bind fun d16 => some (.nx ())) else some (.nx ())) fun s15 : Unit => some (.nx (⟨p0, d3, d5, d12⟩ : StandD))))))
def f_Standing_init_ll (p0 : StreetD) (p1 : (List (List Int))) (p2 : Bool) : Option StandD := endG id (m_Standing_init_ll p0 p1 p2)
theorem fn_Standing_init_ll {P : Program} {w : World} {K : PySem.W.Frag} {mg : Str → Option Value} {base : Heap} {cS cT cP cC : Addr} (T : Tx P w K mg base cS cT cP cC) : ∃ f fd, FunD K "__init__" "Standing.__init__" (defArgs s_Standing_init) (defBody s_Standing_init) (defScope s_Standing_init) [] [("sure", .bl false)] f fd ∧ Mk K cT f ∧ mg "Standing" = some (.ref cT) ∧ FnOk P w K mg base CX0 5 f fd ["self", "street", "ways", "sure"] (SpI cT (flStand cS) (ysC (tStreet cS) (ysC (tLst (tLst tInt)) (ysC tBool ysN))) fun d => f_Standing_init_ll d.1 d.2.1 d.2.2.1) := by
  obtain ⟨f, fd, F, hM, hm⟩ := T.m_Standing_init
  refine ⟨f, fd, F, hM, hm, ?_⟩
  exact fn_init (A := (ysC (tStreet cS) (ysC (tLst (tLst tInt)) (ysC tBool ysN)))) (k := 4) (Tr := tNon) (Gn := fun a0 s0 => ⟨[.non, .non, .non, .non, .non], muO 0 cT a0 ((flStand cS) s0)⟩) (Gb := fun _ : Unit => ⟨[], mu0⟩) (m := fun d => m_Standing_init_ll d.1 d.2.1 d.2.2.1) id F sc_Standing_init (prm_cons (prm_cons (prm_cons prm_nil))) rfl (by decide) (fun _ _ => rfl) (fun cdv Ar outer s H E a0 ⟨p0, p1, p2, ()⟩ hr => (xs_fset T.cf_Standing (x_var (d := p0) 1) (xs_let fun d3 h4 => (xs_fset T.cf_Standing (x_got h4 (x_if (xt_val (x_var (d := p2) 3)) (fun _ => x_fail) (fun _ => (x_let fun d1 h2 => (x_got h2 (x_eq (x_call (has_checked_ways_ll T) (hr.mono (by decide)) (xa_cons (x_var (d := p0) 1) (xa_cons (x_var (d := p1) 2) xa_nil))) rfl)))))) (xs_let fun d5 h6 => (xs_fset T.cf_Standing (x_got h6 (x_eq (x_call (has_hanging T) (hr.mono (by decide)) (xa_cons (x_var (d := p0) 1) (xa_cons (x_sfld T.cf_Standing) xa_nil))) rfl)) (xs_let fun d12 h13 => (xs_fset T.cf_Standing (x_tuple T.b_tuple (x_got h13 (x_eq (x_lc [("way", 4)] sc_Standing_init.nd (xi_tup (x_sfld T.cf_Standing)) (fun _ _ _ _ _ => (xg_name 4 sc_Standing_init.nd)) xf_no (fun _ _ _ _ _ x7 => (x_let fun d10 h11 => (x_got h11 (x_if (xt_gt (x_lenT T.b_len (x_var (d := x7) 4)) x_int) (fun _ => (x_let fun d8 h9 => (x_some nn_int (x_got h9 (x_ixT (x_var (d := x7) 4) (x_neg x_int)))))) (fun _ => x_none)))))) (lcM_mapO _ _)))) (xs_seq (G1 := (fun s15 : Unit => (⟨[.non, .val (tStreet cS) p0, .val (tLst (tLst tInt)) p1, .val tBool p2, .non], (muO 0 cT a0 [("street", .val (tStreet cS) p0), ("ways", .val (tTup (tTup tInt)) d3), ("hung", .val (tTup (tTup tInt)) d5), ("wants", .val (tTup (tOpt tInt)) d12)])⟩ : Cn))) (xs_if (xt_not (xt_val (x_var (d := p2) 3))) (fun g14 => (xs_let fun d16 h17 => (xs_expr (x_got h17 (x_eq (x_call (has_check_loads T) (hr.mono (by decide)) (xa_cons (x_var (d := p0) 1) (xa_cons (x_sfld T.cf_Standing) xa_nil))) rfl)) (xs_nil () (wk_of (.non (.same (.same (.same (.non .nil)))))))))) (fun g14 => (xs_nil () (wk_of (.non (.same (.same (.same (.non .nil))))))))) (fun s15 => (xs_nil (⟨p0, d3, d5, d12⟩ : StandD) (wk_of (.non (.non (.non (.non (.non .nil)))))))))))))))))
def f_StandingD_ll (p0 : StreetD) (p1 : (List (List Int))) : Option StandD := f_Standing_init_ll p0 p1 false
theorem has_StandingD_ll {P : Program} {w : World} {K : PySem.W.Frag} {mg : Str → Option Value} {base : Heap} {cS cT cP cC : Addr} (T : Tx P w K mg base cS cT cP cC) : HasCK P w K mg base "Standing" cT 5 2 [] (fun vs zs => vs ++ ([.bl false] ++ zs)) (SpI cT (flStand cS) (ysC (tStreet cS) (ysC (tLst (tLst tInt)) (ysC tBool ysN))) fun d => f_Standing_init_ll d.1 d.2.1 d.2.2.1) := by
  obtain ⟨f, fd, F, hM, hm, hF⟩ := fn_Standing_init_ll T
  obtain ⟨mv, hb⟩ := kb_D F
  exact ⟨f, fd, _, _, hF, hM, hm, hb⟩
end Pg
set_option Elab.async false
set_option linter.all false
set_option maxRecDepth 100000
set_option maxHeartbeats 1000000
namespace Pg
open PySem PySem.Spec PyProof.Rows L2
abbrev s_Standing_home : Stmt := mth 36 1
theorem sc_Standing_home : FnScope ["cls", "street", "owners", "owner"] ["cls", "street", "owners"] (defScope s_Standing_home) := ⟨rfl, rfl, rfl, by decide +kernel, rfl, by decide +kernel, by decide +kernel⟩
def m_Standing_home (p0 : Unit) (p1 : StreetD) (p2 : (List Int)) : Option (Out Unit Unit StandD) := ((f_StandingD_lt p1 (p2.map fun (x2 : Int) => [x2])).bind fun d3 => some (.ret d3))
def f_Standing_home (p0 : Unit) (p1 : StreetD) (p2 : (List Int)) : Option StandD := retO (m_Standing_home p0 p1 p2)
theorem hasC_Standing_home {P : Program} {w : World} {K : PySem.W.Frag} {mg : Str → Option Value} {base : Heap} {cS cT cP cC : Addr} (T : Tx P w K mg base cS cT cP cC) : HasCM P w K mg base "Standing" cT "home" 7 (SpF (ysC (tCls cT) (ysC (tStreet cS) (ysC (tLst tInt) ysN))) (tStand cS cT) fun d => f_Standing_home d.1 d.2.1 d.2.2.1) := by
  obtain ⟨mc, p, f, fd, F, h1, h2, h3⟩ := T.m_Standing_home
  exact ⟨mc, p, f, h1, h2, fnr_of (fnok_def (A := (ysC (tCls cT) (ysC (tStreet cS) (ysC (tLst tInt) ysN)))) (R := (tStand cS cT)) (k := 6) (Gn := fun _ : Unit => ⟨[], mu0⟩) (Gb := fun _ : Unit => ⟨[], mu0⟩) F sc_Standing_home (prm_cons (prm_cons (prm_cons prm_nil))) rfl (m := fun d => m_Standing_home d.1 d.2.1 d.2.2.1) (fun cdv Ar outer s H E ⟨p0, p1, p2, ()⟩ hr => (xs_let fun d3 h4 => (xs_ret (x_got h4 (x_eq (x_makeL (i := 0) (has_StandingD_lt T) (hr.mono (by decide)) (xa_cons (x_var (d := p1) 1) (xa_cons (x_eq (x_lc [("owner", 3)] sc_Standing_home.nd (xi_tup (x_eq (x_call (fz_lI T) (hr.mono (by decide)) (xa_cons (x_var (d := p2) 2) xa_nil)) rfl)) (fun _ _ _ _ _ => (xg_name 3 sc_Standing_home.nd)) xf_no (fun _ _ _ _ _ x2 => (x_tup (xa_hc (x_var (d := x2) 3) xa_hn)))) (lcM_map _ _)) xa_nil)) rfl hA_D) rfl)))))) (F.bindsN fun _ _ _ _ _ _ us hl => match us, hl with | [_, _, _], _ => rfl), h3⟩
abbrev s_Standing_holder : Stmt := mth 36 3
theorem sc_Standing_holder : FnScope ["self", "tool"] ["self", "tool"] (defScope s_Standing_holder) := ⟨rfl, rfl, rfl, by decide +kernel, rfl, by decide +kernel, by decide +kernel⟩
def m_Standing_holder (p0 : StandD) (p1 : Int) : Option (Out Unit Unit Int) := ((atI p0.ways p1).bind fun d1 => ((atI d1 (-(1 : Int))).bind fun d3 => some (.ret d3)))
def f_Standing_holder (p0 : StandD) (p1 : Int) : Option Int := retO (m_Standing_holder p0 p1)
theorem has_Standing_holder {P : Program} {w : World} {K : PySem.W.Frag} {mg : Str → Option Value} {base : Heap} {cS cT cP cC : Addr} (T : Tx P w K mg base cS cT cP cC) : HasM P w K mg base cT "holder" 1 (SpF (ysC (tStand cS cT) (ysC tInt ysN)) tInt fun d => f_Standing_holder d.1 d.2.1) := by
  obtain ⟨f, fd, F, hm⟩ := T.m_Standing_holder
  exact ⟨f, fd, ["self", "tool"], fnok_def (A := (ysC (tStand cS cT) (ysC tInt ysN))) (R := tInt) (k := 0) (Gn := fun _ : Unit => ⟨[], mu0⟩) (Gb := fun _ : Unit => ⟨[], mu0⟩) F sc_Standing_holder (prm_cons (prm_cons prm_nil)) rfl (m := fun d => m_Standing_holder d.1 d.2.1) (fun cdv Ar outer s H E ⟨p0, p1, ()⟩ hr => (xs_let fun d1 h2 => (xs_let fun d3 h4 => (xs_ret (x_got h4 (x_ixT (x_got h2 (x_ixT (x_fld T.cf_Standing (x_var (d := p0) 0)) (x_var (d := p1) 1))) (x_neg x_int))))))), hm, (F.bindsN fun _ _ _ _ _ _ us hl => match us, hl with | [_, _], _ => rfl)⟩
abbrev s_Standing_is_full : Stmt := mth 36 10
theorem sc_Standing_is_full : FnScope ["self", "house"] ["self", "house"] (defScope s_Standing_is_full) := ⟨rfl, rfl, rfl, by decide +kernel, rfl, by decide +kernel, by decide +kernel⟩
def m_Standing_is_full (p0 : StandD) (p1 : Int) : Option (Out Unit Unit Bool) := ((atI p0.hung p1).bind fun d1 => ((atI p0.street.pegs p1).bind fun d3 => some (.ret (decide (d3 ≤ (d1.length : Int))))))
def f_Standing_is_full (p0 : StandD) (p1 : Int) : Option Bool := retO (m_Standing_is_full p0 p1)
theorem has_Standing_is_full {P : Program} {w : World} {K : PySem.W.Frag} {mg : Str → Option Value} {base : Heap} {cS cT cP cC : Addr} (T : Tx P w K mg base cS cT cP cC) : HasM P w K mg base cT "is_full" 1 (SpF (ysC (tStand cS cT) (ysC tInt ysN)) tBool fun d => f_Standing_is_full d.1 d.2.1) := by
  obtain ⟨f, fd, F, hm⟩ := T.m_Standing_is_full
  exact ⟨f, fd, ["self", "house"], fnok_def (A := (ysC (tStand cS cT) (ysC tInt ysN))) (R := tBool) (k := 0) (Gn := fun _ : Unit => ⟨[], mu0⟩) (Gb := fun _ : Unit => ⟨[], mu0⟩) F sc_Standing_is_full (prm_cons (prm_cons prm_nil)) rfl (m := fun d => m_Standing_is_full d.1 d.2.1) (fun cdv Ar outer s H E ⟨p0, p1, ()⟩ hr => (xs_let fun d1 h2 => (xs_let fun d3 h4 => (xs_ret (x_ge (x_lenT T.b_len (x_got h2 (x_ixT (x_fld T.cf_Standing (x_var (d := p0) 0)) (x_var (d := p1) 1)))) (x_got h4 (x_ixT (x_fld T.cf_Street (x_fld T.cf_Standing (x_var (d := p0) 0))) (x_var (d := p1) 1)))))))), hm, (F.bindsN fun _ _ _ _ _ _ us hl => match us, hl with | [_, _], _ => rfl)⟩
abbrev s_Standing_can_return : Stmt := mth 36 13
theorem sc_Standing_can_return : FnScope ["self", "tool", "wanted_house"] ["self", "tool"] (defScope s_Standing_can_return) := ⟨rfl, rfl, rfl, by decide +kernel, rfl, by decide +kernel, by decide +kernel⟩
def m_Standing_can_return (p0 : StandD) (p1 : Int) : Option (Out Unit Unit Bool) := ((atI p0.ways p1).bind fun d1 => (if (decide ((d1.length : Int) = (1 : Int))) = true then some (.ret false) else ((atI p0.wants p1).bind fun d4 => ((if (d4.isNone) = true then some true else (d4.bind fun d6 => ((f_Standing_is_full p0 d6).bind fun d8 => some (!d8)))).bind fun d10 => some (.ret d10)))))
def f_Standing_can_return (p0 : StandD) (p1 : Int) : Option Bool := retO (m_Standing_can_return p0 p1)
theorem has_Standing_can_return {P : Program} {w : World} {K : PySem.W.Frag} {mg : Str → Option Value} {base : Heap} {cS cT cP cC : Addr} (T : Tx P w K mg base cS cT cP cC) : HasM P w K mg base cT "can_return" 2 (SpF (ysC (tStand cS cT) (ysC tInt ysN)) tBool fun d => f_Standing_can_return d.1 d.2.1) := by
  obtain ⟨f, fd, F, hm⟩ := T.m_Standing_can_return
  exact ⟨f, fd, ["self", "tool"], fnok_def (A := (ysC (tStand cS cT) (ysC tInt ysN))) (R := tBool) (k := 1) (Gn := fun _ : Unit => ⟨[], mu0⟩) (Gb := fun _ : Unit => ⟨[], mu0⟩) F sc_Standing_can_return (prm_cons (prm_cons prm_nil)) rfl (m := fun d => m_Standing_can_return d.1 d.2.1) (fun cdv Ar outer s H E ⟨p0, p1, ()⟩ hr => (xs_let fun d1 h2 => (xs_ifx (xt_eqm (xt_eqs es_int (x_lenT T.b_len (x_got h2 (x_ixT (x_fld T.cf_Standing (x_var (d := p0) 0)) (x_var (d := p1) 1)))) x_int) rfl) (fun g3 => (xs_ret x_bl)) (fun g3 => (xs_let fun d4 h5 => (xs_set 2 sc_Standing_can_return.nd (x_got h5 (x_ixT (x_fld T.cf_Standing (x_var (d := p0) 0)) (x_var (d := p1) 1))) (xs_let fun d10 h11 => (xs_ret (x_got h11 (x_or (x_isN (x_var (d := d4) 2)) (fun _ => (x_let fun d6 h7 => (x_let fun d8 h9 => (x_oneO (x_not (x_got h9 (x_eq (x_meth T.cf_Standing.cl (has_Standing_is_full T) (hr.mono (by decide)) (x_var (d := p0) 0) (xa_cons (x_got h7 (x_un (x_var (d := d4) 2))) xa_nil)) rfl))))))))))))))))), hm, (F.bindsN fun _ _ _ _ _ _ us hl => match us, hl with | [_, _], _ => rfl)⟩
abbrev s_Standing_given_back : Stmt := mth 36 14
theorem sc_Standing_given_back : FnScope ["self", "tool", "ways", "index", "way"] ["self", "tool"] (defScope s_Standing_given_back) := ⟨rfl, rfl, rfl, by decide +kernel, rfl, by decide +kernel, by decide +kernel⟩
def m_Standing_given_back (p0 : StandD) (p1 : Int) : Option (Out Unit Unit StandD) := ((f_StandingK_lt p0.street ((enumL p0.ways).map fun (x1 : (Int × (List Int) × Unit)) => (if (decide (x1.1 = p1)) = true then (cutD x1.2.1 none (some (-(1 : Int)))) else x1.2.1))).bind fun d2 => some (.ret d2))
def f_Standing_given_back (p0 : StandD) (p1 : Int) : Option StandD := retO (m_Standing_given_back p0 p1)
theorem has_Standing_given_back {P : Program} {w : World} {K : PySem.W.Frag} {mg : Str → Option Value} {base : Heap} {cS cT cP cC : Addr} (T : Tx P w K mg base cS cT cP cC) : HasM P w K mg base cT "given_back" 7 (SpF (ysC (tStand cS cT) (ysC tInt ysN)) (tStand cS cT) fun d => f_Standing_given_back d.1 d.2.1) := by
  obtain ⟨f, fd, F, hm⟩ := T.m_Standing_given_back
  exact ⟨f, fd, ["self", "tool"], fnok_def (A := (ysC (tStand cS cT) (ysC tInt ysN))) (R := (tStand cS cT)) (k := 6) (Gn := fun _ : Unit => ⟨[], mu0⟩) (Gb := fun _ : Unit => ⟨[], mu0⟩) F sc_Standing_given_back (prm_cons (prm_cons prm_nil)) rfl (m := fun d => m_Standing_given_back d.1 d.2.1) (fun cdv Ar outer s H E ⟨p0, p1, ()⟩ hr => (xs_lc (ys := (((enumL p0.ways).map fun (x1 : (Int × (List Int) × Unit)) => (if (decide (x1.1 = p1)) = true then (cutD x1.2.1 none (some (-(1 : Int)))) else x1.2.1)) : (List (List Int)))) 2 [("index", 3), ("way", 4)] sc_Standing_given_back.nd (xi_enumT T.b_enumerate (x_fld T.cf_Standing (x_var (d := p0) 0))) (fun _ _ _ _ _ => (xg_tup (xgs_cons (xg_name 3 sc_Standing_given_back.nd) (xgs_cons (xg_name 4 sc_Standing_given_back.nd) xgs_nil)))) xf_no (fun _ _ _ _ _ x1 => (x_eq (x_if (xt_eqm (xt_eqs es_int (x_var (d := x1.1) 3) (x_var (d := p1) 1)) rfl) (fun _ => (x_slT (x_var (d := x1.2.1) 4) xo_none (xo_some (x_neg x_int)))) (fun _ => (x_var (d := x1.2.1) 4))) ite_p)) (lcM_map _ _) (xs_let fun d2 h3 => (xs_ret (x_got h3 (x_eq (x_makeK (has_StandingK_lt T) (hr.mono (by decide)) (xa_cons (x_fld T.cf_Standing (x_var (d := p0) 0)) (xa_cons (x_var (d := ((enumL p0.ways).map fun (x1 : (Int × (List Int) × Unit)) => (if (decide (x1.1 = p1)) = true then (cutD x1.2.1 none (some (-(1 : Int)))) else x1.2.1))) 2) xa_nil)) x_bl hA_K) rfl)))))), hm, (F.bindsN fun _ _ _ _ _ _ us hl => match us, hl with | [_, _], _ => rfl)⟩
abbrev s_Standing_lent : Stmt := mth 36 15
theorem sc_Standing_lent : FnScope ["self", "tool", "house", "ways", "index", "way"] ["self", "tool", "house"] (defScope s_Standing_lent) := ⟨rfl, rfl, rfl, by decide +kernel, rfl, by decide +kernel, by decide +kernel⟩
def m_Standing_lent (p0 : StandD) (p1 : Int) (p2 : Int) : Option (Out Unit Unit StandD) := ((mapO (fun (x1 : (Int × (List Int) × Unit)) => ((if (decide (x1.1 = p1)) = true then ((catO x1.2.1 [p2]).bind fun d4 => some d4) else some x1.2.1).bind fun d6 => some d6)) (enumL p0.ways)).bind fun d8 => ((f_StandingK_lt p0.street d8).bind fun d10 => some (.ret d10)))
def f_Standing_lent (p0 : StandD) (p1 : Int) (p2 : Int) : Option StandD := retO (m_Standing_lent p0 p1 p2)
theorem has_Standing_lent {P : Program} {w : World} {K : PySem.W.Frag} {mg : Str → Option Value} {base : Heap} {cS cT cP cC : Addr} (T : Tx P w K mg base cS cT cP cC) : HasM P w K mg base cT "lent" 7 (SpF (ysC (tStand cS cT) (ysC tInt (ysC tInt ysN))) (tStand cS cT) fun d => f_Standing_lent d.1 d.2.1 d.2.2.1) := by
  obtain ⟨f, fd, F, hm⟩ := T.m_Standing_lent
  exact ⟨f, fd, ["self", "tool", "house"], fnok_def (A := (ysC (tStand cS cT) (ysC tInt (ysC tInt ysN)))) (R := (tStand cS cT)) (k := 6) (Gn := fun _ : Unit => ⟨[], mu0⟩) (Gb := fun _ : Unit => ⟨[], mu0⟩) F sc_Standing_lent (prm_cons (prm_cons (prm_cons prm_nil))) rfl (m := fun d => m_Standing_lent d.1 d.2.1 d.2.2.1) (fun cdv Ar outer s H E ⟨p0, p1, p2, ()⟩ hr => (xs_let fun d8 h9 => (xs_lc (ys := (d8 : (List (List Int)))) 3 [("index", 4), ("way", 5)] sc_Standing_lent.nd (xi_enumT T.b_enumerate (x_fld T.cf_Standing (x_var (d := p0) 0))) (fun _ _ _ _ _ => (xg_tup (xgs_cons (xg_name 4 sc_Standing_lent.nd) (xgs_cons (xg_name 5 sc_Standing_lent.nd) xgs_nil)))) xf_no (fun _ _ _ _ _ x1 => (x_let fun d6 h7 => (x_got h7 (x_if (xt_eqm (xt_eqs es_int (x_var (d := x1.1) 4) (x_var (d := p1) 1)) rfl) (fun _ => (x_let fun d4 h5 => (x_got h5 (x_catT (x_var (d := x1.2.1) 5) (x_tup (xa_hc (x_var (d := p2) 2) xa_hn)))))) (fun _ => (x_var (d := x1.2.1) 5)))))) (((lcM_mapO _ _)).trans h9) (xs_let fun d10 h11 => (xs_ret (x_got h11 (x_eq (x_makeK (has_StandingK_lt T) (hr.mono (by decide)) (xa_cons (x_fld T.cf_Standing (x_var (d := p0) 0)) (xa_cons (x_var (d := d8) 3) xa_nil)) x_bl hA_K) rfl))))))), hm, (F.bindsN fun _ _ _ _ _ _ us hl => match us, hl with | [_, _, _], _ => rfl)⟩
abbrev s_Standing_cut : Stmt := mth 36 16
theorem sc_Standing_cut : FnScope ["self", "stage", "way", "number"] ["self", "stage"] (defScope s_Standing_cut) := ⟨rfl, rfl, rfl, by decide +kernel, rfl, by decide +kernel, by decide +kernel⟩
def m_Standing_cut (p0 : StandD) (p1 : (List Int)) : Option (Out Unit Unit StandD) := ((f_StandingK_lt p0.street ((zipL p0.ways p1).map fun (x1 : ((List Int) × Int × Unit)) => (cutD x1.1 none (some x1.2.1)))).bind fun d2 => some (.ret d2))
def f_Standing_cut (p0 : StandD) (p1 : (List Int)) : Option StandD := retO (m_Standing_cut p0 p1)
theorem has_Standing_cut {P : Program} {w : World} {K : PySem.W.Frag} {mg : Str → Option Value} {base : Heap} {cS cT cP cC : Addr} (T : Tx P w K mg base cS cT cP cC) : HasM P w K mg base cT "cut" 7 (SpF (ysC (tStand cS cT) (ysC (tTup tInt) ysN)) (tStand cS cT) fun d => f_Standing_cut d.1 d.2.1) := by
  obtain ⟨f, fd, F, hm⟩ := T.m_Standing_cut
  exact ⟨f, fd, ["self", "stage"], fnok_def (A := (ysC (tStand cS cT) (ysC (tTup tInt) ysN))) (R := (tStand cS cT)) (k := 6) (Gn := fun _ : Unit => ⟨[], mu0⟩) (Gb := fun _ : Unit => ⟨[], mu0⟩) F sc_Standing_cut (prm_cons (prm_cons prm_nil)) rfl (m := fun d => m_Standing_cut d.1 d.2.1) (fun cdv Ar outer s H E ⟨p0, p1, ()⟩ hr => (xs_let fun d2 h3 => (xs_ret (x_got h3 (x_eq (x_makeK (has_StandingK_lt T) (hr.mono (by decide)) (xa_cons (x_fld T.cf_Standing (x_var (d := p0) 0)) (xa_cons (x_eq (x_lc [("way", 2), ("number", 3)] sc_Standing_cut.nd (xi_zipT T.b_zip (x_fld T.cf_Standing (x_var (d := p0) 0)) (x_var (d := p1) 1)) (fun _ _ _ _ _ => (xg_tup (xgs_cons (xg_name 2 sc_Standing_cut.nd) (xgs_cons (xg_name 3 sc_Standing_cut.nd) xgs_nil)))) xf_no (fun _ _ _ _ _ x1 => (x_slT (x_var (d := x1.1) 2) xo_none (xo_some (x_var (d := x1.2.1) 3))))) (lcM_map _ _)) xa_nil)) x_bl hA_K) rfl))))), hm, (F.bindsN fun _ _ _ _ _ _ us hl => match us, hl with | [_, _], _ => rfl)⟩
abbrev s_Standing_after_lending : Stmt := mth 36 17
theorem sc_Standing_after_lending : FnScope ["self", "tool", "house", "lender"] ["self", "tool", "house"] (defScope s_Standing_after_lending) := ⟨rfl, rfl, rfl, by decide +kernel, rfl, by decide +kernel, by decide +kernel⟩
def m_Standing_after_lending (p0 : StandD) (p1 : Int) (p2 : Int) : Option (Out Unit Unit StandD) := ((atI p0.ways p1).bind fun d1 => ((atI d1 (-(1 : Int))).bind fun d3 => ((atI p0.street.to_lists d3).bind fun d5 => (if (!d5.any (fun y => decide (p2 = y))) = true then none else ((f_Standing_is_full p0 p2).bind fun d8 => (if d8 = true then none else ((f_Standing_lent p0 p1 p2).bind fun d11 => some (.ret d11))))))))
def f_Standing_after_lending (p0 : StandD) (p1 : Int) (p2 : Int) : Option StandD := retO (m_Standing_after_lending p0 p1 p2)
theorem has_Standing_after_lending {P : Program} {w : World} {K : PySem.W.Frag} {mg : Str → Option Value} {base : Heap} {cS cT cP cC : Addr} (T : Tx P w K mg base cS cT cP cC) : HasM P w K mg base cT "after_lending" 8 (SpF (ysC (tStand cS cT) (ysC tInt (ysC tInt ysN))) (tStand cS cT) fun d => f_Standing_after_lending d.1 d.2.1 d.2.2.1) := by
  obtain ⟨f, fd, F, hm⟩ := T.m_Standing_after_lending
  exact ⟨f, fd, ["self", "tool", "house"], fnok_def (A := (ysC (tStand cS cT) (ysC tInt (ysC tInt ysN)))) (R := (tStand cS cT)) (k := 7) (Gn := fun _ : Unit => ⟨[], mu0⟩) (Gb := fun _ : Unit => ⟨[], mu0⟩) F sc_Standing_after_lending (prm_cons (prm_cons (prm_cons prm_nil))) rfl (m := fun d => m_Standing_after_lending d.1 d.2.1 d.2.2.1) (fun cdv Ar outer s H E ⟨p0, p1, p2, ()⟩ hr => (xs_let fun d1 h2 => (xs_let fun d3 h4 => (xs_set 3 sc_Standing_after_lending.nd (x_got h4 (x_ixT (x_got h2 (x_ixT (x_fld T.cf_Standing (x_var (d := p0) 0)) (x_var (d := p1) 1))) (x_neg x_int))) (xs_let fun d5 h6 => (xs_ifx (xt_eqm (xt_niT fe_int (x_var (d := p2) 2) (x_got h6 (x_ixT (x_fld T.cf_Street (x_fld T.cf_Standing (x_var (d := p0) 0))) (x_var (d := d3) 3)))) rfl) (fun g7 => xs_fail) (fun g7 => (xs_let fun d8 h9 => (xs_ifx (xt_val (x_got h9 (x_eq (x_meth T.cf_Standing.cl (has_Standing_is_full T) (hr.mono (by decide)) (x_var (d := p0) 0) (xa_cons (x_var (d := p2) 2) xa_nil)) rfl))) (fun g10 => xs_fail) (fun g10 => (xs_let fun d11 h12 => (xs_ret (x_got h12 (x_eq (x_meth T.cf_Standing.cl (has_Standing_lent T) (hr.mono (by decide)) (x_var (d := p0) 0) (xa_cons (x_var (d := p1) 1) (xa_cons (x_var (d := p2) 2) xa_nil))) rfl)))))))))))))), hm, (F.bindsN fun _ _ _ _ _ _ us hl => match us, hl with | [_, _, _], _ => rfl)⟩
abbrev s_Standing_after_return : Stmt := mth 36 18
theorem sc_Standing_after_return : FnScope ["self", "tool"] ["self", "tool"] (defScope s_Standing_after_return) := ⟨rfl, rfl, rfl, by decide +kernel, rfl, by decide +kernel, by decide +kernel⟩
def m_Standing_after_return (p0 : StandD) (p1 : Int) : Option (Out Unit Unit StandD) := ((atI p0.ways p1).bind fun d1 => (if (decide ((d1.length : Int) = (1 : Int))) = true then none else ((f_Standing_can_return p0 p1).bind fun d4 => (if (!d4) = true then none else ((f_Standing_given_back p0 p1).bind fun d7 => some (.ret d7))))))
def f_Standing_after_return (p0 : StandD) (p1 : Int) : Option StandD := retO (m_Standing_after_return p0 p1)
theorem has_Standing_after_return {P : Program} {w : World} {K : PySem.W.Frag} {mg : Str → Option Value} {base : Heap} {cS cT cP cC : Addr} (T : Tx P w K mg base cS cT cP cC) : HasM P w K mg base cT "after_return" 8 (SpF (ysC (tStand cS cT) (ysC tInt ysN)) (tStand cS cT) fun d => f_Standing_after_return d.1 d.2.1) := by
  obtain ⟨f, fd, F, hm⟩ := T.m_Standing_after_return
  exact ⟨f, fd, ["self", "tool"], fnok_def (A := (ysC (tStand cS cT) (ysC tInt ysN))) (R := (tStand cS cT)) (k := 7) (Gn := fun _ : Unit => ⟨[], mu0⟩) (Gb := fun _ : Unit => ⟨[], mu0⟩) F sc_Standing_after_return (prm_cons (prm_cons prm_nil)) rfl (m := fun d => m_Standing_after_return d.1 d.2.1) (fun cdv Ar outer s H E ⟨p0, p1, ()⟩ hr => (xs_let fun d1 h2 => (xs_ifx (xt_eqm (xt_eqs es_int (x_lenT T.b_len (x_got h2 (x_ixT (x_fld T.cf_Standing (x_var (d := p0) 0)) (x_var (d := p1) 1)))) x_int) rfl) (fun g3 => xs_fail) (fun g3 => (xs_let fun d4 h5 => (xs_ifx (xt_not (xt_val (x_got h5 (x_eq (x_meth T.cf_Standing.cl (has_Standing_can_return T) (hr.mono (by decide)) (x_var (d := p0) 0) (xa_cons (x_var (d := p1) 1) xa_nil)) rfl)))) (fun g6 => xs_fail) (fun g6 => (xs_let fun d7 h8 => (xs_ret (x_got h8 (x_eq (x_meth T.cf_Standing.cl (has_Standing_given_back T) (hr.mono (by decide)) (x_var (d := p0) 0) (xa_cons (x_var (d := p1) 1) xa_nil)) rfl))))))))))), hm, (F.bindsN fun _ _ _ _ _ _ us hl => match us, hl with | [_, _], _ => rfl)⟩
abbrev s_Standing_len : Stmt := mth 36 20
theorem sc_Standing_len : FnScope ["self"] ["self"] (defScope s_Standing_len) := ⟨rfl, rfl, rfl, by decide +kernel, rfl, by decide +kernel, by decide +kernel⟩
def m_Standing_len (p0 : StandD) : Option (Out Unit Unit Int) := some (.ret (p0.ways.length : Int))
def f_Standing_len (p0 : StandD) : Option Int := retO (m_Standing_len p0)
theorem has_Standing_len {P : Program} {w : World} {K : PySem.W.Frag} {mg : Str → Option Value} {base : Heap} {cS cT cP cC : Addr} (T : Tx P w K mg base cS cT cP cC) : HasM P w K mg base cT "__len__" 1 (SpF (ysC (tStand cS cT) ysN) tInt fun d => f_Standing_len d.1) := by
  obtain ⟨f, fd, F, hm⟩ := T.m_Standing_len
  exact ⟨f, fd, ["self"], fnok_def (A := (ysC (tStand cS cT) ysN)) (R := tInt) (k := 0) (Gn := fun _ : Unit => ⟨[], mu0⟩) (Gb := fun _ : Unit => ⟨[], mu0⟩) F sc_Standing_len (prm_cons prm_nil) rfl (m := fun d => m_Standing_len d.1) (fun cdv Ar outer s H E ⟨p0, ()⟩ hr => (xs_ret (x_lenT T.b_len (x_fld T.cf_Standing (x_var (d := p0) 0))))), hm, (F.bindsN fun _ _ _ _ _ _ us hl => match us, hl with | [_], _ => rfl)⟩
theorem hasL_Standing_len {P : Program} {w : World} {K : PySem.W.Frag} {mg : Str → Option Value} {base : Heap} {cS cT cP cC : Addr} (T : Tx P w K mg base cS cT cP cC) : HasL P w K mg base cT "__len__" 1 (SpF (ysC (tStand cS cT) ysN) tInt fun d => f_Standing_len d.1) := by
  obtain ⟨f, fd, ps, F, hm, hb⟩ := (has_Standing_len T).ex
  exact ⟨f, fnr_of F hb, hm.at_, hm.fn⟩
abbrev s_Standing_eq : Stmt := mth 36 22
theorem sc_Standing_eq : FnScope ["self", "other"] ["self", "other"] (defScope s_Standing_eq) := ⟨rfl, rfl, rfl, by decide +kernel, rfl, by decide +kernel, by decide +kernel⟩
def m_Standing_eq (p0 : StandD) (p1 : StandD) : Option (Out Unit Unit Bool) := ((if true = true then ((f_Street_eq p0.street p1.street).bind fun d1 => (if d1 = true then some (decide (p0.ways = p1.ways)) else some false)) else some false).bind fun d3 => some (.ret d3))
def f_Standing_eq (p0 : StandD) (p1 : StandD) : Option Bool := retO (m_Standing_eq p0 p1)
theorem has_Standing_eq {P : Program} {w : World} {K : PySem.W.Frag} {mg : Str → Option Value} {base : Heap} {cS cT cP cC : Addr} (T : Tx P w K mg base cS cT cP cC) : HasM P w K mg base cT "__eq__" 2 (SpF (ysC (tStand cS cT) (ysC (tStand cS cT) ysN)) tBool fun d => f_Standing_eq d.1 d.2.1) := by
  obtain ⟨f, fd, F, hm⟩ := T.m_Standing_eq
  exact ⟨f, fd, ["self", "other"], fnok_def (A := (ysC (tStand cS cT) (ysC (tStand cS cT) ysN))) (R := tBool) (k := 1) (Gn := fun _ : Unit => ⟨[], mu0⟩) (Gb := fun _ : Unit => ⟨[], mu0⟩) F sc_Standing_eq (prm_cons (prm_cons prm_nil)) rfl (m := fun d => m_Standing_eq d.1 d.2.1) (fun cdv Ar outer s H E ⟨p0, p1, ()⟩ hr => (xs_let fun d3 h4 => (xs_ret (x_got h4 (x_and (x_isiO T.ins_Standing T.b_isinstance T.m_Standing (x_var (d := p1) 1)) (fun _ => (x_let fun d1 h2 => (x_and (x_got h2 (x_eq (x_eqO (hasL_Street_eq T) (hr.mono (by decide)) (x_fld T.cf_Standing (x_var (d := p0) 0)) (x_fld T.cf_Standing (x_var (d := p1) 1))) rfl)) (fun _ => (x_one (x_eqD (de_tup (de_tup de_int)) hr.units (x_fld T.cf_Standing (x_var (d := p0) 0)) (x_fld T.cf_Standing (x_var (d := p1) 1))))))))))))), hm, (F.bindsN fun _ _ _ _ _ _ us hl => match us, hl with | [_, _], _ => rfl)⟩
theorem hasL_Standing_eq {P : Program} {w : World} {K : PySem.W.Frag} {mg : Str → Option Value} {base : Heap} {cS cT cP cC : Addr} (T : Tx P w K mg base cS cT cP cC) : HasL P w K mg base cT "__eq__" 2 (SpF (ysC (tStand cS cT) (ysC (tStand cS cT) ysN)) tBool fun d => f_Standing_eq d.1 d.2.1) := by
  obtain ⟨f, fd, ps, F, hm, hb⟩ := (has_Standing_eq T).ex
  exact ⟨f, fnr_of F hb, hm.at_, hm.fn⟩
abbrev s_Standing_rshift : Stmt := mth 36 19
theorem sc_Standing_rshift : FnScope ["self", "deed", "parts", "tool"] ["self", "deed"] (defScope s_Standing_rshift) := ⟨rfl, rfl, rfl, by decide +kernel, rfl, by decide +kernel, by decide +kernel⟩
def m_Standing_rshift_d2 (p0 : StandD) (p1 : (Str × Int × Unit)) : Option (Out Unit Unit StandD) := (if ((decide (p1.2.1 < (0 : Int))) || (decide ((p0.ways.length : Int) ≤ p1.2.1))) = true then none else (if (decide (p1.1 = ("lend" : Str))) = true then none else ((f_Standing_after_return p0 p1.2.1).bind fun d3 => some (.ret d3))))
def f_Standing_rshift_d2 (p0 : StandD) (p1 : (Str × Int × Unit)) : Option StandD := retO (m_Standing_rshift_d2 p0 p1)
theorem has_Standing_rshift_d2 {P : Program} {w : World} {K : PySem.W.Frag} {mg : Str → Option Value} {base : Heap} {cS cT cP cC : Addr} (T : Tx P w K mg base cS cT cP cC) : HasM P w K mg base cT "__rshift__" 9 (SpF (ysC (tStand cS cT) (ysC (tTupN (ysC tStr (ysC tInt ysN))) ysN)) (tStand cS cT) fun d => f_Standing_rshift_d2 d.1 d.2.1) := by
  obtain ⟨f, fd, F, hm⟩ := T.m_Standing_rshift
  exact ⟨f, fd, ["self", "deed"], fnok_def (A := (ysC (tStand cS cT) (ysC (tTupN (ysC tStr (ysC tInt ysN))) ysN))) (R := (tStand cS cT)) (k := 8) (Gn := fun _ : Unit => ⟨[], mu0⟩) (Gb := fun _ : Unit => ⟨[], mu0⟩) F sc_Standing_rshift (prm_cons (prm_cons prm_nil)) rfl (m := fun d => m_Standing_rshift_d2 d.1 d.2.1) (fun cdv Ar outer s H E ⟨p0, p1, ()⟩ hr => (xs_set 2 sc_Standing_rshift.nd (x_eq (x_call (fz_d2 T) (hr.mono (by decide)) (xa_cons (x_var (d := p1) 1) xa_nil)) rfl) (xs_set 3 sc_Standing_rshift.nd (x_eq (x_nthT (nthS nth0) (x_var (d := p1) 2) x_int) rfl) (xs_ifx (XW.t (xw_eqm (xw_or (xt_lt (x_var (d := p1.2.1) 3) x_int) (fun _ => (xw_or1 (xt_ge (x_var (d := p1.2.1) 3) (x_lenT T.b_len (x_fld T.cf_Standing (x_var (d := p0) 0))))))) or_p)) (fun g1 => xs_fail) (fun g1 => (xs_ifx (xt_eqm (xt_eqs es_str (x_eq (x_nthT nth0 (x_var (d := p1) 2) x_int) rfl) x_str) rfl) (fun g2 => xs_fail) (fun g2 => (xs_let fun d3 h4 => (xs_ret (x_got h4 (x_eq (x_meth T.cf_Standing.cl (has_Standing_after_return T) (hr.mono (by decide)) (x_var (d := p0) 0) (xa_cons (x_var (d := p1.2.1) 3) xa_nil)) rfl))))))))))), hm, (F.bindsN fun _ _ _ _ _ _ us hl => match us, hl with | [_, _], _ => rfl)⟩
theorem hasL_Standing_rshift_d2 {P : Program} {w : World} {K : PySem.W.Frag} {mg : Str → Option Value} {base : Heap} {cS cT cP cC : Addr} (T : Tx P w K mg base cS cT cP cC) : HasL P w K mg base cT "__rshift__" 9 (SpF (ysC (tStand cS cT) (ysC (tTupN (ysC tStr (ysC tInt ysN))) ysN)) (tStand cS cT) fun d => f_Standing_rshift_d2 d.1 d.2.1) := by
  obtain ⟨f, fd, ps, F, hm, hb⟩ := (has_Standing_rshift_d2 T).ex
  exact ⟨f, fnr_of F hb, hm.at_, hm.fn⟩
def m_Standing_rshift_d3 (p0 : StandD) (p1 : (Str × Int × Int × Unit)) : Option (Out Unit Unit StandD) := (if ((decide (p1.2.1 < (0 : Int))) || (decide ((p0.ways.length : Int) ≤ p1.2.1))) = true then none else (if (decide (p1.1 = ("lend" : Str))) = true then ((f_Standing_after_lending p0 p1.2.1 p1.2.2.1).bind fun d3 => some (.ret d3)) else ((f_Standing_after_return p0 p1.2.1).bind fun d5 => some (.ret d5))))
def f_Standing_rshift_d3 (p0 : StandD) (p1 : (Str × Int × Int × Unit)) : Option StandD := retO (m_Standing_rshift_d3 p0 p1)
theorem has_Standing_rshift_d3 {P : Program} {w : World} {K : PySem.W.Frag} {mg : Str → Option Value} {base : Heap} {cS cT cP cC : Addr} (T : Tx P w K mg base cS cT cP cC) : HasM P w K mg base cT "__rshift__" 9 (SpF (ysC (tStand cS cT) (ysC (tTupN (ysC tStr (ysC tInt (ysC tInt ysN)))) ysN)) (tStand cS cT) fun d => f_Standing_rshift_d3 d.1 d.2.1) := by
  obtain ⟨f, fd, F, hm⟩ := T.m_Standing_rshift
  exact ⟨f, fd, ["self", "deed"], fnok_def (A := (ysC (tStand cS cT) (ysC (tTupN (ysC tStr (ysC tInt (ysC tInt ysN)))) ysN))) (R := (tStand cS cT)) (k := 8) (Gn := fun _ : Unit => ⟨[], mu0⟩) (Gb := fun _ : Unit => ⟨[], mu0⟩) F sc_Standing_rshift (prm_cons (prm_cons prm_nil)) rfl (m := fun d => m_Standing_rshift_d3 d.1 d.2.1) (fun cdv Ar outer s H E ⟨p0, p1, ()⟩ hr => (xs_set 2 sc_Standing_rshift.nd (x_eq (x_call (fz_d3 T) (hr.mono (by decide)) (xa_cons (x_var (d := p1) 1) xa_nil)) rfl) (xs_set 3 sc_Standing_rshift.nd (x_eq (x_nthT (nthS nth0) (x_var (d := p1) 2) x_int) rfl) (xs_ifx (XW.t (xw_eqm (xw_or (xt_lt (x_var (d := p1.2.1) 3) x_int) (fun _ => (xw_or1 (xt_ge (x_var (d := p1.2.1) 3) (x_lenT T.b_len (x_fld T.cf_Standing (x_var (d := p0) 0))))))) or_p)) (fun g1 => xs_fail) (fun g1 => (xs_ifx (xt_eqm (xt_eqs es_str (x_eq (x_nthT nth0 (x_var (d := p1) 2) x_int) rfl) x_str) rfl) (fun g2 => (xs_let fun d3 h4 => (xs_ret (x_got h4 (x_eq (x_meth T.cf_Standing.cl (has_Standing_after_lending T) (hr.mono (by decide)) (x_var (d := p0) 0) (xa_cons (x_var (d := p1.2.1) 3) (xa_cons (x_eq (x_nthT (nthS (nthS nth0)) (x_var (d := p1) 2) x_int) rfl) xa_nil))) rfl))))) (fun g2 => (xs_let fun d5 h6 => (xs_ret (x_got h6 (x_eq (x_meth T.cf_Standing.cl (has_Standing_after_return T) (hr.mono (by decide)) (x_var (d := p0) 0) (xa_cons (x_var (d := p1.2.1) 3) xa_nil)) rfl))))))))))), hm, (F.bindsN fun _ _ _ _ _ _ us hl => match us, hl with | [_, _], _ => rfl)⟩
theorem hasL_Standing_rshift_d3 {P : Program} {w : World} {K : PySem.W.Frag} {mg : Str → Option Value} {base : Heap} {cS cT cP cC : Addr} (T : Tx P w K mg base cS cT cP cC) : HasL P w K mg base cT "__rshift__" 9 (SpF (ysC (tStand cS cT) (ysC (tTupN (ysC tStr (ysC tInt (ysC tInt ysN)))) ysN)) (tStand cS cT) fun d => f_Standing_rshift_d3 d.1 d.2.1) := by
  obtain ⟨f, fd, ps, F, hm, hb⟩ := (has_Standing_rshift_d3 T).ex
  exact ⟨f, fnr_of F hb, hm.at_, hm.fn⟩
abbrev s_after : Stmt := top 20
theorem sc_after : FnScope ["standing", "deed"] ["standing", "deed"] (defScope s_after) := ⟨rfl, rfl, rfl, by decide +kernel, rfl, by decide +kernel, by decide +kernel⟩
def m_after_d2 (p0 : StandD) (p1 : (Str × Int × Unit)) : Option (Out Unit Unit StandD) := ((f_Standing_rshift_d2 p0 p1).bind fun d1 => some (.ret d1))
def f_after_d2 (p0 : StandD) (p1 : (Str × Int × Unit)) : Option StandD := retO (m_after_d2 p0 p1)
theorem has_after_d2 {P : Program} {w : World} {K : PySem.W.Frag} {mg : Str → Option Value} {base : Heap} {cS cT cP cC : Addr} (T : Tx P w K mg base cS cT cP cC) : Has P w K mg base "after" 10 (SpF (ysC (tStand cS cT) (ysC (tTupN (ysC tStr (ysC tInt ysN))) ysN)) (tStand cS cT) fun d => f_after_d2 d.1 d.2.1) := by
  obtain ⟨f, fd, F, hm⟩ := T.d_after
  exact has_def (A := (ysC (tStand cS cT) (ysC (tTupN (ysC tStr (ysC tInt ysN))) ysN))) (R := (tStand cS cT)) (k := 9) (Gn := fun _ : Unit => ⟨[], mu0⟩) (Gb := fun _ : Unit => ⟨[], mu0⟩) F hm sc_after (prm_cons (prm_cons prm_nil)) rfl (F.bindsN fun _ _ _ _ _ _ us hl => match us, hl with | [_, _], _ => rfl)
    (m := fun d => m_after_d2 d.1 d.2.1) (fun cdv Ar outer s H E ⟨p0, p1, ()⟩ hr => (xs_let fun d1 h2 => (xs_ret (x_got h2 (x_eq (x_shr T.shr ((hasL_Standing_rshift_d2 T)) (hr.mono (by decide)) (x_var (d := p0) 0) (x_var (d := p1) 1)) rfl)))))
def m_after_d3 (p0 : StandD) (p1 : (Str × Int × Int × Unit)) : Option (Out Unit Unit StandD) := ((f_Standing_rshift_d3 p0 p1).bind fun d1 => some (.ret d1))
def f_after_d3 (p0 : StandD) (p1 : (Str × Int × Int × Unit)) : Option StandD := retO (m_after_d3 p0 p1)
theorem has_after_d3 {P : Program} {w : World} {K : PySem.W.Frag} {mg : Str → Option Value} {base : Heap} {cS cT cP cC : Addr} (T : Tx P w K mg base cS cT cP cC) : Has P w K mg base "after" 10 (SpF (ysC (tStand cS cT) (ysC (tTupN (ysC tStr (ysC tInt (ysC tInt ysN)))) ysN)) (tStand cS cT) fun d => f_after_d3 d.1 d.2.1) := by
  obtain ⟨f, fd, F, hm⟩ := T.d_after
  exact has_def (A := (ysC (tStand cS cT) (ysC (tTupN (ysC tStr (ysC tInt (ysC tInt ysN)))) ysN))) (R := (tStand cS cT)) (k := 9) (Gn := fun _ : Unit => ⟨[], mu0⟩) (Gb := fun _ : Unit => ⟨[], mu0⟩) F hm sc_after (prm_cons (prm_cons prm_nil)) rfl (F.bindsN fun _ _ _ _ _ _ us hl => match us, hl with | [_, _], _ => rfl)
    (m := fun d => m_after_d3 d.1 d.2.1) (fun cdv Ar outer s H E ⟨p0, p1, ()⟩ hr => (xs_let fun d1 h2 => (xs_ret (x_got h2 (x_eq (x_shr T.shr ((hasL_Standing_rshift_d3 T)) (hr.mono (by decide)) (x_var (d := p0) 0) (x_var (d := p1) 1)) rfl)))))
abbrev s_row_step : Stmt := top 22
theorem sc_row_step : FnScope ["standing", "deed", "index"] ["standing", "deed", "index"] (defScope s_row_step) := ⟨rfl, rfl, rfl, by decide +kernel, rfl, by decide +kernel, by decide +kernel⟩
def m_row_step_d2 (p0 : StandD) (p1 : (Str × Int × Unit)) (p2 : Int) : Option (Out Unit Unit StandD) := (thenO ((f_after_d2 p0 p1).bind fun d1 => some (.ret d1)) fun _ : Unit => none)
def f_row_step_d2 (p0 : StandD) (p1 : (Str × Int × Unit)) (p2 : Int) : Option StandD := retO (m_row_step_d2 p0 p1 p2)
theorem has_row_step_d2 {P : Program} {w : World} {K : PySem.W.Frag} {mg : Str → Option Value} {base : Heap} {cS cT cP cC : Addr} (T : Tx P w K mg base cS cT cP cC) : Has P w K mg base "row_step" 11 (SpF (ysC (tStand cS cT) (ysC (tTupN (ysC tStr (ysC tInt ysN))) (ysC tInt ysN))) (tStand cS cT) fun d => f_row_step_d2 d.1 d.2.1 d.2.2.1) := by
  obtain ⟨f, fd, F, hm⟩ := T.d_row_step
  exact has_def (A := (ysC (tStand cS cT) (ysC (tTupN (ysC tStr (ysC tInt ysN))) (ysC tInt ysN)))) (R := (tStand cS cT)) (k := 10) (Gn := fun _ : Unit => ⟨[], mu0⟩) (Gb := fun _ : Unit => ⟨[], mu0⟩) F hm sc_row_step (prm_cons (prm_cons (prm_cons prm_nil))) rfl (F.bindsN fun _ _ _ _ _ _ us hl => match us, hl with | [_, _, _], _ => rfl)
    (m := fun d => m_row_step_d2 d.1 d.2.1 d.2.2.1) (fun cdv Ar outer s H E ⟨p0, p1, p2, ()⟩ hr => (xs_seq (G1 := gF (S := Unit) []) (xs_try (xs_let fun d1 h2 => (xs_ret (x_got h2 (x_eq (x_call (has_after_d2 T) (hr.mono (by decide)) (xa_cons (x_var (d := p0) 0) (xa_cons (x_var (d := p1) 1) xa_nil))) rfl))))) (fun _ => xs_fail)))
def m_row_step_d3 (p0 : StandD) (p1 : (Str × Int × Int × Unit)) (p2 : Int) : Option (Out Unit Unit StandD) := (thenO ((f_after_d3 p0 p1).bind fun d1 => some (.ret d1)) fun _ : Unit => none)
def f_row_step_d3 (p0 : StandD) (p1 : (Str × Int × Int × Unit)) (p2 : Int) : Option StandD := retO (m_row_step_d3 p0 p1 p2)
theorem has_row_step_d3 {P : Program} {w : World} {K : PySem.W.Frag} {mg : Str → Option Value} {base : Heap} {cS cT cP cC : Addr} (T : Tx P w K mg base cS cT cP cC) : Has P w K mg base "row_step" 11 (SpF (ysC (tStand cS cT) (ysC (tTupN (ysC tStr (ysC tInt (ysC tInt ysN)))) (ysC tInt ysN))) (tStand cS cT) fun d => f_row_step_d3 d.1 d.2.1 d.2.2.1) := by
  obtain ⟨f, fd, F, hm⟩ := T.d_row_step
  exact has_def (A := (ysC (tStand cS cT) (ysC (tTupN (ysC tStr (ysC tInt (ysC tInt ysN)))) (ysC tInt ysN)))) (R := (tStand cS cT)) (k := 10) (Gn := fun _ : Unit => ⟨[], mu0⟩) (Gb := fun _ : Unit => ⟨[], mu0⟩) F hm sc_row_step (prm_cons (prm_cons (prm_cons prm_nil))) rfl (F.bindsN fun _ _ _ _ _ _ us hl => match us, hl with | [_, _, _], _ => rfl)
    (m := fun d => m_row_step_d3 d.1 d.2.1 d.2.2.1) (fun cdv Ar outer s H E ⟨p0, p1, p2, ()⟩ hr => (xs_seq (G1 := gF (S := Unit) []) (xs_try (xs_let fun d1 h2 => (xs_ret (x_got h2 (x_eq (x_call (has_after_d3 T) (hr.mono (by decide)) (xa_cons (x_var (d := p0) 0) (xa_cons (x_var (d := p1) 1) xa_nil))) rfl))))) (fun _ => xs_fail)))
abbrev s_run : Stmt := top 23
theorem sc_run : FnScope ["standing", "row", "current", "index", "deed"] ["standing", "row"] (defScope s_run) := ⟨rfl, rfl, rfl, by decide +kernel, rfl, by decide +kernel, by decide +kernel⟩
def m_run (p0 : StandD) (p1 : (List (Str × Int × Int × Unit))) : Option (Out Unit Unit StandD) := (thenO (forO (fun (x2 : (Int × (Str × Int × Int × Unit) × Unit)) (s1 : StandD) => ((f_row_step_d3 s1 x2.2.1 x2.1).bind fun d3 => some (.nx d3))) (enumL p1) p0) fun s1 : StandD => some (.ret s1))
def f_run (p0 : StandD) (p1 : (List (Str × Int × Int × Unit))) : Option StandD := retO (m_run p0 p1)
theorem has_run {P : Program} {w : World} {K : PySem.W.Frag} {mg : Str → Option Value} {base : Heap} {cS cT cP cC : Addr} (T : Tx P w K mg base cS cT cP cC) : Has P w K mg base "run" 12 (SpF (ysC (tStand cS cT) (ysC (tTup (tTupN (ysC tStr (ysC tInt (ysC tInt ysN))))) ysN)) (tStand cS cT) fun d => f_run d.1 d.2.1) := by
  obtain ⟨f, fd, F, hm⟩ := T.d_run
  exact has_def (A := (ysC (tStand cS cT) (ysC (tTup (tTupN (ysC tStr (ysC tInt (ysC tInt ysN))))) ysN))) (R := (tStand cS cT)) (k := 11) (Gn := fun _ : Unit => ⟨[], mu0⟩) (Gb := fun _ : Unit => ⟨[], mu0⟩) F hm sc_run (prm_cons (prm_cons prm_nil)) rfl (F.bindsN fun _ _ _ _ _ _ us hl => match us, hl with | [_, _], _ => rfl)
    (m := fun d => m_run d.1 d.2.1) (fun cdv Ar outer s H E ⟨p0, p1, ()⟩ hr => (xs_set 2 sc_run.nd (x_var (d := p0) 0) (xs_seq (G1 := (fun s1 : StandD => (⟨[.val (tStand cS cT) p0, .val (tTup (tTupN (ysC tStr (ysC tInt (ysC tInt ysN))))) p1, .val (tStand cS cT) s1, .non, .non], mu0⟩ : Cn))) (xs_for (Gl := (fun s1 : StandD => (⟨[.val (tStand cS cT) p0, .val (tTup (tTupN (ysC tStr (ysC tInt (ysC tInt ysN))))) p1, .val (tStand cS cT) s1, .non, .non], mu0⟩ : Cn))) p0 (xi_enumT T.b_enumerate (x_eq (x_call (fz_tD3 T) (hr.mono (by decide)) (xa_cons (x_var (d := p1) 1) xa_nil)) rfl)) (xg_tup (xgs_cons (xg_name 3 sc_run.nd) (xgs_cons (xg_name 4 sc_run.nd) xgs_nil))) (wk_of (.same (.same (.same (.non (.non .nil)))))) (fun _ => rfl) (fun x2 s1 => (xs_let fun d3 h4 => (xs_set 2 sc_run.nd (x_got h4 (x_eq (x_call (has_row_step_d3 T) (hr.mono (by decide)) (xa_cons (x_var (d := s1) 2) (xa_cons (x_var (d := x2.2.1) 4) (xa_cons (x_var (d := x2.1) 3) xa_nil)))) rfl)) (xs_nil d3 (wk_of (.same (.same (.same (.non (.non .nil))))))))))) (fun s1 => (xs_ret (x_var (d := s1) 2))))))
abbrev s_return_deeds : Stmt := top 24
theorem sc_return_deeds : FnScope ["tools", "tool"] ["tools"] (defScope s_return_deeds) := ⟨rfl, rfl, rfl, by decide +kernel, rfl, by decide +kernel, by decide +kernel⟩
def m_return_deeds (p0 : (List Int)) : Option (Out Unit Unit (List (Str × Int × Unit))) := some (.ret (p0.map fun (x1 : Int) => (("back" : Str), x1, ())))
def f_return_deeds (p0 : (List Int)) : Option (List (Str × Int × Unit)) := retO (m_return_deeds p0)
theorem has_return_deeds {P : Program} {w : World} {K : PySem.W.Frag} {mg : Str → Option Value} {base : Heap} {cS cT cP cC : Addr} (T : Tx P w K mg base cS cT cP cC) : Has P w K mg base "return_deeds" 3 (SpF (ysC (tTup tInt) ysN) (tTup (tTupN (ysC tStr (ysC tInt ysN)))) fun d => f_return_deeds d.1) := by
  obtain ⟨f, fd, F, hm⟩ := T.d_return_deeds
  exact has_def (A := (ysC (tTup tInt) ysN)) (R := (tTup (tTupN (ysC tStr (ysC tInt ysN))))) (k := 2) (Gn := fun _ : Unit => ⟨[], mu0⟩) (Gb := fun _ : Unit => ⟨[], mu0⟩) F hm sc_return_deeds (prm_cons prm_nil) rfl (F.bindsN fun _ _ _ _ _ _ us hl => match us, hl with | [_], _ => rfl)
    (m := fun d => m_return_deeds d.1) (fun cdv Ar outer s H E ⟨p0, ()⟩ hr => (xs_ret (x_tuple T.b_tuple (x_eq (x_lc [("tool", 1)] sc_return_deeds.nd (xi_tup (x_eq (x_call (fz_tI T) (hr.mono (by decide)) (xa_cons (x_var (d := p0) 0) xa_nil)) rfl)) (fun _ _ _ _ _ => (xg_name 1 sc_return_deeds.nd)) xf_no (fun _ _ _ _ _ x1 => (x_tupN (xa_cons x_str (xa_cons (x_var (d := x1) 1) xa_nil))))) (lcM_map _ _)))))
abbrev s_lending_deeds : Stmt := top 25
theorem sc_lending_deeds : FnScope ["pairs", "tool", "house"] ["pairs"] (defScope s_lending_deeds) := ⟨rfl, rfl, rfl, by decide +kernel, rfl, by decide +kernel, by decide +kernel⟩
def m_lending_deeds (p0 : (List (Int × Int × Unit))) : Option (Out Unit Unit (List (Str × Int × Int × Unit))) := some (.ret (p0.map fun (x1 : (Int × Int × Unit)) => (("lend" : Str), x1.1, x1.2.1, ())))
def f_lending_deeds (p0 : (List (Int × Int × Unit))) : Option (List (Str × Int × Int × Unit)) := retO (m_lending_deeds p0)
theorem has_lending_deeds {P : Program} {w : World} {K : PySem.W.Frag} {mg : Str → Option Value} {base : Heap} {cS cT cP cC : Addr} (T : Tx P w K mg base cS cT cP cC) : Has P w K mg base "lending_deeds" 4 (SpF (ysC (tTup P2T) ysN) (tTup (tTupN (ysC tStr (ysC tInt (ysC tInt ysN))))) fun d => f_lending_deeds d.1) := by
  obtain ⟨f, fd, F, hm⟩ := T.d_lending_deeds
  exact has_def (A := (ysC (tTup P2T) ysN)) (R := (tTup (tTupN (ysC tStr (ysC tInt (ysC tInt ysN)))))) (k := 3) (Gn := fun _ : Unit => ⟨[], mu0⟩) (Gb := fun _ : Unit => ⟨[], mu0⟩) F hm sc_lending_deeds (prm_cons prm_nil) rfl (F.bindsN fun _ _ _ _ _ _ us hl => match us, hl with | [_], _ => rfl)
    (m := fun d => m_lending_deeds d.1) (fun cdv Ar outer s H E ⟨p0, ()⟩ hr => (xs_ret (x_tuple T.b_tuple (x_eq (x_lc [("tool", 1), ("house", 2)] sc_lending_deeds.nd (xi_tup (x_eq (x_call (fz_tP T) (hr.mono (by decide)) (xa_cons (x_var (d := p0) 0) xa_nil)) rfl)) (fun _ _ _ _ _ => (xg_tup (xgs_cons (xg_name 1 sc_lending_deeds.nd) (xgs_cons (xg_name 2 sc_lending_deeds.nd) xgs_nil)))) xf_no (fun _ _ _ _ _ x1 => (x_tupN (xa_cons x_str (xa_cons (x_var (d := x1.1) 1) (xa_cons (x_var (d := x1.2.1) 2) xa_nil)))))) (lcM_map _ _)))))
abbrev s_mirror : Stmt := top 26
theorem sc_mirror : FnScope ["standing", "tools", "pairs", "current", "index", "deed", "following"] ["standing", "tools"] (defScope s_mirror) := ⟨rfl, rfl, rfl, by decide +kernel, rfl, by decide +kernel, by decide +kernel⟩
def m_mirror (p0 : StandD) (p1 : (List Int)) : Option (Out Unit Unit (List (Int × Int × Unit))) := ((f_return_deeds p1).bind fun d1 => (thenO (forO (fun (x4 : (Int × (Str × Int × Unit) × Unit)) (s3 : (StandD × (List (Int × Int × Unit)))) => ((f_row_step_d2 s3.1 x4.2.1 x4.1).bind fun d5 => ((f_Standing_holder s3.1 x4.2.1.2.1).bind fun d7 => ((appO s3.2 (x4.2.1.2.1, d7, ())).bind fun d9 => some (.nx (d5, d9)))))) (enumL d1) (p0, ([] : (List (Int × Int × Unit))))) fun s3 : (StandD × (List (Int × Int × Unit))) => some (.ret (s3.2.reverse))))
def f_mirror (p0 : StandD) (p1 : (List Int)) : Option (List (Int × Int × Unit)) := retO (m_mirror p0 p1)
theorem has_mirror {P : Program} {w : World} {K : PySem.W.Frag} {mg : Str → Option Value} {base : Heap} {cS cT cP cC : Addr} (T : Tx P w K mg base cS cT cP cC) : Has P w K mg base "mirror" 12 (SpF (ysC (tStand cS cT) (ysC (tTup tInt) ysN)) (tTup P2T) fun d => f_mirror d.1 d.2.1) := by
  obtain ⟨f, fd, F, hm⟩ := T.d_mirror
  exact has_def (A := (ysC (tStand cS cT) (ysC (tTup tInt) ysN))) (R := (tTup P2T)) (k := 11) (Gn := fun _ : Unit => ⟨[], mu0⟩) (Gb := fun _ : Unit => ⟨[], mu0⟩) F hm sc_mirror (prm_cons (prm_cons prm_nil)) rfl (F.bindsN fun _ _ _ _ _ _ us hl => match us, hl with | [_, _], _ => rfl)
    (m := fun d => m_mirror d.1 d.2.1) (fun cdv Ar outer s H E ⟨p0, p1, ()⟩ hr => (xs_new 2 sc_mirror.nd rfl (xf_lst xa_hn) (xs_set 3 sc_mirror.nd (x_var (d := p0) 0) (xs_let fun d1 h2 => (xs_seq (G1 := (fun s3 : (StandD × (List (Int × Int × Unit))) => (⟨[.val (tStand cS cT) p0, .val (tTup tInt) p1, .non, .val (tStand cS cT) s3.1, .non, .non, .non], (muL 2 P2T s3.2)⟩ : Cn))) (xs_for (Gl := (fun s3 : (StandD × (List (Int × Int × Unit))) => (⟨[.val (tStand cS cT) p0, .val (tTup tInt) p1, .non, .val (tStand cS cT) s3.1, .non, .non, .non], (muL 2 P2T s3.2)⟩ : Cn))) (p0, ([] : (List (Int × Int × Unit)))) (xi_enumT T.b_enumerate (x_got h2 (x_eq (x_call (has_return_deeds T) (hr.mono (by decide)) (xa_cons (x_var (d := p1) 1) xa_nil)) rfl))) (xg_tup (xgs_cons (xg_name 4 sc_mirror.nd) (xgs_cons (xg_name 5 sc_mirror.nd) xgs_nil))) (wk_of (.same (.same (.non (.same (.non (.non (.non .nil)))))))) (fun _ => rfl) (fun x4 s3 => (xs_let fun d5 h6 => (xs_set 6 sc_mirror.nd (x_got h6 (x_eq (x_call (has_row_step_d2 T) (hr.mono (by decide)) (xa_cons (x_var (d := s3.1) 3) (xa_cons (x_var (d := x4.2.1) 5) (xa_cons (x_var (d := x4.1) 4) xa_nil)))) rfl)) (xs_let fun d7 h8 => (xs_let fun d9 h10 => (xs_appL (x_tupN (xa_cons (x_eq (x_nthT (nthS nth0) (x_var (d := x4.2.1) 5) x_int) rfl) (xa_cons (x_got h8 (x_eq (x_meth T.cf_Standing.cl (has_Standing_holder T) (hr.mono (by decide)) (x_var (d := s3.1) 3) (xa_cons (x_eq (x_nthT (nthS nth0) (x_var (d := x4.2.1) 5) x_int) rfl) xa_nil)) rfl)) xa_nil))) h10 (xs_set 3 sc_mirror.nd (x_var (d := d5) 6) (xs_nil (d5, d9) (wk_of (.same (.same (.non (.same (.non (.non (.non .nil))))))))))))))))) (fun s3 => (xs_hold (xs_ret (x_tuple T.b_tuple (x_rev (x_var (d := s3.2) 2)))))))))))
end Pg
set_option Elab.async false
set_option linter.all false
set_option maxRecDepth 100000
set_option maxHeartbeats 1000000
namespace Pg
open PySem PySem.Spec PyProof.Rows L2
abbrev s_home_stage : Stmt := top 38
theorem sc_home_stage : FnScope ["standing", "way"] ["standing"] (defScope s_home_stage) := ⟨rfl, rfl, rfl, by decide +kernel, rfl, by decide +kernel, by decide +kernel⟩
def m_home_stage (p0 : StandD) : Option (Out Unit Unit (List Int)) := some (.ret (p0.ways.map fun (x1 : (List Int)) => (1 : Int)))
def f_home_stage (p0 : StandD) : Option (List Int) := retO (m_home_stage p0)
theorem has_home_stage {P : Program} {w : World} {K : PySem.W.Frag} {mg : Str → Option Value} {base : Heap} {cS cT cP cC : Addr} (T : Tx P w K mg base cS cT cP cC) : Has P w K mg base "home_stage" 1 (SpF (ysC (tStand cS cT) ysN) (tTup tInt) fun d => f_home_stage d.1) := by
  obtain ⟨f, fd, F, hm⟩ := T.d_home_stage
  exact has_def (A := (ysC (tStand cS cT) ysN)) (R := (tTup tInt)) (k := 0) (Gn := fun _ : Unit => ⟨[], mu0⟩) (Gb := fun _ : Unit => ⟨[], mu0⟩) F hm sc_home_stage (prm_cons prm_nil) rfl (F.bindsN fun _ _ _ _ _ _ us hl => match us, hl with | [_], _ => rfl)
    (m := fun d => m_home_stage d.1) (fun cdv Ar outer s H E ⟨p0, ()⟩ hr => (xs_ret (x_tuple T.b_tuple (x_eq (x_lc [("way", 1)] sc_home_stage.nd (xi_tup (x_fld T.cf_Standing (x_var (d := p0) 0))) (fun _ _ _ _ _ => (xg_name 1 sc_home_stage.nd)) xf_no (fun _ _ _ _ _ x1 => x_int)) (lcM_map _ _)))))
abbrev s_stays_held : Stmt := top 40
theorem sc_stays_held : FnScope ["tools", "wants", "settled", "houses", "tool"] ["tools", "wants", "settled", "houses"] (defScope s_stays_held) := ⟨rfl, rfl, rfl, by decide +kernel, rfl, by decide +kernel, by decide +kernel⟩
def m_stays_held (p0 : (List Int)) (p1 : (List (Option Int))) (p2 : (List Bool)) (p3 : (List Int)) : Option (Out Unit Unit Bool) := (thenO (forO (fun (x2 : Int) (s1 : Unit) => ((atI p2 x2).bind fun d3 => ((if (!d3) = true then ((atI p1 x2).bind fun d5 => some (!p3.any (fun y => decide (d5 = some y)))) else some false).bind fun d7 => (if d7 = true then some (.ret false) else some (.nx ()))))) p0 ()) fun s1 : Unit => some (.ret true))
def f_stays_held (p0 : (List Int)) (p1 : (List (Option Int))) (p2 : (List Bool)) (p3 : (List Int)) : Option Bool := retO (m_stays_held p0 p1 p2 p3)
theorem has_stays_held {P : Program} {w : World} {K : PySem.W.Frag} {mg : Str → Option Value} {base : Heap} {cS cT cP cC : Addr} (T : Tx P w K mg base cS cT cP cC) : Has P w K mg base "stays_held" 1 (SpF (ysC (tTup tInt) (ysC (tTup (tOpt tInt)) (ysC (tTup tBool) (ysC (tLst tInt) ysN)))) tBool fun d => f_stays_held d.1 d.2.1 d.2.2.1 d.2.2.2.1) := by
  obtain ⟨f, fd, F, hm⟩ := T.d_stays_held
  exact has_def (A := (ysC (tTup tInt) (ysC (tTup (tOpt tInt)) (ysC (tTup tBool) (ysC (tLst tInt) ysN))))) (R := tBool) (k := 0) (Gn := fun _ : Unit => ⟨[], mu0⟩) (Gb := fun _ : Unit => ⟨[], mu0⟩) F hm sc_stays_held (prm_cons (prm_cons (prm_cons (prm_cons prm_nil)))) rfl (F.bindsN fun _ _ _ _ _ _ us hl => match us, hl with | [_, _, _, _], _ => rfl)
    (m := fun d => m_stays_held d.1 d.2.1 d.2.2.1 d.2.2.2.1) (fun cdv Ar outer s H E ⟨p0, p1, p2, p3, ()⟩ hr => (xs_seq (G1 := (fun s1 : Unit => (⟨[.val (tTup tInt) p0, .val (tTup (tOpt tInt)) p1, .val (tTup tBool) p2, .val (tLst tInt) p3, .non], mu0⟩ : Cn))) (xs_for (Gl := (fun s1 : Unit => (⟨[.val (tTup tInt) p0, .val (tTup (tOpt tInt)) p1, .val (tTup tBool) p2, .val (tLst tInt) p3, .non], mu0⟩ : Cn))) () (xi_tup (x_var (d := p0) 0)) (xg_name 4 sc_stays_held.nd) (wk_of (.same (.same (.same (.same (.non .nil)))))) (fun _ => rfl) (fun x2 s1 => (xs_let fun d3 h4 => (xs_let fun d7 h8 => (xs_ifx (xt_got h8 (XW.t (xw_and (xt_not (xt_val (x_got h4 (x_ixT (x_var (d := p2) 2) (x_var (d := x2) 4))))) (fun _ => (xw_let fun d5 h6 => (xw_and1 (xt_eqm (xt_niL fe_oi (x_got h6 (x_ixT (x_var (d := p1) 1) (x_var (d := x2) 4))) (x_var (d := p3) 3)) rfl))))))) (fun g9 => (xs_ret x_bl)) (fun g9 => (xs_nil () (wk_of (.same (.same (.same (.same (.non .nil))))))))))))) (fun s1 => (xs_ret x_bl))))
abbrev s_held_houses : Stmt := top 41
theorem sc_held_houses : FnScope ["full", "hung", "wants", "settled", "held", "house", "kept"] ["full", "hung", "wants", "settled"] (defScope s_held_houses) := ⟨rfl, rfl, rfl, by decide +kernel, rfl, by decide +kernel, by decide +kernel⟩
def m_held_houses (p0 : (List Bool)) (p1 : (List (List Int))) (p2 : (List (Option Int))) (p3 : (List Bool)) : Option (Out Unit Unit (List Int)) := ((rngO 0 (p0.length : Int)).bind fun d1 => ((filO (fun (x3 : Int) => ((atI p0 x3).bind fun d4 => some d4)) d1).bind fun d6 => ((filO (fun (x8 : Int) => ((atI p1 x8).bind fun d9 => ((f_stays_held d9 p2 p3 d6).bind fun d11 => some d11))) d6).bind fun d13 => (thenO (whlO (fun s15 : ((List Int) × (List Int)) => some (decide ((s15.2.length : Int) < (s15.1.length : Int)))) (fun s15 : ((List Int) × (List Int)) => ((filO (fun (x16 : Int) => ((atI p1 x16).bind fun d17 => ((f_stays_held d17 p2 p3 s15.2).bind fun d19 => some d19))) s15.2).bind fun d21 => some (.nx (s15.2, d21)))) 100 (d6, d13)) fun s15 : ((List Int) × (List Int)) => some (.ret s15.1)))))
def f_held_houses (p0 : (List Bool)) (p1 : (List (List Int))) (p2 : (List (Option Int))) (p3 : (List Bool)) : Option (List Int) := retO (m_held_houses p0 p1 p2 p3)
theorem has_held_houses {P : Program} {w : World} {K : PySem.W.Frag} {mg : Str → Option Value} {base : Heap} {cS cT cP cC : Addr} (T : Tx P w K mg base cS cT cP cC) : Has P w K mg base "held_houses" 2 (SpF (ysC (tLst tBool) (ysC (tTup (tTup tInt)) (ysC (tTup (tOpt tInt)) (ysC (tTup tBool) ysN)))) (tTup tInt) fun d => f_held_houses d.1 d.2.1 d.2.2.1 d.2.2.2.1) := by
  obtain ⟨f, fd, F, hm⟩ := T.d_held_houses
  exact has_def (A := (ysC (tLst tBool) (ysC (tTup (tTup tInt)) (ysC (tTup (tOpt tInt)) (ysC (tTup tBool) ysN))))) (R := (tTup tInt)) (k := 1) (Gn := fun _ : Unit => ⟨[], mu0⟩) (Gb := fun _ : Unit => ⟨[], mu0⟩) F hm sc_held_houses (prm_cons (prm_cons (prm_cons (prm_cons prm_nil)))) rfl (F.bindsN fun _ _ _ _ _ _ us hl => match us, hl with | [_, _, _, _], _ => rfl)
    (m := fun d => m_held_houses d.1 d.2.1 d.2.2.1 d.2.2.2.1) (fun cdv Ar outer s H E ⟨p0, p1, p2, p3, ()⟩ hr => (xs_let fun d1 h2 => (xs_let fun d6 h7 => (xs_set 4 sc_held_houses.nd (x_got h7 (x_eq (x_lc [("house", 5)] sc_held_houses.nd (xi_rng1 T.b_range (x_lenL T.b_len (x_var (d := p0) 0)) h2) (fun _ _ _ _ _ => (xg_name 5 sc_held_houses.nd)) (xf_one fun _ _ _ _ _ x3 => (xt_let fun d4 h5 => (xt_val (x_got h5 (x_ixL (x_var (d := p0) 0) (x_var (d := x3) 5)))))) (fun _ _ _ _ _ x3 => (x_var (d := x3) 5))) (lcM_filOi _ _))) (xs_let fun d13 h14 => (xs_lc (ys := (d13 : (List Int))) 6 [("house", 5)] sc_held_houses.nd (xi_list (x_var (d := d6) 4)) (fun _ _ _ _ _ => (xg_name 5 sc_held_houses.nd)) (xf_one fun _ _ _ _ _ x8 => (xt_let fun d9 h10 => (xt_let fun d11 h12 => (xt_val (x_got h12 (x_eq (x_call (has_stays_held T) (hr.mono (by decide)) (xa_cons (x_got h10 (x_ixT (x_var (d := p1) 1) (x_var (d := x8) 5))) (xa_cons (x_var (d := p2) 2) (xa_cons (x_var (d := p3) 3) (xa_cons (x_var (d := d6) 4) xa_nil))))) rfl)))))) (fun _ _ _ _ _ x8 => (x_var (d := x8) 5)) (((lcM_filOi _ _)).trans h14) (xs_seq (G1 := (fun s15 : ((List Int) × (List Int)) => (⟨[.val (tLst tBool) p0, .val (tTup (tTup tInt)) p1, .val (tTup (tOpt tInt)) p2, .val (tTup tBool) p3, .val (tLst tInt) s15.1, .non, .val (tLst tInt) s15.2], mu0⟩ : Cn))) (xs_while (Gl := (fun s15 : ((List Int) × (List Int)) => (⟨[.val (tLst tBool) p0, .val (tTup (tTup tInt)) p1, .val (tTup (tOpt tInt)) p2, .val (tTup tBool) p3, .val (tLst tInt) s15.1, .non, .val (tLst tInt) s15.2], mu0⟩ : Cn))) 100 (d6, d13) (wk_of (.same (.same (.same (.same (.same (.non (.same .nil)))))))) (fun s15 => (xt_lt (x_lenL T.b_len (x_var (d := s15.2) 6)) (x_lenL T.b_len (x_var (d := s15.1) 4)))) (fun s15 => (xs_set 4 sc_held_houses.nd (x_var (d := s15.2) 6) (xs_let fun d21 h22 => (xs_lc (ys := (d21 : (List Int))) 6 [("house", 5)] sc_held_houses.nd (xi_list (x_var (d := s15.2) 4)) (fun _ _ _ _ _ => (xg_name 5 sc_held_houses.nd)) (xf_one fun _ _ _ _ _ x16 => (xt_let fun d17 h18 => (xt_let fun d19 h20 => (xt_val (x_got h20 (x_eq (x_call (has_stays_held T) (hr.mono (by decide)) (xa_cons (x_got h18 (x_ixT (x_var (d := p1) 1) (x_var (d := x16) 5))) (xa_cons (x_var (d := p2) 2) (xa_cons (x_var (d := p3) 3) (xa_cons (x_var (d := s15.2) 4) xa_nil))))) rfl)))))) (fun _ _ _ _ _ x16 => (x_var (d := x16) 5)) (((lcM_filOi _ _)).trans h22) (xs_nil (s15.2, d21) (wk_of (.same (.same (.same (.same (.same (.non (.same .nil)))))))))))))) (fun s15 => (xs_ret (x_tuple T.b_tuple (x_var (d := s15.1) 4)))))))))))
abbrev s_end_loads : Stmt := top 43
theorem sc_end_loads : FnScope ["standing", "goal", "loads", "way", "number"] ["standing", "goal"] (defScope s_end_loads) := ⟨rfl, rfl, rfl, by decide +kernel, rfl, by decide +kernel, by decide +kernel⟩
def m_end_loads (p0 : StandD) (p1 : (List Int)) : Option (Out Unit Unit (List Int)) := ((f_Street_houses p0.street).bind fun d1 => ((repO [(0 : Int)] d1).bind fun d3 => (thenO (forO (fun (x6 : ((List Int) × Int × Unit)) (s5 : Unit) => (if (decide ((1 : Int) < x6.2.1)) = true then none else some (.nx ()))) (zipL p0.ways p1) ()) fun s5 : Unit => some (.ret d3))))
def f_end_loads (p0 : StandD) (p1 : (List Int)) : Option (List Int) := retO (m_end_loads p0 p1)
theorem has_end_loads {P : Program} {w : World} {K : PySem.W.Frag} {mg : Str → Option Value} {base : Heap} {cS cT cP cC : Addr} (T : Tx P w K mg base cS cT cP cC) : Has P w K mg base "end_loads" 3 (SpF (ysC (tStand cS cT) (ysC (tTup tInt) ysN)) (tTup tInt) fun d => f_end_loads d.1 d.2.1) := by
  obtain ⟨f, fd, F, hm⟩ := T.d_end_loads
  exact has_def (A := (ysC (tStand cS cT) (ysC (tTup tInt) ysN))) (R := (tTup tInt)) (k := 2) (Gn := fun _ : Unit => ⟨[], mu0⟩) (Gb := fun _ : Unit => ⟨[], mu0⟩) F hm sc_end_loads (prm_cons (prm_cons prm_nil)) rfl (F.bindsN fun _ _ _ _ _ _ us hl => match us, hl with | [_, _], _ => rfl)
    (m := fun d => m_end_loads d.1 d.2.1) (fun cdv Ar outer s H E ⟨p0, p1, ()⟩ hr => (xs_let fun d1 h2 => (xs_let fun d3 h4 => (xs_set 2 sc_end_loads.nd (x_got h4 (x_rep (x_lst (xa_hc x_int xa_hn)) (x_got h2 (x_eq (x_prop T.cf_Street.cl (has_Street_houses T) (hr.mono (by decide)) (x_fld T.cf_Standing (x_var (d := p0) 0))) rfl)))) (xs_seq (G1 := (fun s5 : Unit => (⟨[.val (tStand cS cT) p0, .val (tTup tInt) p1, .val (tLst tInt) d3, .non, .non], mu0⟩ : Cn))) (xs_for (Gl := (fun s5 : Unit => (⟨[.val (tStand cS cT) p0, .val (tTup tInt) p1, .val (tLst tInt) d3, .non, .non], mu0⟩ : Cn))) () (xi_zipT T.b_zip (x_fld T.cf_Standing (x_var (d := p0) 0)) (x_var (d := p1) 1)) (xg_tup (xgs_cons (xg_name 3 sc_end_loads.nd) (xgs_cons (xg_name 4 sc_end_loads.nd) xgs_nil))) (wk_of (.same (.same (.same (.non (.non .nil)))))) (fun _ => rfl) (fun x6 s5 => (xs_ifx (xt_gt (x_var (d := x6.2.1) 4) x_int) (fun g7 => xs_fail) (fun g7 => (xs_nil () (wk_of (.same (.same (.same (.non (.non .nil))))))))))) (fun s5 => (xs_ret (x_tuple T.b_tuple (x_var (d := d3) 2)))))))))
abbrev s_checked_goal : Stmt := top 44
theorem sc_checked_goal : FnScope ["standing", "goal", "numbers", "tool", "number", "house", "load"] ["standing", "goal"] (defScope s_checked_goal) := ⟨rfl, rfl, rfl, by decide +kernel, rfl, by decide +kernel, by decide +kernel⟩
def m_checked_goal (p0 : StandD) (p1 : (List Int)) : Option (Out Unit Unit (List Int)) := (thenO (forO (fun (x2 : (Int × Int × Unit)) (s1 : Unit) => ((f_is_number x2.2.1).bind fun d3 => ((if (!d3) = true then some true else (if (decide (x2.2.1 < (1 : Int))) = true then some true else ((atI p0.ways x2.1).bind fun d5 => some (decide ((d5.length : Int) < x2.2.1))))).bind fun d7 => (if d7 = true then none else some (.nx ()))))) (enumL p1) ()) fun s1 : Unit => ((f_end_loads p0 p1).bind fun d10 => (thenO (forO (fun (x13 : (Int × Int × Unit)) (s12 : Unit) => ((atI p0.street.pegs x13.1).bind fun d14 => (if (decide (d14 < x13.2.1)) = true then none else some (.nx ())))) (enumL d10) ()) fun s12 : Unit => some (.ret p1))))
def f_checked_goal (p0 : StandD) (p1 : (List Int)) : Option (List Int) := retO (m_checked_goal p0 p1)
theorem has_checked_goal {P : Program} {w : World} {K : PySem.W.Frag} {mg : Str → Option Value} {base : Heap} {cS cT cP cC : Addr} (T : Tx P w K mg base cS cT cP cC) : Has P w K mg base "checked_goal" 4 (SpF (ysC (tStand cS cT) (ysC (tTup tInt) ysN)) (tTup tInt) fun d => f_checked_goal d.1 d.2.1) := by
  obtain ⟨f, fd, F, hm⟩ := T.d_checked_goal
  exact has_def (A := (ysC (tStand cS cT) (ysC (tTup tInt) ysN))) (R := (tTup tInt)) (k := 3) (Gn := fun _ : Unit => ⟨[], mu0⟩) (Gb := fun _ : Unit => ⟨[], mu0⟩) F hm sc_checked_goal (prm_cons (prm_cons prm_nil)) rfl (F.bindsN fun _ _ _ _ _ _ us hl => match us, hl with | [_, _], _ => rfl)
    (m := fun d => m_checked_goal d.1 d.2.1) (fun cdv Ar outer s H E ⟨p0, p1, ()⟩ hr => (xs_set 2 sc_checked_goal.nd (x_eq (x_call (fz_tI T) (hr.mono (by decide)) (xa_cons (x_var (d := p1) 1) xa_nil)) rfl) (xs_seq (G1 := (fun s1 : Unit => (⟨[.val (tStand cS cT) p0, .val (tTup tInt) p1, .val (tTup tInt) p1, .non, .non, .non, .non], mu0⟩ : Cn))) (xs_for (Gl := (fun s1 : Unit => (⟨[.val (tStand cS cT) p0, .val (tTup tInt) p1, .val (tTup tInt) p1, .non, .non, .non, .non], mu0⟩ : Cn))) () (xi_enumT T.b_enumerate (x_var (d := p1) 2)) (xg_tup (xgs_cons (xg_name 3 sc_checked_goal.nd) (xgs_cons (xg_name 4 sc_checked_goal.nd) xgs_nil))) (wk_of (.same (.same (.same (.non (.non (.non (.non .nil)))))))) (fun _ => rfl) (fun x2 s1 => (xs_let fun d3 h4 => (xs_let fun d7 h8 => (xs_ifx (xt_got h8 (XW.t (xw_or (xt_not (xt_val (x_got h4 (x_eq (x_call (has_is_number T) (hr.mono (by decide)) (xa_cons (x_var (d := x2.2.1) 4) xa_nil)) rfl)))) (fun _ => (xw_or (xt_lt (x_var (d := x2.2.1) 4) x_int) (fun _ => (xw_let fun d5 h6 => (xw_or1 (xt_gt (x_var (d := x2.2.1) 4) (x_lenT T.b_len (x_got h6 (x_ixT (x_fld T.cf_Standing (x_var (d := p0) 0)) (x_var (d := x2.1) 3))))))))))))) (fun g9 => xs_fail) (fun g9 => (xs_nil () (wk_of (.same (.same (.same (.non (.non (.non (.non .nil))))))))))))))) (fun s1 => (xs_let fun d10 h11 => (xs_seq (G1 := (fun s12 : Unit => (⟨[.val (tStand cS cT) p0, .val (tTup tInt) p1, .val (tTup tInt) p1, .non, .non, .non, .non], mu0⟩ : Cn))) (xs_for (Gl := (fun s12 : Unit => (⟨[.val (tStand cS cT) p0, .val (tTup tInt) p1, .val (tTup tInt) p1, .non, .non, .non, .non], mu0⟩ : Cn))) () (xi_enumT T.b_enumerate (x_got h11 (x_eq (x_call (has_end_loads T) (hr.mono (by decide)) (xa_cons (x_var (d := p0) 0) (xa_cons (x_var (d := p1) 2) xa_nil))) rfl))) (xg_tup (xgs_cons (xg_name 5 sc_checked_goal.nd) (xgs_cons (xg_name 6 sc_checked_goal.nd) xgs_nil))) (wk_of (.same (.same (.same (.non (.non (.non (.non .nil)))))))) (fun _ => rfl) (fun x13 s12 => (xs_let fun d14 h15 => (xs_ifx (xt_gt (x_var (d := x13.2.1) 6) (x_got h15 (x_ixT (x_fld T.cf_Street (x_fld T.cf_Standing (x_var (d := p0) 0))) (x_var (d := x13.1) 5)))) (fun g16 => xs_fail) (fun g16 => (xs_nil () (wk_of (.same (.same (.same (.non (.non (.non (.non .nil)))))))))))))) (fun s12 => (xs_ret (x_var (d := p1) 2)))))))))
abbrev s_settled_tools : Stmt := top 45
theorem sc_settled_tools : FnScope ["standing", "goal", "way", "number"] ["standing", "goal"] (defScope s_settled_tools) := ⟨rfl, rfl, rfl, by decide +kernel, rfl, by decide +kernel, by decide +kernel⟩
def m_settled_tools (p0 : StandD) (p1 : (List Int)) : Option (Out Unit Unit (List Bool)) := some (.ret ((zipL p0.ways p1).map fun (x1 : ((List Int) × Int × Unit)) => (decide ((x1.1.length : Int) = x1.2.1))))
def f_settled_tools (p0 : StandD) (p1 : (List Int)) : Option (List Bool) := retO (m_settled_tools p0 p1)
theorem has_settled_tools {P : Program} {w : World} {K : PySem.W.Frag} {mg : Str → Option Value} {base : Heap} {cS cT cP cC : Addr} (T : Tx P w K mg base cS cT cP cC) : Has P w K mg base "settled_tools" 1 (SpF (ysC (tStand cS cT) (ysC (tTup tInt) ysN)) (tTup tBool) fun d => f_settled_tools d.1 d.2.1) := by
  obtain ⟨f, fd, F, hm⟩ := T.d_settled_tools
  exact has_def (A := (ysC (tStand cS cT) (ysC (tTup tInt) ysN))) (R := (tTup tBool)) (k := 0) (Gn := fun _ : Unit => ⟨[], mu0⟩) (Gb := fun _ : Unit => ⟨[], mu0⟩) F hm sc_settled_tools (prm_cons (prm_cons prm_nil)) rfl (F.bindsN fun _ _ _ _ _ _ us hl => match us, hl with | [_, _], _ => rfl)
    (m := fun d => m_settled_tools d.1 d.2.1) (fun cdv Ar outer s H E ⟨p0, p1, ()⟩ hr => (xs_ret (x_tuple T.b_tuple (x_eq (x_lc [("way", 2), ("number", 3)] sc_settled_tools.nd (xi_zipT T.b_zip (x_fld T.cf_Standing (x_var (d := p0) 0)) (x_var (d := p1) 1)) (fun _ _ _ _ _ => (xg_tup (xgs_cons (xg_name 2 sc_settled_tools.nd) (xgs_cons (xg_name 3 sc_settled_tools.nd) xgs_nil)))) xf_no (fun _ _ _ _ _ x1 => (x_eq (x_eqs es_int (x_lenT T.b_len (x_var (d := x1.1) 2)) (x_var (d := x1.2.1) 3)) rfl))) (lcM_map _ _)))))
abbrev s_inner_stops : Stmt := top 46
theorem sc_inner_stops : FnScope ["standing", "goal", "tool", "way"] ["standing", "goal", "tool"] (defScope s_inner_stops) := ⟨rfl, rfl, rfl, by decide +kernel, rfl, by decide +kernel, by decide +kernel⟩
def m_inner_stops (p0 : StandD) (p1 : (List Int)) (p2 : Int) : Option (Out Unit Unit (List Int)) := ((atI p0.ways p2).bind fun d1 => ((atI p1 p2).bind fun d3 => some (.ret (cutD d1 (some d3) (some ((d1.length : Int) - (1 : Int)))))))
def f_inner_stops (p0 : StandD) (p1 : (List Int)) (p2 : Int) : Option (List Int) := retO (m_inner_stops p0 p1 p2)
theorem has_inner_stops {P : Program} {w : World} {K : PySem.W.Frag} {mg : Str → Option Value} {base : Heap} {cS cT cP cC : Addr} (T : Tx P w K mg base cS cT cP cC) : Has P w K mg base "inner_stops" 1 (SpF (ysC (tStand cS cT) (ysC (tTup tInt) (ysC tInt ysN))) (tTup tInt) fun d => f_inner_stops d.1 d.2.1 d.2.2.1) := by
  obtain ⟨f, fd, F, hm⟩ := T.d_inner_stops
  exact has_def (A := (ysC (tStand cS cT) (ysC (tTup tInt) (ysC tInt ysN)))) (R := (tTup tInt)) (k := 0) (Gn := fun _ : Unit => ⟨[], mu0⟩) (Gb := fun _ : Unit => ⟨[], mu0⟩) F hm sc_inner_stops (prm_cons (prm_cons (prm_cons prm_nil))) rfl (F.bindsN fun _ _ _ _ _ _ us hl => match us, hl with | [_, _, _], _ => rfl)
    (m := fun d => m_inner_stops d.1 d.2.1 d.2.2.1) (fun cdv Ar outer s H E ⟨p0, p1, p2, ()⟩ hr => (xs_let fun d1 h2 => (xs_set 3 sc_inner_stops.nd (x_got h2 (x_ixT (x_fld T.cf_Standing (x_var (d := p0) 0)) (x_var (d := p2) 2))) (xs_let fun d3 h4 => (xs_ret (x_slT (x_var (d := d1) 3) (xo_some (x_got h4 (x_ixT (x_var (d := p1) 1) (x_var (d := p2) 2)))) (xo_some (x_sub (x_lenT T.b_len (x_var (d := d1) 3)) x_int))))))))
abbrev s_house_short : Stmt := top 47
theorem sc_house_short : FnScope ["standing", "goal", "stops", "tool", "house", "load"] ["standing", "goal"] (defScope s_house_short) := ⟨rfl, rfl, rfl, by decide +kernel, rfl, by decide +kernel, by decide +kernel⟩
def m_house_short (p0 : StandD) (p1 : (List Int)) : Option (Out Unit Unit (Option Int)) := ((f_Street_houses p0.street).bind fun d1 => ((repO [false] d1).bind fun d3 => ((smallO p0.ways).bind fun d5 => ((rngO 0 (p0.ways.length : Int)).bind fun d7 => (thenO (forO (fun (x10 : Int) (s9 : (List Bool)) => ((f_inner_stops p0 p1 x10).bind fun d11 => (thenO (forO (fun (x14 : Int) (s13 : (List Bool)) => ((setO s13 x14 true).bind fun d15 => some (.nx d15))) d11 s9) fun s13 : (List Bool) => some (.nx s13)))) d7 d3) fun s9 : (List Bool) => ((f_end_loads p0 p1).bind fun d17 => (thenO (forO (fun (x20 : (Int × Int × Unit)) (s19 : Unit) => ((atI s9 x20.1).bind fun d21 => ((if d21 = true then ((atI p0.street.pegs x20.1).bind fun d23 => some (decide (d23 < (x20.2.1 + (2 : Int))))) else some false).bind fun d25 => (if d25 = true then some (.ret (some x20.1)) else some (.nx ()))))) (enumL d17) ()) fun s19 : Unit => some (.ret none))))))))
def f_house_short (p0 : StandD) (p1 : (List Int)) : Option (Option Int) := retO (m_house_short p0 p1)
theorem has_house_short {P : Program} {w : World} {K : PySem.W.Frag} {mg : Str → Option Value} {base : Heap} {cS cT cP cC : Addr} (T : Tx P w K mg base cS cT cP cC) : Has P w K mg base "house_short" 4 (SpF (ysC (tStand cS cT) (ysC (tTup tInt) ysN)) (tOpt tInt) fun d => f_house_short d.1 d.2.1) := by
  obtain ⟨f, fd, F, hm⟩ := T.d_house_short
  exact has_def (A := (ysC (tStand cS cT) (ysC (tTup tInt) ysN))) (R := (tOpt tInt)) (k := 3) (Gn := fun _ : Unit => ⟨[], mu0⟩) (Gb := fun _ : Unit => ⟨[], mu0⟩) F hm sc_house_short (prm_cons (prm_cons prm_nil)) rfl (F.bindsN fun _ _ _ _ _ _ us hl => match us, hl with | [_, _], _ => rfl)
    (m := fun d => m_house_short d.1 d.2.1) (fun cdv Ar outer s H E ⟨p0, p1, ()⟩ hr => (xs_let fun d1 h2 => (xs_let fun d3 h4 => (xs_new 2 sc_house_short.nd rfl (xf_rep (x_lst (xa_hc x_bl xa_hn)) (x_got h2 (x_eq (x_prop T.cf_Street.cl (has_Street_houses T) (hr.mono (by decide)) (x_fld T.cf_Standing (x_var (d := p0) 0))) rfl)) h4) (xs_let fun d5 h6 => (xs_let fun d7 h8 => (xs_seq (G1 := (fun s9 : (List Bool) => (⟨[.val (tStand cS cT) p0, .val (tTup tInt) p1, .non, .non, .non, .non], (muL 2 tBool s9)⟩ : Cn))) (xs_for (Gl := (fun s9 : (List Bool) => (⟨[.val (tStand cS cT) p0, .val (tTup tInt) p1, .non, .non, .non, .non], (muL 2 tBool s9)⟩ : Cn))) d3 (xi_rng1 T.b_range (x_lenO (hasL_Standing_len T) (hr.mono (by decide)) T.b_len (x_var (d := p0) 0) rfl (smallO_ok h6)) h8) (xg_name 3 sc_house_short.nd) (wk_of (.same (.same (.non (.non (.non (.non .nil))))))) (fun _ => rfl) (fun x10 s9 => (xs_let fun d11 h12 => (xs_seq (G1 := (fun s13 : (List Bool) => (⟨[.val (tStand cS cT) p0, .val (tTup tInt) p1, .non, .val tInt x10, .non, .non], (muL 2 tBool s13)⟩ : Cn))) (xs_for (Gl := (fun s13 : (List Bool) => (⟨[.val (tStand cS cT) p0, .val (tTup tInt) p1, .non, .val tInt x10, .non, .non], (muL 2 tBool s13)⟩ : Cn))) s9 (xi_tup (x_got h12 (x_eq (x_call (has_inner_stops T) (hr.mono (by decide)) (xa_cons (x_var (d := p0) 0) (xa_cons (x_var (d := p1) 1) (xa_cons (x_var (d := x10) 3) xa_nil)))) rfl))) (xg_name 4 sc_house_short.nd) (wk_of (.same (.same (.non (.same (.non (.non .nil))))))) (fun _ => rfl) (fun x14 s13 => (xs_let fun d15 h16 => (xs_putL x_bl (x_var (d := x14) 4) h16 (xs_nil d15 (wk_of (.same (.same (.non (.same (.non (.non .nil)))))))))))) (fun s13 => (xs_nil s13 (wk_of (.same (.same (.non (.non (.non (.non .nil))))))))))))) (fun s9 => (xs_hold (xs_let fun d17 h18 => (xs_seq (G1 := (fun s19 : Unit => (⟨[.val (tStand cS cT) p0, .val (tTup tInt) p1, .val (tLst tBool) s9, .non, .non, .non], mu0⟩ : Cn))) (xs_for (Gl := (fun s19 : Unit => (⟨[.val (tStand cS cT) p0, .val (tTup tInt) p1, .val (tLst tBool) s9, .non, .non, .non], mu0⟩ : Cn))) () (xi_enumT T.b_enumerate (x_got h18 (x_eq (x_call (has_end_loads T) (hr.mono (by decide)) (xa_cons (x_var (d := p0) 0) (xa_cons (x_var (d := p1) 1) xa_nil))) rfl))) (xg_tup (xgs_cons (xg_name 4 sc_house_short.nd) (xgs_cons (xg_name 5 sc_house_short.nd) xgs_nil))) (wk_of (.same (.same (.same (.non (.non (.non .nil))))))) (fun _ => rfl) (fun x20 s19 => (xs_let fun d21 h22 => (xs_let fun d25 h26 => (xs_ifx (xt_got h26 (XW.t (xw_and (xt_val (x_got h22 (x_ixL (x_var (d := s9) 2) (x_var (d := x20.1) 4)))) (fun _ => (xw_let fun d23 h24 => (xw_and1 (xt_lt (x_got h24 (x_ixT (x_fld T.cf_Street (x_fld T.cf_Standing (x_var (d := p0) 0))) (x_var (d := x20.1) 4))) (x_add (x_var (d := x20.2.1) 5) x_int)))))))) (fun g27 => (xs_ret (x_some nn_int (x_var (d := x20.1) 4)))) (fun g27 => (xs_nil () (wk_of (.same (.same (.same (.non (.non (.non .nil)))))))))))))) (fun s19 => (xs_ret x_none)))))))))))))
abbrev s_lot_against : Stmt := top 48
theorem sc_lot_against : FnScope ["standing", "goal", "settled", "full", "house", "held", "tool"] ["standing", "goal"] (defScope s_lot_against) := ⟨rfl, rfl, rfl, by decide +kernel, rfl, by decide +kernel, by decide +kernel⟩
def m_lot_against (p0 : StandD) (p1 : (List Int)) : Option (Out Unit Unit (List Int)) := ((f_settled_tools p0 p1).bind fun d1 => ((f_Street_houses p0.street).bind fun d3 => ((rngO 0 d3).bind fun d5 => ((mapO (fun (x7 : Int) => ((f_Standing_is_full p0 x7).bind fun d8 => some d8)) d5).bind fun d10 => ((f_held_houses d10 p0.hung p0.wants d1).bind fun d12 => ((lcG2 (fun x14 => (atI p0.hung x14)) (fun x14 y17 => ((atI d1 y17).bind fun d18 => some d18)) d12).bind fun d20 => (if (d20.all id) = true then some (.ret ([] : (List Int))) else some (.ret d12))))))))
def f_lot_against (p0 : StandD) (p1 : (List Int)) : Option (List Int) := retO (m_lot_against p0 p1)
theorem has_lot_against {P : Program} {w : World} {K : PySem.W.Frag} {mg : Str → Option Value} {base : Heap} {cS cT cP cC : Addr} (T : Tx P w K mg base cS cT cP cC) : Has P w K mg base "lot_against" 3 (SpF (ysC (tStand cS cT) (ysC (tTup tInt) ysN)) (tTup tInt) fun d => f_lot_against d.1 d.2.1) := by
  obtain ⟨f, fd, F, hm⟩ := T.d_lot_against
  exact has_def (A := (ysC (tStand cS cT) (ysC (tTup tInt) ysN))) (R := (tTup tInt)) (k := 2) (Gn := fun _ : Unit => ⟨[], mu0⟩) (Gb := fun _ : Unit => ⟨[], mu0⟩) F hm sc_lot_against (prm_cons (prm_cons prm_nil)) rfl (F.bindsN fun _ _ _ _ _ _ us hl => match us, hl with | [_, _], _ => rfl)
    (m := fun d => m_lot_against d.1 d.2.1) (fun cdv Ar outer s H E ⟨p0, p1, ()⟩ hr => (xs_let fun d1 h2 => (xs_set 2 sc_lot_against.nd (x_got h2 (x_eq (x_call (has_settled_tools T) (hr.mono (by decide)) (xa_cons (x_var (d := p0) 0) (xa_cons (x_var (d := p1) 1) xa_nil))) rfl)) (xs_let fun d3 h4 => (xs_let fun d5 h6 => (xs_let fun d10 h11 => (xs_lc (ys := (d10 : (List Bool))) 3 [("house", 4)] sc_lot_against.nd (xi_rng1 T.b_range (x_got h4 (x_eq (x_prop T.cf_Street.cl (has_Street_houses T) (hr.mono (by decide)) (x_fld T.cf_Standing (x_var (d := p0) 0))) rfl)) h6) (fun _ _ _ _ _ => (xg_name 4 sc_lot_against.nd)) xf_no (fun _ _ _ _ _ x7 => (x_let fun d8 h9 => (x_got h9 (x_eq (x_meth T.cf_Standing.cl (has_Standing_is_full T) (hr.mono (by decide)) (x_var (d := p0) 0) (xa_cons (x_var (d := x7) 4) xa_nil)) rfl)))) (((lcM_mapO _ _)).trans h11) (xs_let fun d12 h13 => (xs_set 5 sc_lot_against.nd (x_got h13 (x_eq (x_call (has_held_houses T) (hr.mono (by decide)) (xa_cons (x_var (d := d10) 3) (xa_cons (x_fld T.cf_Standing (x_var (d := p0) 0)) (xa_cons (x_fld T.cf_Standing (x_var (d := p0) 0)) (xa_cons (x_var (d := d1) 2) xa_nil))))) rfl)) (xs_let fun d20 h21 => (xs_ifx (xt_val (x_all T.b_all (x_got h21 (x_lc2 [("house", 4), ("tool", 6)] [6] sc_lot_against.nd (xi_tup (x_var (d := d12) 5)) (fun _ _ _ _ _ => (xg_name 4 sc_lot_against.nd)) (fun _ _ _ _ _ x14 d15 h16 => (xi_tup (x_got h16 (x_ixT (x_fld T.cf_Standing (x_var (d := p0) 0)) (x_var (d := x14) 4))))) (fun _ _ _ _ _ => (xg_name 6 sc_lot_against.nd)) (fun _ _ _ _ _ x14 y17 => (x_let fun d18 h19 => (x_got h19 (x_ixT (x_var (d := d1) 2) (x_var (d := y17) 6))))))))) (fun g22 => (xs_ret (x_tup xa_hn))) (fun g22 => (xs_ret (x_var (d := d12) 5))))))))))))))
abbrev s_steps_left : Stmt := top 49
theorem sc_steps_left : FnScope ["standing", "goal", "way", "number"] ["standing", "goal"] (defScope s_steps_left) := ⟨rfl, rfl, rfl, by decide +kernel, rfl, by decide +kernel, by decide +kernel⟩
def m_steps_left (p0 : StandD) (p1 : (List Int)) : Option (Out Unit Unit Int) := some (.ret (((zipL p0.ways p1).map fun (x1 : ((List Int) × Int × Unit)) => ((x1.1.length : Int) - x1.2.1)).sum))
def f_steps_left (p0 : StandD) (p1 : (List Int)) : Option Int := retO (m_steps_left p0 p1)
theorem has_steps_left {P : Program} {w : World} {K : PySem.W.Frag} {mg : Str → Option Value} {base : Heap} {cS cT cP cC : Addr} (T : Tx P w K mg base cS cT cP cC) : Has P w K mg base "steps_left" 1 (SpF (ysC (tStand cS cT) (ysC (tTup tInt) ysN)) tInt fun d => f_steps_left d.1 d.2.1) := by
  obtain ⟨f, fd, F, hm⟩ := T.d_steps_left
  exact has_def (A := (ysC (tStand cS cT) (ysC (tTup tInt) ysN))) (R := tInt) (k := 0) (Gn := fun _ : Unit => ⟨[], mu0⟩) (Gb := fun _ : Unit => ⟨[], mu0⟩) F hm sc_steps_left (prm_cons (prm_cons prm_nil)) rfl (F.bindsN fun _ _ _ _ _ _ us hl => match us, hl with | [_, _], _ => rfl)
    (m := fun d => m_steps_left d.1 d.2.1) (fun cdv Ar outer s H E ⟨p0, p1, ()⟩ hr => (xs_ret (x_sum T.b_sum (x_eq (x_lc [("way", 2), ("number", 3)] sc_steps_left.nd (xi_zipT T.b_zip (x_fld T.cf_Standing (x_var (d := p0) 0)) (x_var (d := p1) 1)) (fun _ _ _ _ _ => (xg_tup (xgs_cons (xg_name 2 sc_steps_left.nd) (xgs_cons (xg_name 3 sc_steps_left.nd) xgs_nil)))) xf_no (fun _ _ _ _ _ x1 => (x_sub (x_lenT T.b_len (x_var (d := x1.1) 2)) (x_var (d := x1.2.1) 3)))) (lcM_map _ _)))))
abbrev s_Coming_init : Stmt := mth 51 0
theorem sc_Coming_init : FnScope ["self", "row", "lot"] ["self", "row", "lot"] (defScope s_Coming_init) := ⟨rfl, rfl, rfl, by decide +kernel, rfl, by decide +kernel, by decide +kernel⟩
def m_Coming_init (p0 : (Option (List Int))) (p1 : (List Int)) : Option (Out ComD Unit Unit) := some (.nx (⟨p0, p1⟩ : ComD))
def f_Coming_init (p0 : (Option (List Int))) (p1 : (List Int)) : Option ComD := endG id (m_Coming_init p0 p1)
theorem fn_Coming_init {P : Program} {w : World} {K : PySem.W.Frag} {mg : Str → Option Value} {base : Heap} {cS cT cP cC : Addr} (T : Tx P w K mg base cS cT cP cC) : ∃ f fd, FunD K "__init__" "Coming.__init__" (defArgs s_Coming_init) (defBody s_Coming_init) (defScope s_Coming_init) [] [] f fd ∧ Mk K cC f ∧ mg "Coming" = some (.ref cC) ∧ FnOk P w K mg base CX0 1 f fd ["self", "row", "lot"] (SpI cC flCom (ysC (tOpt (tTup tInt)) (ysC (tTup tInt) ysN)) fun d => f_Coming_init d.1 d.2.1) := by
  obtain ⟨f, fd, F, hM, hm⟩ := T.m_Coming_init
  refine ⟨f, fd, F, hM, hm, ?_⟩
  exact fn_init (A := (ysC (tOpt (tTup tInt)) (ysC (tTup tInt) ysN))) (k := 0) (Tr := tNon) (Gn := fun a0 s0 => ⟨[.non, .non, .non], muO 0 cC a0 (flCom s0)⟩) (Gb := fun _ : Unit => ⟨[], mu0⟩) (m := fun d => m_Coming_init d.1 d.2.1) id F sc_Coming_init (prm_cons (prm_cons prm_nil)) rfl (by decide) (fun _ _ => rfl) (fun cdv Ar outer s H E a0 ⟨p0, p1, ()⟩ hr => (xs_fset T.cf_Coming (x_var (d := p0) 1) (xs_fset T.cf_Coming (x_var (d := p1) 2) (xs_nil (⟨p0, p1⟩ : ComD) (wk_of (.non (.non (.non .nil))))))))
theorem has_Coming_init {P : Program} {w : World} {K : PySem.W.Frag} {mg : Str → Option Value} {base : Heap} {cS cT cP cC : Addr} (T : Tx P w K mg base cS cT cP cC) : HasC P w K mg base "Coming" cC 1 (SpI cC flCom (ysC (tOpt (tTup tInt)) (ysC (tTup tInt) ysN)) fun d => f_Coming_init d.1 d.2.1) := by
  obtain ⟨f, fd, F, hM, hm, hF⟩ := fn_Coming_init T
  exact ⟨f, fd, _, hF, hM, hm, (F.bindsN fun _ _ _ _ _ _ us hl => match us, hl with | [_, _, _], _ => rfl)⟩
abbrev s_Coming_reached : Stmt := mth 51 1
theorem sc_Coming_reached : FnScope ["self"] ["self"] (defScope s_Coming_reached) := ⟨rfl, rfl, rfl, by decide +kernel, rfl, by decide +kernel, by decide +kernel⟩
def m_Coming_reached (p0 : ComD) : Option (Out Unit Unit Bool) := some (.ret (!p0.row.isNone))
def f_Coming_reached (p0 : ComD) : Option Bool := retO (m_Coming_reached p0)
theorem has_Coming_reached {P : Program} {w : World} {K : PySem.W.Frag} {mg : Str → Option Value} {base : Heap} {cS cT cP cC : Addr} (T : Tx P w K mg base cS cT cP cC) : HasP P w K mg base cC "reached" 1 (SpF (ysC (tCom cC) ysN) tBool fun d => f_Coming_reached d.1) := by
  obtain ⟨p, f, fd, F, hm⟩ := T.m_Coming_reached
  exact ⟨p, f, fd, ["self"], fnok_def (A := (ysC (tCom cC) ysN)) (R := tBool) (k := 0) (Gn := fun _ : Unit => ⟨[], mu0⟩) (Gb := fun _ : Unit => ⟨[], mu0⟩) F sc_Coming_reached (prm_cons prm_nil) rfl (m := fun d => m_Coming_reached d.1) (fun cdv Ar outer s H E ⟨p0, ()⟩ hr => (xs_ret (x_notN (x_fld T.cf_Coming (x_var (d := p0) 0))))), hm, (F.bindsN fun _ _ _ _ _ _ us hl => match us, hl with | [_], _ => rfl)⟩
abbrev s_roomy_goal : Stmt := top 52
theorem sc_roomy_goal : FnScope ["standing", "goal", "numbers", "house"] ["standing", "goal"] (defScope s_roomy_goal) := ⟨rfl, rfl, rfl, by decide +kernel, rfl, by decide +kernel, by decide +kernel⟩
def m_roomy_goal (p0 : StandD) (p1 : (List Int)) : Option (Out Unit Unit (List Int)) := ((f_checked_goal p0 p1).bind fun d1 => ((f_house_short p0 d1).bind fun d3 => (if (!d3.isNone) = true then none else some (.ret d1))))
def f_roomy_goal (p0 : StandD) (p1 : (List Int)) : Option (List Int) := retO (m_roomy_goal p0 p1)
theorem has_roomy_goal {P : Program} {w : World} {K : PySem.W.Frag} {mg : Str → Option Value} {base : Heap} {cS cT cP cC : Addr} (T : Tx P w K mg base cS cT cP cC) : Has P w K mg base "roomy_goal" 5 (SpF (ysC (tStand cS cT) (ysC (tTup tInt) ysN)) (tTup tInt) fun d => f_roomy_goal d.1 d.2.1) := by
  obtain ⟨f, fd, F, hm⟩ := T.d_roomy_goal
  exact has_def (A := (ysC (tStand cS cT) (ysC (tTup tInt) ysN))) (R := (tTup tInt)) (k := 4) (Gn := fun _ : Unit => ⟨[], mu0⟩) (Gb := fun _ : Unit => ⟨[], mu0⟩) F hm sc_roomy_goal (prm_cons (prm_cons prm_nil)) rfl (F.bindsN fun _ _ _ _ _ _ us hl => match us, hl with | [_, _], _ => rfl)
    (m := fun d => m_roomy_goal d.1 d.2.1) (fun cdv Ar outer s H E ⟨p0, p1, ()⟩ hr => (xs_let fun d1 h2 => (xs_set 2 sc_roomy_goal.nd (x_got h2 (x_eq (x_call (has_checked_goal T) (hr.mono (by decide)) (xa_cons (x_var (d := p0) 0) (xa_cons (x_var (d := p1) 1) xa_nil))) rfl)) (xs_let fun d3 h4 => (xs_set 3 sc_roomy_goal.nd (x_got h4 (x_eq (x_call (has_house_short T) (hr.mono (by decide)) (xa_cons (x_var (d := p0) 0) (xa_cons (x_var (d := d1) 2) xa_nil))) rfl)) (xs_ifx (xt_notN (x_var (d := d3) 3)) (fun g5 => xs_fail) (fun g5 => (xs_ret (x_var (d := d1) 2)))))))))
abbrev s_is_wise : Stmt := top 53
theorem sc_is_wise : FnScope ["standing", "goal", "tool"] ["standing", "goal", "tool"] (defScope s_is_wise) := ⟨rfl, rfl, rfl, by decide +kernel, rfl, by decide +kernel, by decide +kernel⟩
def m_is_wise (p0 : StandD) (p1 : (List Int)) (p2 : Int) : Option (Out Unit Unit Bool) := ((atI p0.ways p2).bind fun d1 => ((atI p1 p2).bind fun d3 => ((if (decide ((d1.length : Int) = d3)) = true then some true else ((f_Standing_can_return p0 p2).bind fun d5 => some (!d5))).bind fun d7 => (if d7 = true then some (.ret false) else ((f_Standing_given_back p0 p2).bind fun d10 => ((f_lot_against d10 p1).bind fun d12 => some (.ret (decide ((d12.length : Int) = (0 : Int))))))))))
def f_is_wise (p0 : StandD) (p1 : (List Int)) (p2 : Int) : Option Bool := retO (m_is_wise p0 p1 p2)
theorem has_is_wise {P : Program} {w : World} {K : PySem.W.Frag} {mg : Str → Option Value} {base : Heap} {cS cT cP cC : Addr} (T : Tx P w K mg base cS cT cP cC) : Has P w K mg base "is_wise" 8 (SpF (ysC (tStand cS cT) (ysC (tTup tInt) (ysC tInt ysN))) tBool fun d => f_is_wise d.1 d.2.1 d.2.2.1) := by
  obtain ⟨f, fd, F, hm⟩ := T.d_is_wise
  exact has_def (A := (ysC (tStand cS cT) (ysC (tTup tInt) (ysC tInt ysN)))) (R := tBool) (k := 7) (Gn := fun _ : Unit => ⟨[], mu0⟩) (Gb := fun _ : Unit => ⟨[], mu0⟩) F hm sc_is_wise (prm_cons (prm_cons (prm_cons prm_nil))) rfl (F.bindsN fun _ _ _ _ _ _ us hl => match us, hl with | [_, _, _], _ => rfl)
    (m := fun d => m_is_wise d.1 d.2.1 d.2.2.1) (fun cdv Ar outer s H E ⟨p0, p1, p2, ()⟩ hr => (xs_let fun d1 h2 => (xs_let fun d3 h4 => (xs_let fun d7 h8 => (xs_ifx (xt_got h8 (XW.t (xw_or (xt_eqm (xt_eqs es_int (x_lenT T.b_len (x_got h2 (x_ixT (x_fld T.cf_Standing (x_var (d := p0) 0)) (x_var (d := p2) 2)))) (x_got h4 (x_ixT (x_var (d := p1) 1) (x_var (d := p2) 2)))) rfl) (fun _ => (xw_let fun d5 h6 => (xw_or1 (xt_not (xt_val (x_got h6 (x_eq (x_meth T.cf_Standing.cl (has_Standing_can_return T) (hr.mono (by decide)) (x_var (d := p0) 0) (xa_cons (x_var (d := p2) 2) xa_nil)) rfl)))))))))) (fun g9 => (xs_ret x_bl)) (fun g9 => (xs_let fun d10 h11 => (xs_let fun d12 h13 => (xs_ret (x_eq (x_eqs es_int (x_lenT T.b_len (x_got h13 (x_eq (x_call (has_lot_against T) (hr.mono (by decide)) (xa_cons (x_got h11 (x_eq (x_meth T.cf_Standing.cl (has_Standing_given_back T) (hr.mono (by decide)) (x_var (d := p0) 0) (xa_cons (x_var (d := p2) 2) xa_nil)) rfl)) (xa_cons (x_var (d := p1) 1) xa_nil))) rfl))) x_int) rfl))))))))))
abbrev s_least_wise : Stmt := top 54
theorem sc_least_wise : FnScope ["standing", "goal", "tool"] ["standing", "goal"] (defScope s_least_wise) := ⟨rfl, rfl, rfl, by decide +kernel, rfl, by decide +kernel, by decide +kernel⟩
def m_least_wise (p0 : StandD) (p1 : (List Int)) : Option (Out Unit Unit (Option Int)) := ((smallO p0.ways).bind fun d1 => ((rngO 0 (p0.ways.length : Int)).bind fun d3 => (thenO (forO (fun (x6 : Int) (s5 : Unit) => ((f_is_wise p0 p1 x6).bind fun d7 => (if d7 = true then some (.ret (some x6)) else some (.nx ())))) d3 ()) fun s5 : Unit => some (.ret none))))
def f_least_wise (p0 : StandD) (p1 : (List Int)) : Option (Option Int) := retO (m_least_wise p0 p1)
theorem has_least_wise {P : Program} {w : World} {K : PySem.W.Frag} {mg : Str → Option Value} {base : Heap} {cS cT cP cC : Addr} (T : Tx P w K mg base cS cT cP cC) : Has P w K mg base "least_wise" 9 (SpF (ysC (tStand cS cT) (ysC (tTup tInt) ysN)) (tOpt tInt) fun d => f_least_wise d.1 d.2.1) := by
  obtain ⟨f, fd, F, hm⟩ := T.d_least_wise
  exact has_def (A := (ysC (tStand cS cT) (ysC (tTup tInt) ysN))) (R := (tOpt tInt)) (k := 8) (Gn := fun _ : Unit => ⟨[], mu0⟩) (Gb := fun _ : Unit => ⟨[], mu0⟩) F hm sc_least_wise (prm_cons (prm_cons prm_nil)) rfl (F.bindsN fun _ _ _ _ _ _ us hl => match us, hl with | [_, _], _ => rfl)
    (m := fun d => m_least_wise d.1 d.2.1) (fun cdv Ar outer s H E ⟨p0, p1, ()⟩ hr => (xs_let fun d1 h2 => (xs_let fun d3 h4 => (xs_seq (G1 := (fun s5 : Unit => (⟨[.val (tStand cS cT) p0, .val (tTup tInt) p1, .non], mu0⟩ : Cn))) (xs_for (Gl := (fun s5 : Unit => (⟨[.val (tStand cS cT) p0, .val (tTup tInt) p1, .non], mu0⟩ : Cn))) () (xi_rng1 T.b_range (x_lenO (hasL_Standing_len T) (hr.mono (by decide)) T.b_len (x_var (d := p0) 0) rfl (smallO_ok h2)) h4) (xg_name 2 sc_least_wise.nd) (wk_of (.same (.same (.non .nil)))) (fun _ => rfl) (fun x6 s5 => (xs_let fun d7 h8 => (xs_ifx (xt_val (x_got h8 (x_eq (x_call (has_is_wise T) (hr.mono (by decide)) (xa_cons (x_var (d := p0) 0) (xa_cons (x_var (d := p1) 1) (xa_cons (x_var (d := x6) 2) xa_nil)))) rfl))) (fun g9 => (xs_ret (x_some nn_int (x_var (d := x6) 2)))) (fun g9 => (xs_nil () (wk_of (.same (.same (.non .nil)))))))))) (fun s5 => (xs_ret x_none))))))
abbrev s_coming_row : Stmt := top 55
theorem sc_coming_row : FnScope ["standing", "goal", "row", "current", "_", "tool"] ["standing", "goal"] (defScope s_coming_row) := ⟨rfl, rfl, rfl, by decide +kernel, rfl, by decide +kernel, by decide +kernel⟩
def m_coming_row (p0 : StandD) (p1 : (List Int)) : Option (Out Unit Unit (Option (List Int))) := ((f_lot_against p0 p1).bind fun d1 => (if (decide ((0 : Int) < (d1.length : Int))) = true then some (.ret none) else ((f_steps_left p0 p1).bind fun d4 => ((rngO 0 d4).bind fun d6 => (thenO (forO (fun (x9 : Int) (s8 : (StandD × (List Int))) => ((f_least_wise s8.1 p1).bind fun d10 => (if (d10.isNone) = true then some (.ret none) else (d10.bind fun d13 => ((appO s8.2 d13).bind fun d15 => (d10.bind fun d17 => ((f_Standing_given_back s8.1 d17).bind fun d19 => some (.nx (d19, d15))))))))) d6 (p0, ([] : (List Int)))) fun s8 : (StandD × (List Int)) => some (.ret (some s8.2)))))))
def f_coming_row (p0 : StandD) (p1 : (List Int)) : Option (Option (List Int)) := retO (m_coming_row p0 p1)
theorem has_coming_row {P : Program} {w : World} {K : PySem.W.Frag} {mg : Str → Option Value} {base : Heap} {cS cT cP cC : Addr} (T : Tx P w K mg base cS cT cP cC) : Has P w K mg base "coming_row" 10 (SpF (ysC (tStand cS cT) (ysC (tTup tInt) ysN)) (tOpt (tTup tInt)) fun d => f_coming_row d.1 d.2.1) := by
  obtain ⟨f, fd, F, hm⟩ := T.d_coming_row
  exact has_def (A := (ysC (tStand cS cT) (ysC (tTup tInt) ysN))) (R := (tOpt (tTup tInt))) (k := 9) (Gn := fun _ : Unit => ⟨[], mu0⟩) (Gb := fun _ : Unit => ⟨[], mu0⟩) F hm sc_coming_row (prm_cons (prm_cons prm_nil)) rfl (F.bindsN fun _ _ _ _ _ _ us hl => match us, hl with | [_, _], _ => rfl)
    (m := fun d => m_coming_row d.1 d.2.1) (fun cdv Ar outer s H E ⟨p0, p1, ()⟩ hr => (xs_let fun d1 h2 => (xs_ifx (xt_gt (x_lenT T.b_len (x_got h2 (x_eq (x_call (has_lot_against T) (hr.mono (by decide)) (xa_cons (x_var (d := p0) 0) (xa_cons (x_var (d := p1) 1) xa_nil))) rfl))) x_int) (fun g3 => (xs_ret x_none)) (fun g3 => (xs_new 2 sc_coming_row.nd rfl (xf_lst xa_hn) (xs_set 3 sc_coming_row.nd (x_var (d := p0) 0) (xs_let fun d4 h5 => (xs_let fun d6 h7 => (xs_seq (G1 := (fun s8 : (StandD × (List Int)) => (⟨[.val (tStand cS cT) p0, .val (tTup tInt) p1, .non, .val (tStand cS cT) s8.1, .non, .non], (muL 2 tInt s8.2)⟩ : Cn))) (xs_for (Gl := (fun s8 : (StandD × (List Int)) => (⟨[.val (tStand cS cT) p0, .val (tTup tInt) p1, .non, .val (tStand cS cT) s8.1, .non, .non], (muL 2 tInt s8.2)⟩ : Cn))) (p0, ([] : (List Int))) (xi_rng1 T.b_range (x_got h5 (x_eq (x_call (has_steps_left T) (hr.mono (by decide)) (xa_cons (x_var (d := p0) 0) (xa_cons (x_var (d := p1) 1) xa_nil))) rfl)) h7) (xg_name 4 sc_coming_row.nd) (wk_of (.same (.same (.non (.same (.non (.non .nil))))))) (fun _ => rfl) (fun x9 s8 => (xs_let fun d10 h11 => (xs_set 5 sc_coming_row.nd (x_got h11 (x_eq (x_call (has_least_wise T) (hr.mono (by decide)) (xa_cons (x_var (d := s8.1) 3) (xa_cons (x_var (d := p1) 1) xa_nil))) rfl)) (xs_ifx (xt_isN (x_var (d := d10) 5)) (fun g12 => (xs_ret x_none)) (fun g12 => (xs_let fun d13 h14 => (xs_let fun d15 h16 => (xs_appL (x_got h14 (x_un (x_var (d := d10) 5))) h16 (xs_let fun d17 h18 => (xs_let fun d19 h20 => (xs_set 3 sc_coming_row.nd (x_got h20 (x_eq (x_meth T.cf_Standing.cl (has_Standing_given_back T) (hr.mono (by decide)) (x_var (d := s8.1) 3) (xa_cons (x_got h18 (x_un (x_var (d := d10) 5))) xa_nil)) rfl)) (xs_nil (d19, d15) (wk_of (.same (.same (.non (.same (.non (.non .nil)))))))))))))))))))) (fun s8 => (xs_hold (xs_ret (x_some nn_tup (x_tuple T.b_tuple (x_var (d := s8.2) 2)))))))))))))))
end Pg
set_option Elab.async false
set_option linter.all false
set_option maxRecDepth 100000
set_option maxHeartbeats 1000000
namespace Pg
open PySem PySem.Spec PyProof.Rows L2
abbrev s_coming : Stmt := top 56
theorem sc_coming : FnScope ["standing", "goal", "numbers", "row"] ["standing", "goal"] (defScope s_coming) := ⟨rfl, rfl, rfl, by decide +kernel, rfl, by decide +kernel, by decide +kernel⟩
def m_coming (p0 : StandD) (p1 : (List Int)) : Option (Out Unit Unit ComD) := ((f_roomy_goal p0 p1).bind fun d1 => ((f_coming_row p0 d1).bind fun d3 => (if (d3.isNone) = true then ((f_lot_against p0 d1).bind fun d6 => ((f_Coming_init none d6).bind fun d8 => some (.ret d8))) else ((f_Coming_init d3 ([] : (List Int))).bind fun d10 => some (.ret d10)))))
def f_coming (p0 : StandD) (p1 : (List Int)) : Option ComD := retO (m_coming p0 p1)
theorem has_coming {P : Program} {w : World} {K : PySem.W.Frag} {mg : Str → Option Value} {base : Heap} {cS cT cP cC : Addr} (T : Tx P w K mg base cS cT cP cC) : Has P w K mg base "coming" 11 (SpF (ysC (tStand cS cT) (ysC (tTup tInt) ysN)) (tCom cC) fun d => f_coming d.1 d.2.1) := by
  obtain ⟨f, fd, F, hm⟩ := T.d_coming
  exact has_def (A := (ysC (tStand cS cT) (ysC (tTup tInt) ysN))) (R := (tCom cC)) (k := 10) (Gn := fun _ : Unit => ⟨[], mu0⟩) (Gb := fun _ : Unit => ⟨[], mu0⟩) F hm sc_coming (prm_cons (prm_cons prm_nil)) rfl (F.bindsN fun _ _ _ _ _ _ us hl => match us, hl with | [_, _], _ => rfl)
    (m := fun d => m_coming d.1 d.2.1) (fun cdv Ar outer s H E ⟨p0, p1, ()⟩ hr => (xs_let fun d1 h2 => (xs_set 2 sc_coming.nd (x_got h2 (x_eq (x_call (has_roomy_goal T) (hr.mono (by decide)) (xa_cons (x_var (d := p0) 0) (xa_cons (x_var (d := p1) 1) xa_nil))) rfl)) (xs_let fun d3 h4 => (xs_set 3 sc_coming.nd (x_got h4 (x_eq (x_call (has_coming_row T) (hr.mono (by decide)) (xa_cons (x_var (d := p0) 0) (xa_cons (x_var (d := d1) 2) xa_nil))) rfl)) (xs_ifx (xt_isN (x_var (d := d3) 3)) (fun g5 => (xs_let fun d6 h7 => (xs_let fun d8 h9 => (xs_ret (x_got h9 (x_eq (x_make (has_Coming_init T) (hr.mono (by decide)) (xa_cons x_none (xa_cons (x_got h7 (x_eq (x_call (has_lot_against T) (hr.mono (by decide)) (xa_cons (x_var (d := p0) 0) (xa_cons (x_var (d := d1) 2) xa_nil))) rfl)) xa_nil))) rfl)))))) (fun g5 => (xs_let fun d10 h11 => (xs_ret (x_got h11 (x_eq (x_make (has_Coming_init T) (hr.mono (by decide)) (xa_cons (x_var (d := d3) 3) (xa_cons (x_tup xa_hn) xa_nil))) rfl)))))))))))
abbrev s_home_coming : Stmt := top 57
theorem sc_home_coming : FnScope ["standing"] ["standing"] (defScope s_home_coming) := ⟨rfl, rfl, rfl, by decide +kernel, rfl, by decide +kernel, by decide +kernel⟩
def m_home_coming (p0 : StandD) : Option (Out Unit Unit ComD) := ((f_home_stage p0).bind fun d1 => ((f_coming p0 d1).bind fun d3 => some (.ret d3)))
def f_home_coming (p0 : StandD) : Option ComD := retO (m_home_coming p0)
theorem has_home_coming {P : Program} {w : World} {K : PySem.W.Frag} {mg : Str → Option Value} {base : Heap} {cS cT cP cC : Addr} (T : Tx P w K mg base cS cT cP cC) : Has P w K mg base "home_coming" 12 (SpF (ysC (tStand cS cT) ysN) (tCom cC) fun d => f_home_coming d.1) := by
  obtain ⟨f, fd, F, hm⟩ := T.d_home_coming
  exact has_def (A := (ysC (tStand cS cT) ysN)) (R := (tCom cC)) (k := 11) (Gn := fun _ : Unit => ⟨[], mu0⟩) (Gb := fun _ : Unit => ⟨[], mu0⟩) F hm sc_home_coming (prm_cons prm_nil) rfl (F.bindsN fun _ _ _ _ _ _ us hl => match us, hl with | [_], _ => rfl)
    (m := fun d => m_home_coming d.1) (fun cdv Ar outer s H E ⟨p0, ()⟩ hr => (xs_let fun d1 h2 => (xs_let fun d3 h4 => (xs_ret (x_got h4 (x_eq (x_call (has_coming T) (hr.mono (by decide)) (xa_cons (x_var (d := p0) 0) (xa_cons (x_got h2 (x_eq (x_call (has_home_stage T) (hr.mono (by decide)) (xa_cons (x_var (d := p0) 0) xa_nil)) rfl)) xa_nil))) rfl))))))
abbrev s_Past_init : Stmt := mth 63 0
theorem sc_Past_init : FnScope ["self", "row", "lot"] ["self", "row", "lot"] (defScope s_Past_init) := ⟨rfl, rfl, rfl, by decide +kernel, rfl, by decide +kernel, by decide +kernel⟩
def m_Past_init (p0 : (Option (List (Int × Int × Unit)))) (p1 : (List Int)) : Option (Out PastD Unit Unit) := some (.nx (⟨p0, p1⟩ : PastD))
def f_Past_init (p0 : (Option (List (Int × Int × Unit)))) (p1 : (List Int)) : Option PastD := endG id (m_Past_init p0 p1)
theorem fn_Past_init {P : Program} {w : World} {K : PySem.W.Frag} {mg : Str → Option Value} {base : Heap} {cS cT cP cC : Addr} (T : Tx P w K mg base cS cT cP cC) : ∃ f fd, FunD K "__init__" "Past.__init__" (defArgs s_Past_init) (defBody s_Past_init) (defScope s_Past_init) [] [] f fd ∧ Mk K cP f ∧ mg "Past" = some (.ref cP) ∧ FnOk P w K mg base CX0 1 f fd ["self", "row", "lot"] (SpI cP flPast (ysC (tOpt (tTup P2T)) (ysC (tTup tInt) ysN)) fun d => f_Past_init d.1 d.2.1) := by
  obtain ⟨f, fd, F, hM, hm⟩ := T.m_Past_init
  refine ⟨f, fd, F, hM, hm, ?_⟩
  exact fn_init (A := (ysC (tOpt (tTup P2T)) (ysC (tTup tInt) ysN))) (k := 0) (Tr := tNon) (Gn := fun a0 s0 => ⟨[.non, .non, .non], muO 0 cP a0 (flPast s0)⟩) (Gb := fun _ : Unit => ⟨[], mu0⟩) (m := fun d => m_Past_init d.1 d.2.1) id F sc_Past_init (prm_cons (prm_cons prm_nil)) rfl (by decide) (fun _ _ => rfl) (fun cdv Ar outer s H E a0 ⟨p0, p1, ()⟩ hr => (xs_fset T.cf_Past (x_var (d := p0) 1) (xs_fset T.cf_Past (x_var (d := p1) 2) (xs_nil (⟨p0, p1⟩ : PastD) (wk_of (.non (.non (.non .nil))))))))
theorem has_Past_init {P : Program} {w : World} {K : PySem.W.Frag} {mg : Str → Option Value} {base : Heap} {cS cT cP cC : Addr} (T : Tx P w K mg base cS cT cP cC) : HasC P w K mg base "Past" cP 1 (SpI cP flPast (ysC (tOpt (tTup P2T)) (ysC (tTup tInt) ysN)) fun d => f_Past_init d.1 d.2.1) := by
  obtain ⟨f, fd, F, hM, hm, hF⟩ := fn_Past_init T
  exact ⟨f, fd, _, hF, hM, hm, (F.bindsN fun _ _ _ _ _ _ us hl => match us, hl with | [_, _, _], _ => rfl)⟩
abbrev s_Past_possible : Stmt := mth 63 1
theorem sc_Past_possible : FnScope ["self"] ["self"] (defScope s_Past_possible) := ⟨rfl, rfl, rfl, by decide +kernel, rfl, by decide +kernel, by decide +kernel⟩
def m_Past_possible (p0 : PastD) : Option (Out Unit Unit Bool) := some (.ret (!p0.row.isNone))
def f_Past_possible (p0 : PastD) : Option Bool := retO (m_Past_possible p0)
theorem has_Past_possible {P : Program} {w : World} {K : PySem.W.Frag} {mg : Str → Option Value} {base : Heap} {cS cT cP cC : Addr} (T : Tx P w K mg base cS cT cP cC) : HasP P w K mg base cP "possible" 1 (SpF (ysC (tPast cP) ysN) tBool fun d => f_Past_possible d.1) := by
  obtain ⟨p, f, fd, F, hm⟩ := T.m_Past_possible
  exact ⟨p, f, fd, ["self"], fnok_def (A := (ysC (tPast cP) ysN)) (R := tBool) (k := 0) (Gn := fun _ : Unit => ⟨[], mu0⟩) (Gb := fun _ : Unit => ⟨[], mu0⟩) F sc_Past_possible (prm_cons prm_nil) rfl (m := fun d => m_Past_possible d.1) (fun cdv Ar outer s H E ⟨p0, ()⟩ hr => (xs_ret (x_notN (x_fld T.cf_Past (x_var (d := p0) 0))))), hm, (F.bindsN fun _ _ _ _ _ _ us hl => match us, hl with | [_], _ => rfl)⟩
abbrev s_goal_of : Stmt := top 65
theorem sc_goal_of : FnScope ["standing", "early"] ["standing", "early"] (defScope s_goal_of) := ⟨rfl, rfl, rfl, by decide +kernel, rfl, by decide +kernel, by decide +kernel⟩
def m_goal_of (p0 : StandD) (p1 : Unit) : Option (Out Unit Unit (List Int)) := (if true = true then ((f_home_stage p0).bind fun d2 => some (.ret d2)) else none)
def f_goal_of (p0 : StandD) (p1 : Unit) : Option (List Int) := retO (m_goal_of p0 p1)
theorem has_goal_of {P : Program} {w : World} {K : PySem.W.Frag} {mg : Str → Option Value} {base : Heap} {cS cT cP cC : Addr} (T : Tx P w K mg base cS cT cP cC) : Has P w K mg base "goal_of" 2 (SpF (ysC (tStand cS cT) (ysC tNon ysN)) (tTup tInt) fun d => f_goal_of d.1 d.2.1) := by
  obtain ⟨f, fd, F, hm⟩ := T.d_goal_of
  exact has_def (A := (ysC (tStand cS cT) (ysC tNon ysN))) (R := (tTup tInt)) (k := 1) (Gn := fun _ : Unit => ⟨[], mu0⟩) (Gb := fun _ : Unit => ⟨[], mu0⟩) F hm sc_goal_of (prm_cons (prm_cons prm_nil)) rfl (F.bindsN fun _ _ _ _ _ _ us hl => match us, hl with | [_, _], _ => rfl)
    (m := fun d => m_goal_of d.1 d.2.1) (fun cdv Ar outer s H E ⟨p0, p1, ()⟩ hr => (xs_ifx (xt_isN (x_nonO (x_var (d := p1) 1))) (fun g1 => (xs_let fun d2 h3 => (xs_ret (x_got h3 (x_eq (x_call (has_home_stage T) (hr.mono (by decide)) (xa_cons (x_var (d := p0) 0) xa_nil)) rfl))))) (fun g1 => nomatch g1)))
abbrev s_can_lend : Stmt := top 66
theorem sc_can_lend : FnScope ["standing", "tool", "house"] ["standing", "tool", "house"] (defScope s_can_lend) := ⟨rfl, rfl, rfl, by decide +kernel, rfl, by decide +kernel, by decide +kernel⟩
def m_can_lend (p0 : StandD) (p1 : Int) (p2 : Int) : Option (Out Unit Unit Bool) := ((if (decide (p1 < (0 : Int))) = true then some true else ((smallO p0.ways).bind fun d1 => some (decide ((p0.ways.length : Int) ≤ p1)))).bind fun d3 => (if d3 = true then some (.ret false) else ((f_Standing_holder p0 p1).bind fun d6 => ((f_Street_lends_to p0.street d6).bind fun d8 => ((if (d8.any (fun y => decide (p2 = y))) = true then ((f_Standing_is_full p0 p2).bind fun d10 => some (!d10)) else some false).bind fun d12 => some (.ret d12))))))
def f_can_lend (p0 : StandD) (p1 : Int) (p2 : Int) : Option Bool := retO (m_can_lend p0 p1 p2)
theorem has_can_lend {P : Program} {w : World} {K : PySem.W.Frag} {mg : Str → Option Value} {base : Heap} {cS cT cP cC : Addr} (T : Tx P w K mg base cS cT cP cC) : Has P w K mg base "can_lend" 3 (SpF (ysC (tStand cS cT) (ysC tInt (ysC tInt ysN))) tBool fun d => f_can_lend d.1 d.2.1 d.2.2.1) := by
  obtain ⟨f, fd, F, hm⟩ := T.d_can_lend
  exact has_def (A := (ysC (tStand cS cT) (ysC tInt (ysC tInt ysN)))) (R := tBool) (k := 2) (Gn := fun _ : Unit => ⟨[], mu0⟩) (Gb := fun _ : Unit => ⟨[], mu0⟩) F hm sc_can_lend (prm_cons (prm_cons (prm_cons prm_nil))) rfl (F.bindsN fun _ _ _ _ _ _ us hl => match us, hl with | [_, _, _], _ => rfl)
    (m := fun d => m_can_lend d.1 d.2.1 d.2.2.1) (fun cdv Ar outer s H E ⟨p0, p1, p2, ()⟩ hr => (xs_let fun d3 h4 => (xs_ifx (xt_got h4 (XW.t (xw_or (xt_lt (x_var (d := p1) 1) x_int) (fun _ => (xw_let fun d1 h2 => (xw_or1 (xt_ge (x_var (d := p1) 1) (x_lenO (hasL_Standing_len T) (hr.mono (by decide)) T.b_len (x_var (d := p0) 0) rfl (smallO_ok h2))))))))) (fun g5 => (xs_ret x_bl)) (fun g5 => (xs_let fun d6 h7 => (xs_let fun d8 h9 => (xs_let fun d12 h13 => (xs_ret (x_got h13 (x_and (x_eq (x_inT fe_int (x_var (d := p2) 2) (x_got h9 (x_eq (x_meth T.cf_Street.cl (has_Street_lends_to T) (hr.mono (by decide)) (x_fld T.cf_Standing (x_var (d := p0) 0)) (xa_cons (x_got h7 (x_eq (x_meth T.cf_Standing.cl (has_Standing_holder T) (hr.mono (by decide)) (x_var (d := p0) 0) (xa_cons (x_var (d := p1) 1) xa_nil)) rfl)) xa_nil)) rfl))) rfl) (fun _ => (x_let fun d10 h11 => (x_one (x_not (x_got h11 (x_eq (x_meth T.cf_Standing.cl (has_Standing_is_full T) (hr.mono (by decide)) (x_var (d := p0) 0) (xa_cons (x_var (d := p2) 2) xa_nil)) rfl))))))))))))))))
abbrev s_is_past : Stmt := top 67
theorem sc_is_past : FnScope ["standing", "pairs", "early", "current", "tool", "house"] ["standing", "pairs", "early"] (defScope s_is_past) := ⟨rfl, rfl, rfl, by decide +kernel, rfl, by decide +kernel, by decide +kernel⟩
def m_is_past (p0 : StandD) (p1 : (List (Int × Int × Unit))) (p2 : Unit) : Option (Out Unit Unit Bool) := ((f_goal_of p0 p2).bind fun d1 => ((f_Standing_cut p0 d1).bind fun d3 => (thenO (forO (fun (x6 : (Int × Int × Unit)) (s5 : StandD) => ((f_can_lend s5 x6.1 x6.2.1).bind fun d7 => (if (!d7) = true then some (.ret false) else ((f_Standing_lent s5 x6.1 x6.2.1).bind fun d10 => some (.nx d10))))) p1 d3) fun s5 : StandD => some (.ret (decide (s5.ways = p0.ways))))))
def f_is_past (p0 : StandD) (p1 : (List (Int × Int × Unit))) (p2 : Unit) : Option Bool := retO (m_is_past p0 p1 p2)
theorem fn_is_past {P : Program} {w : World} {K : PySem.W.Frag} {mg : Str → Option Value} {base : Heap} {cS cT cP cC : Addr} (T : Tx P w K mg base cS cT cP cC) : ∃ f fd, FunD K "is_past" "is_past" (defArgs s_is_past) (defBody s_is_past) (defScope s_is_past) [] [("early", .non)] f fd ∧ mg "is_past" = some (.ref f) ∧ FnOk P w K mg base CX0 8 f fd ["standing", "pairs", "early"] (SpF (ysC (tStand cS cT) (ysC (tTup P2T) (ysC tNon ysN))) tBool fun d => f_is_past d.1 d.2.1 d.2.2.1) := by
  obtain ⟨f, fd, F, hm⟩ := T.d_is_past
  exact ⟨f, fd, F, hm, fnok_def (A := (ysC (tStand cS cT) (ysC (tTup P2T) (ysC tNon ysN)))) (R := tBool) (k := 7) (Gn := fun _ : Unit => ⟨[], mu0⟩) (Gb := fun _ : Unit => ⟨[], mu0⟩) F sc_is_past (prm_cons (prm_cons (prm_cons prm_nil))) rfl (m := fun d => m_is_past d.1 d.2.1 d.2.2.1) (fun cdv Ar outer s H E ⟨p0, p1, p2, ()⟩ hr => (xs_let fun d1 h2 => (xs_let fun d3 h4 => (xs_set 3 sc_is_past.nd (x_got h4 (x_eq (x_meth T.cf_Standing.cl (has_Standing_cut T) (hr.mono (by decide)) (x_var (d := p0) 0) (xa_cons (x_got h2 (x_eq (x_call (has_goal_of T) (hr.mono (by decide)) (xa_cons (x_var (d := p0) 0) (xa_cons (x_var (d := p2) 2) xa_nil))) rfl)) xa_nil)) rfl)) (xs_seq (G1 := (fun s5 : StandD => (⟨[.val (tStand cS cT) p0, .val (tTup P2T) p1, .val tNon p2, .val (tStand cS cT) s5, .non, .non], mu0⟩ : Cn))) (xs_for (Gl := (fun s5 : StandD => (⟨[.val (tStand cS cT) p0, .val (tTup P2T) p1, .val tNon p2, .val (tStand cS cT) s5, .non, .non], mu0⟩ : Cn))) d3 (xi_tup (x_eq (x_call (fz_tP T) (hr.mono (by decide)) (xa_cons (x_var (d := p1) 1) xa_nil)) rfl)) (xg_tup (xgs_cons (xg_name 4 sc_is_past.nd) (xgs_cons (xg_name 5 sc_is_past.nd) xgs_nil))) (wk_of (.same (.same (.same (.same (.non (.non .nil))))))) (fun _ => rfl) (fun x6 s5 => (xs_let fun d7 h8 => (xs_ifx (xt_not (xt_val (x_got h8 (x_eq (x_call (has_can_lend T) (hr.mono (by decide)) (xa_cons (x_var (d := s5) 3) (xa_cons (x_var (d := x6.1) 4) (xa_cons (x_var (d := x6.2.1) 5) xa_nil)))) rfl)))) (fun g9 => (xs_ret x_bl)) (fun g9 => (xs_let fun d10 h11 => (xs_set 3 sc_is_past.nd (x_got h11 (x_eq (x_meth T.cf_Standing.cl (has_Standing_lent T) (hr.mono (by decide)) (x_var (d := s5) 3) (xa_cons (x_var (d := x6.1) 4) (xa_cons (x_var (d := x6.2.1) 5) xa_nil))) rfl)) (xs_nil d10 (wk_of (.same (.same (.same (.same (.non (.non .nil))))))))))))))) (fun s5 => (xs_ret (x_eqD (de_tup (de_tup de_int)) hr.units (x_fld T.cf_Standing (x_var (d := s5) 3)) (x_fld T.cf_Standing (x_var (d := p0) 0))))))))))⟩
theorem hasD_is_past {P : Program} {w : World} {K : PySem.W.Frag} {mg : Str → Option Value} {base : Heap} {cS cT cP cC : Addr} (T : Tx P w K mg base cS cT cP cC) : HasK P w K mg base "is_past" 8 2 [] (fun vs zs => vs ++ ([.non] ++ zs)) (SpF (ysC (tStand cS cT) (ysC (tTup P2T) (ysC tNon ysN))) tBool fun d => f_is_past d.1 d.2.1 d.2.2.1) := by
  obtain ⟨f, fd, F, hm, hF⟩ := fn_is_past T
  obtain ⟨mv, hb⟩ := kb_iD F
  exact ⟨f, fd, _, _, hF, hm, F.kp, hb⟩
def f_is_pastN (p0 : StandD) (p1 : (List (Int × Int × Unit))) : Option Bool := f_is_past p0 p1 ()
abbrev s_past : Stmt := top 68
theorem sc_past : FnScope ["standing", "early", "goal", "house", "tools"] ["standing", "early"] (defScope s_past) := ⟨rfl, rfl, rfl, by decide +kernel, rfl, by decide +kernel, by decide +kernel⟩
def m_past (p0 : StandD) (p1 : Unit) : Option (Out Unit Unit PastD) := ((f_goal_of p0 p1).bind fun d1 => ((f_house_short p0 d1).bind fun d3 => (if (!d3.isNone) = true then none else ((f_coming_row p0 d1).bind fun d6 => (if (d6.isNone) = true then ((f_lot_against p0 d1).bind fun d9 => ((f_Past_init none d9).bind fun d11 => some (.ret d11))) else (d6.bind fun d13 => ((f_mirror p0 d13).bind fun d15 => ((f_Past_init (some d15) ([] : (List Int))).bind fun d17 => some (.ret d17)))))))))
def f_past (p0 : StandD) (p1 : Unit) : Option PastD := retO (m_past p0 p1)
theorem fn_past {P : Program} {w : World} {K : PySem.W.Frag} {mg : Str → Option Value} {base : Heap} {cS cT cP cC : Addr} (T : Tx P w K mg base cS cT cP cC) : ∃ f fd, FunD K "past" "past" (defArgs s_past) (defBody s_past) (defScope s_past) [] [("early", .non)] f fd ∧ mg "past" = some (.ref f) ∧ FnOk P w K mg base CX0 13 f fd ["standing", "early"] (SpF (ysC (tStand cS cT) (ysC tNon ysN)) (tPast cP) fun d => f_past d.1 d.2.1) := by
  obtain ⟨f, fd, F, hm⟩ := T.d_past
  exact ⟨f, fd, F, hm, fnok_def (A := (ysC (tStand cS cT) (ysC tNon ysN))) (R := (tPast cP)) (k := 12) (Gn := fun _ : Unit => ⟨[], mu0⟩) (Gb := fun _ : Unit => ⟨[], mu0⟩) F sc_past (prm_cons (prm_cons prm_nil)) rfl (m := fun d => m_past d.1 d.2.1) (fun cdv Ar outer s H E ⟨p0, p1, ()⟩ hr => (xs_let fun d1 h2 => (xs_set 2 sc_past.nd (x_got h2 (x_eq (x_call (has_goal_of T) (hr.mono (by decide)) (xa_cons (x_var (d := p0) 0) (xa_cons (x_var (d := p1) 1) xa_nil))) rfl)) (xs_let fun d3 h4 => (xs_set 3 sc_past.nd (x_got h4 (x_eq (x_call (has_house_short T) (hr.mono (by decide)) (xa_cons (x_var (d := p0) 0) (xa_cons (x_var (d := d1) 2) xa_nil))) rfl)) (xs_ifx (xt_notN (x_var (d := d3) 3)) (fun g5 => xs_fail) (fun g5 => (xs_let fun d6 h7 => (xs_set 4 sc_past.nd (x_got h7 (x_eq (x_call (has_coming_row T) (hr.mono (by decide)) (xa_cons (x_var (d := p0) 0) (xa_cons (x_var (d := d1) 2) xa_nil))) rfl)) (xs_ifx (xt_isN (x_var (d := d6) 4)) (fun g8 => (xs_let fun d9 h10 => (xs_let fun d11 h12 => (xs_ret (x_got h12 (x_eq (x_make (has_Past_init T) (hr.mono (by decide)) (xa_cons x_none (xa_cons (x_got h10 (x_eq (x_call (has_lot_against T) (hr.mono (by decide)) (xa_cons (x_var (d := p0) 0) (xa_cons (x_var (d := d1) 2) xa_nil))) rfl)) xa_nil))) rfl)))))) (fun g8 => (xs_let fun d13 h14 => (xs_let fun d15 h16 => (xs_let fun d17 h18 => (xs_ret (x_got h18 (x_eq (x_make (has_Past_init T) (hr.mono (by decide)) (xa_cons (x_some nn_tup (x_got h16 (x_eq (x_call (has_mirror T) (hr.mono (by decide)) (xa_cons (x_var (d := p0) 0) (xa_cons (x_got h14 (x_un (x_var (d := d6) 4))) xa_nil))) rfl))) (xa_cons (x_tup xa_hn) xa_nil))) rfl)))))))))))))))))⟩
theorem hasD_past {P : Program} {w : World} {K : PySem.W.Frag} {mg : Str → Option Value} {base : Heap} {cS cT cP cC : Addr} (T : Tx P w K mg base cS cT cP cC) : HasK P w K mg base "past" 13 1 [] (fun vs zs => vs ++ ([.non] ++ zs)) (SpF (ysC (tStand cS cT) (ysC tNon ysN)) (tPast cP) fun d => f_past d.1 d.2.1) := by
  obtain ⟨f, fd, F, hm, hF⟩ := fn_past T
  obtain ⟨mv, hb⟩ := kb_pD F
  exact ⟨f, fd, _, _, hF, hm, F.kp, hb⟩
theorem hasK_past {P : Program} {w : World} {K : PySem.W.Frag} {mg : Str → Option Value} {base : Heap} {cS cT cP cC : Addr} (T : Tx P w K mg base cS cT cP cC) : HasK P w K mg base "past" 13 1 ["early"] (fun vs zs => vs ++ ([] ++ zs)) (SpF (ysC (tStand cS cT) (ysC tNon ysN)) (tPast cP) fun d => f_past d.1 d.2.1) := by
  obtain ⟨f, fd, F, hm, hF⟩ := fn_past T
  obtain ⟨mv, hb⟩ := kb_pK F
  exact ⟨f, fd, _, _, hF, hm, F.kp, hb⟩
def f_pastN (p0 : StandD) : Option PastD := f_past p0 ()
end Pg
set_option Elab.async false
set_option linter.all false
set_option maxRecDepth 100000
set_option maxHeartbeats 1000000
namespace Pg
open PySem PySem.Spec PyProof.Rows L2
abbrev s_L_whole : Stmt := top 70
theorem sc_L_whole : FnScope ["_law_value"] ["_law_value"] (defScope s_L_whole) := ⟨rfl, rfl, rfl, by decide +kernel, rfl, by decide +kernel, by decide +kernel⟩
def m_L_whole (p0 : Int) : Option (Out Unit Unit Bool) := some (.ret (true && (!false)))
def f_L_whole (p0 : Int) : Option Bool := retO (m_L_whole p0)
theorem has_L_whole {P : Program} {w : World} {K : PySem.W.Frag} {mg : Str → Option Value} {base : Heap} {cS cT cP cC : Addr} (T : Tx P w K mg base cS cT cP cC) : Has P w K mg base "_law_whole" 1 (SpF (ysC tInt ysN) tBool fun d => f_L_whole d.1) := by
  obtain ⟨f, fd, F, hm⟩ := T.d_L_whole
  exact has_def (A := (ysC tInt ysN)) (R := tBool) (k := 0) (Gn := fun _ : Unit => ⟨[], mu0⟩) (Gb := fun _ : Unit => ⟨[], mu0⟩) F hm sc_L_whole (prm_cons prm_nil) rfl (F.bindsN fun _ _ _ _ _ _ us hl => match us, hl with | [_], _ => rfl)
    (m := fun d => m_L_whole d.1) (fun cdv Ar outer s H E ⟨p0, ()⟩ hr => (xs_ret (x_eq (x_and (x_isiTy (tn := "int") (b := true) T.b_isinstance (x_var (d := p0) 0) (pe_bltn (v := .ty "int") (u := .type "int") rfl T.b_int (by decide +kernel) rfl) (fun v H h => tyx_int v H h) (by decide +kernel)) (fun _ => (x_one (x_not (x_isiTy (tn := "int") (b := false) T.b_isinstance (x_var (d := p0) 0) (pe_bltn (v := .ty "bool") (u := .type "bool") rfl T.b_bool (by decide +kernel) rfl) (fun v H h => tyx_int v H h) (by decide +kernel)))))) and_p)))
abbrev s_L_cell : Stmt := top 71
theorem sc_L_cell : FnScope ["_law_script", "_law_k", "_law_seed", "_law_cell_here"] ["_law_script", "_law_k"] (defScope s_L_cell) := ⟨rfl, rfl, rfl, by decide +kernel, rfl, by decide +kernel, by decide +kernel⟩
def m_L_cell (p0 : (List Int)) (p1 : Int) : Option (Out Unit Unit Int) := (if (decide (p1 < (p0.length : Int))) = true then ((atI p0 p1).bind fun d2 => some (.ret d2)) else (thenO (forO (fun (x5 : Int) (s4 : Int) => some (.nx (((s4 * (31 : Int)) + (x5 % (1000003 : Int))) % (1000003 : Int)))) p0 (17 : Int)) fun s4 : Int => ((mulO (s4 + (7 : Int)) (p1 + (3 : Int))).bind fun d6 => some (.ret ((d6 * (69621 : Int)) % (2147483647 : Int))))))
def f_L_cell (p0 : (List Int)) (p1 : Int) : Option Int := retO (m_L_cell p0 p1)
theorem has_L_cell {P : Program} {w : World} {K : PySem.W.Frag} {mg : Str → Option Value} {base : Heap} {cS cT cP cC : Addr} (T : Tx P w K mg base cS cT cP cC) : Has P w K mg base "_law_cell" 1 (SpF (ysC (tScr K) (ysC tInt ysN)) tInt fun d => f_L_cell d.1 d.2.1) := by
  obtain ⟨f, fd, F, hm⟩ := T.d_L_cell
  exact has_def (A := (ysC (tScr K) (ysC tInt ysN))) (R := tInt) (k := 0) (Gn := fun _ : Unit => ⟨[], mu0⟩) (Gb := fun _ : Unit => ⟨[], mu0⟩) F hm sc_L_cell (prm_cons (prm_cons prm_nil)) rfl (F.bindsN fun _ _ _ _ _ _ us hl => match us, hl with | [_, _], _ => rfl)
    (m := fun d => m_L_cell d.1 d.2.1) (fun cdv Ar outer s H E ⟨p0, p1, ()⟩ hr => (xs_ifx (xt_lt (x_var (d := p1) 1) (x_lenS T.b_len (x_var (d := p0) 0))) (fun g1 => (xs_let fun d2 h3 => (xs_ret (x_got h3 (x_ixS (x_var (d := p0) 0) (x_var (d := p1) 1)))))) (fun g1 => (xs_set 2 sc_L_cell.nd x_int (xs_seq (G1 := (fun s4 : Int => (⟨[.val (tScr K) p0, .val tInt p1, .val tInt s4, .non], mu0⟩ : Cn))) (xs_for (Gl := (fun s4 : Int => (⟨[.val (tScr K) p0, .val tInt p1, .val tInt s4, .non], mu0⟩ : Cn))) (17 : Int) (xi_scr (x_var (d := p0) 0)) (xg_name 3 sc_L_cell.nd) (wk_of (.same (.same (.same (.non .nil))))) (fun _ => rfl) (fun x5 s4 => (xs_set 2 sc_L_cell.nd (x_eq (x_mod (x_toint T.b_int (x_add (x_eq (x_mul (x_var (d := s4) 2) x_int) (mulO_r (by decide))) (x_eq (x_mod (x_toint T.b_int (x_var (d := x5) 3)) x_int) rfl))) x_int) rfl) (xs_nil (((s4 * (31 : Int)) + (x5 % (1000003 : Int))) % (1000003 : Int)) (wk_of (.same (.same (.same (.non .nil))))))))) (fun s4 => (xs_let fun d6 h7 => (xs_ret (x_eq (x_mod (x_toint T.b_int (x_eq (x_mul (x_got h7 (x_mul (x_add (x_var (d := s4) 2) x_int) (x_add (x_var (d := p1) 1) x_int))) x_int) (mulO_r (by decide)))) x_int) rfl)))))))))
abbrev s_L_digits : Stmt := top 72
theorem sc_L_digits : FnScope ["_law_cell_here", "_law_sizes", "_law_row_here", "_law_rest", "_law_size", "_law_seed", "_law_k", "_law_twice"] ["_law_cell_here", "_law_sizes"] (defScope s_L_digits) := ⟨rfl, rfl, rfl, by decide +kernel, rfl, by decide +kernel, by decide +kernel⟩
def m_L_digits (p0 : Int) (p1 : (List Int)) : Option (Out Unit Unit (List Int)) := (if (decide ((1000000000000000000 : Int) ≤ p0)) = true then (thenO (forO (fun (x3 : Int) (s2 : (Int × (List Int))) => ((modO s2.1 x3).bind fun d4 => ((appO s2.2 d4).bind fun d6 => ((divO s2.1 x3).bind fun d8 => some (.nx (d8, d6)))))) p1 ((p0 - (1000000000000000000 : Int)), ([] : (List Int)))) fun s2 : (Int × (List Int)) => some (.ret s2.2)) else ((rngO 0 (p1.length : Int)).bind fun d10 => (thenO (forO (fun (x13 : Int) (s12 : (Int × (List Int))) => ((mulO ((((s12.1 * (48271 : Int)) + ((974711 : Int) * x13)) + (12345 : Int)) % (2147483647 : Int)) ((((((s12.1 * (48271 : Int)) + ((974711 : Int) * x13)) + (12345 : Int)) % (2147483647 : Int)) / (65537 : Int)) + (3 : Int))).bind fun d14 => ((atI p1 x13).bind fun d16 => ((modO ((d14 % (2147483629 : Int)) / (19 : Int)) d16).bind fun d18 => ((appO s12.2 d18).bind fun d20 => some (.nx (((((s12.1 * (48271 : Int)) + ((974711 : Int) * x13)) + (12345 : Int)) % (2147483647 : Int)), d20))))))) d10 ((p0 % (2147483629 : Int)), ([] : (List Int)))) fun s12 : (Int × (List Int)) => some (.ret s12.2))))
def f_L_digits (p0 : Int) (p1 : (List Int)) : Option (List Int) := retO (m_L_digits p0 p1)
theorem has_L_digits {P : Program} {w : World} {K : PySem.W.Frag} {mg : Str → Option Value} {base : Heap} {cS cT cP cC : Addr} (T : Tx P w K mg base cS cT cP cC) : Has P w K mg base "_law_digits" 1 (SpF (ysC tInt (ysC (tLst tInt) ysN)) (tLst tInt) fun d => f_L_digits d.1 d.2.1) := by
  obtain ⟨f, fd, F, hm⟩ := T.d_L_digits
  exact has_def (A := (ysC tInt (ysC (tLst tInt) ysN))) (R := (tLst tInt)) (k := 0) (Gn := fun _ : Unit => ⟨[], mu0⟩) (Gb := fun _ : Unit => ⟨[], mu0⟩) F hm sc_L_digits (prm_cons (prm_cons prm_nil)) rfl (F.bindsN fun _ _ _ _ _ _ us hl => match us, hl with | [_, _], _ => rfl)
    (m := fun d => m_L_digits d.1 d.2.1) (fun cdv Ar outer s H E ⟨p0, p1, ()⟩ hr => (xs_new 2 sc_L_digits.nd rfl (xf_lst xa_hn) (xs_set 3 sc_L_digits.nd (x_toint T.b_int (x_var (d := p0) 0)) (xs_ifx (xt_ge (x_var (d := p0) 3) (x_eq (x_pow x_int x_int) rfl)) (fun g1 => (xs_set 3 sc_L_digits.nd (x_sub (x_var (d := p0) 3) (x_eq (x_pow x_int x_int) rfl)) (xs_seq (G1 := (fun s2 : (Int × (List Int)) => (⟨[.val tInt p0, .val (tLst tInt) p1, .non, .val tInt s2.1, .non, .non, .non, .non], (muL 2 tInt s2.2)⟩ : Cn))) (xs_for (Gl := (fun s2 : (Int × (List Int)) => (⟨[.val tInt p0, .val (tLst tInt) p1, .non, .val tInt s2.1, .non, .non, .non, .non], (muL 2 tInt s2.2)⟩ : Cn))) ((p0 - (1000000000000000000 : Int)), ([] : (List Int))) (xi_list (x_var (d := p1) 1)) (xg_name 4 sc_L_digits.nd) (wk_of (.same (.same (.non (.same (.non (.non (.non (.non .nil))))))))) (fun _ => rfl) (fun x3 s2 => (xs_let fun d4 h5 => (xs_let fun d6 h7 => (xs_appL (x_got h5 (x_mod (x_toint T.b_int (x_var (d := s2.1) 3)) (x_var (d := x3) 4))) h7 (xs_let fun d8 h9 => (xs_set 3 sc_L_digits.nd (x_got h9 (x_div (x_toint T.b_int (x_var (d := s2.1) 3)) (x_var (d := x3) 4))) (xs_nil (d8, d6) (wk_of (.same (.same (.non (.same (.non (.non (.non (.non .nil))))))))))))))))) (fun s2 => xs_retMu)))) (fun g1 => (xs_set 5 sc_L_digits.nd (x_eq (x_mod (x_toint T.b_int (x_var (d := p0) 3)) x_int) rfl) (xs_let fun d10 h11 => (xs_seq (G1 := (fun s12 : (Int × (List Int)) => (⟨[.val tInt p0, .val (tLst tInt) p1, .non, .val tInt p0, .non, .val tInt s12.1, .non, .non], (muL 2 tInt s12.2)⟩ : Cn))) (xs_for (Gl := (fun s12 : (Int × (List Int)) => (⟨[.val tInt p0, .val (tLst tInt) p1, .non, .val tInt p0, .non, .val tInt s12.1, .non, .non], (muL 2 tInt s12.2)⟩ : Cn))) ((p0 % (2147483629 : Int)), ([] : (List Int))) (xi_rng1 T.b_range (x_lenL T.b_len (x_var (d := p1) 1)) h11) (xg_name 6 sc_L_digits.nd) (wk_of (.same (.same (.non (.same (.non (.same (.non (.non .nil))))))))) (fun _ => rfl) (fun x13 s12 => (xs_set 5 sc_L_digits.nd (x_eq (x_mod (x_toint T.b_int (x_add (x_add (x_eq (x_mul (x_var (d := s12.1) 5) x_int) (mulO_r (by decide))) (x_eq (x_mul x_int (x_var (d := x13) 6)) (mulO_l (by decide)))) x_int)) x_int) rfl) (xs_let fun d14 h15 => (xs_set 7 sc_L_digits.nd (x_eq (x_mod (x_toint T.b_int (x_got h15 (x_mul (x_var (d := ((((s12.1 * (48271 : Int)) + ((974711 : Int) * x13)) + (12345 : Int)) % (2147483647 : Int))) 5) (x_add (x_eq (x_div (x_var (d := ((((s12.1 * (48271 : Int)) + ((974711 : Int) * x13)) + (12345 : Int)) % (2147483647 : Int))) 5) x_int) rfl) x_int)))) x_int) rfl) (xs_let fun d16 h17 => (xs_let fun d18 h19 => (xs_let fun d20 h21 => (xs_appL (x_got h19 (x_mod (x_eq (x_div (x_var (d := (d14 % (2147483629 : Int))) 7) x_int) rfl) (x_got h17 (x_ixL (x_var (d := p1) 1) (x_var (d := x13) 6))))) h21 (xs_nil (((((s12.1 * (48271 : Int)) + ((974711 : Int) * x13)) + (12345 : Int)) % (2147483647 : Int)), d20) (wk_of (.same (.same (.non (.same (.non (.same (.non (.non .nil))))))))))))))))))) (fun s12 => xs_retMu)))))))))
abbrev s_L_street : Stmt := top 73
theorem sc_L_street : FnScope ["_law_row_here", "_law_menu", "_law_many", "_law_pegs", "_law_k", "_law_lanes", "_law_a", "_law_b", "_law_digit"] ["_law_row_here", "_law_menu"] (defScope s_L_street) := ⟨rfl, rfl, rfl, by decide +kernel, rfl, by decide +kernel, by decide +kernel⟩
def m_L_street (p0 : (List Int)) (p1 : (List Int)) : Option (Out Unit Unit ((List Int) × (List (Int × Int × Unit)) × Unit)) := ((atI p0 (0 : Int)).bind fun d1 => ((atI [(3 : Int), (4 : Int), (3 : Int), (4 : Int), (5 : Int), (2 : Int), (6 : Int), (4 : Int)] d1).bind fun d3 => ((rngO 0 d3).bind fun d5 => ((mapO (fun (x7 : Int) => ((atI p0 ((1 : Int) + x7)).bind fun d8 => ((atI p1 d8).bind fun d10 => some d10))) d5).bind fun d12 => ((rngO 0 d3).bind fun d14 => (thenO (forO (fun (x17 : Int) (s16 : (List (Int × Int × Unit))) => ((rngO 0 d3).bind fun d18 => (thenO (forO (fun (x22 : Int) (s21 : (List (Int × Int × Unit))) => ((atI p0 ((((7 : Int) + ((5 : Int) * x17)) + x22) - (if (decide (x17 < x22)) = true then 1 else 0 : Int))).bind fun d23 => ((if (decide (d23 < (3 : Int))) = true then some true else ((modO (x17 + (1 : Int)) d3).bind fun d25 => some ((decide (x22 = d25)) && (decide (d23 < (9 : Int)))))).bind fun d27 => (thenO (if d27 = true then ((appO s21 (x17, x22, ())).bind fun d31 => some (.nx d31)) else some (.nx s21)) fun s30 : (List (Int × Int × Unit)) => some (.nx s30))))) (d18.filter fun (x20 : Int) => (!decide (x20 = x17))) s16) fun s21 : (List (Int × Int × Unit)) => some (.nx s21)))) d14 ([] : (List (Int × Int × Unit)))) fun s16 : (List (Int × Int × Unit)) => some (.ret (d12, s16, ()))))))))
def f_L_street (p0 : (List Int)) (p1 : (List Int)) : Option ((List Int) × (List (Int × Int × Unit)) × Unit) := retO (m_L_street p0 p1)
theorem has_L_street {P : Program} {w : World} {K : PySem.W.Frag} {mg : Str → Option Value} {base : Heap} {cS cT cP cC : Addr} (T : Tx P w K mg base cS cT cP cC) : Has P w K mg base "_law_street" 1 (SpF (ysC (tLst tInt) (ysC (tLst tInt) ysN)) (tLstN (ysC (tLst tInt) (ysC (tLst P2T) ysN))) fun d => f_L_street d.1 d.2.1) := by
  obtain ⟨f, fd, F, hm⟩ := T.d_L_street
  exact has_def (A := (ysC (tLst tInt) (ysC (tLst tInt) ysN))) (R := (tLstN (ysC (tLst tInt) (ysC (tLst P2T) ysN)))) (k := 0) (Gn := fun _ : Unit => ⟨[], mu0⟩) (Gb := fun _ : Unit => ⟨[], mu0⟩) F hm sc_L_street (prm_cons (prm_cons prm_nil)) rfl (F.bindsN fun _ _ _ _ _ _ us hl => match us, hl with | [_, _], _ => rfl)
    (m := fun d => m_L_street d.1 d.2.1) (fun cdv Ar outer s H E ⟨p0, p1, ()⟩ hr => (xs_let fun d1 h2 => (xs_let fun d3 h4 => (xs_set 2 sc_L_street.nd (x_got h4 (x_ixL (x_lst (xa_hc x_int (xa_hc x_int (xa_hc x_int (xa_hc x_int (xa_hc x_int (xa_hc x_int (xa_hc x_int (xa_hc x_int xa_hn))))))))) (x_got h2 (x_ixL (x_var (d := p0) 0) x_int)))) (xs_let fun d5 h6 => (xs_let fun d12 h13 => (xs_lc (ys := (d12 : (List Int))) 3 [("_law_k", 4)] sc_L_street.nd (xi_rng1 T.b_range (x_var (d := d3) 2) h6) (fun _ _ _ _ _ => (xg_name 4 sc_L_street.nd)) xf_no (fun _ _ _ _ _ x7 => (x_let fun d8 h9 => (x_let fun d10 h11 => (x_got h11 (x_ixL (x_var (d := p1) 1) (x_got h9 (x_ixL (x_var (d := p0) 0) (x_add x_int (x_var (d := x7) 4))))))))) (((lcM_mapO _ _)).trans h13) (xs_new 5 sc_L_street.nd rfl (xf_lst xa_hn) (xs_let fun d14 h15 => (xs_seq (G1 := (fun s16 : (List (Int × Int × Unit)) => (⟨[.val (tLst tInt) p0, .val (tLst tInt) p1, .val tInt d3, .val (tLst tInt) d12, .non, .non, .non, .non, .non], (muL 5 P2T s16)⟩ : Cn))) (xs_for (Gl := (fun s16 : (List (Int × Int × Unit)) => (⟨[.val (tLst tInt) p0, .val (tLst tInt) p1, .val tInt d3, .val (tLst tInt) d12, .non, .non, .non, .non, .non], (muL 5 P2T s16)⟩ : Cn))) ([] : (List (Int × Int × Unit))) (xi_rng1 T.b_range (x_var (d := d3) 2) h15) (xg_name 6 sc_L_street.nd) (wk_of (.same (.same (.same (.same (.non (.non (.non (.non (.non .nil)))))))))) (fun _ => rfl) (fun x17 s16 => (xs_let fun d18 h19 => (xs_seq (G1 := (fun s21 : (List (Int × Int × Unit)) => (⟨[.val (tLst tInt) p0, .val (tLst tInt) p1, .val tInt d3, .val (tLst tInt) d12, .non, .non, .val tInt x17, .non, .non], (muL 5 P2T s21)⟩ : Cn))) (xs_for (Gl := (fun s21 : (List (Int × Int × Unit)) => (⟨[.val (tLst tInt) p0, .val (tLst tInt) p1, .val tInt d3, .val (tLst tInt) d12, .non, .non, .val tInt x17, .non, .non], (muL 5 P2T s21)⟩ : Cn))) s16 (xi_list (x_eq (x_lc [("_law_b", 7)] sc_L_street.nd (xi_rng1 T.b_range (x_var (d := d3) 2) h19) (fun _ _ _ _ _ => (xg_name 7 sc_L_street.nd)) (xf_one fun _ _ _ _ _ x20 => (xt_eqm (xt_nes es_int (x_var (d := x20) 7) (x_var (d := x17) 6)) rfl)) (fun _ _ _ _ _ x20 => (x_var (d := x20) 7))) (lcM_filt _ _))) (xg_name 7 sc_L_street.nd) (wk_of (.same (.same (.same (.same (.non (.non (.same (.non (.non .nil)))))))))) (fun _ => rfl) (fun x22 s21 => (xs_let fun d23 h24 => (xs_set 8 sc_L_street.nd (x_got h24 (x_ixL (x_var (d := p0) 0) (x_sub (x_add (x_add x_int (x_eq (x_mul x_int (x_var (d := x17) 6)) (mulO_l (by decide)))) (x_var (d := x22) 7)) (x_tointB T.b_int (x_gt (x_var (d := x22) 7) (x_var (d := x17) 6)))))) (xs_let fun d27 h28 => (xs_seq (G1 := (fun s30 : (List (Int × Int × Unit)) => (⟨[.val (tLst tInt) p0, .val (tLst tInt) p1, .val tInt d3, .val (tLst tInt) d12, .non, .non, .val tInt x17, .val tInt x22, .val tInt d23], (muL 5 P2T s30)⟩ : Cn))) (xs_if (xt_got h28 (XW.t (xw_or (xt_lt (x_var (d := d23) 8) x_int) (fun _ => (xw_let fun d25 h26 => (xw_or1 (XW.t (xw_eqm (xw_and (xt_eqm (xt_eqs es_int (x_var (d := x22) 7) (x_got h26 (x_mod (x_toint T.b_int (x_add (x_var (d := x17) 6) x_int)) (x_var (d := d3) 2)))) rfl) (fun _ => (xw_and1 (xt_lt (x_var (d := d23) 8) x_int)))) and_p)))))))) (fun g29 => (xs_let fun d31 h32 => (xs_appL (x_tupN (xa_cons (x_var (d := x17) 6) (xa_cons (x_var (d := x22) 7) xa_nil))) h32 (xs_nil d31 (wk_of (.same (.same (.same (.same (.non (.non (.same (.same (.same .nil)))))))))))))) (fun g29 => (xs_nil s21 (wk_of (.same (.same (.same (.same (.non (.non (.same (.same (.same .nil))))))))))))) (fun s30 => (xs_nil s30 (wk_of (.same (.same (.same (.same (.non (.non (.same (.non (.non .nil)))))))))))))))))) (fun s21 => (xs_nil s21 (wk_of (.same (.same (.same (.same (.non (.non (.non (.non (.non .nil)))))))))))))))) (fun s16 => (xs_hold (xs_ret (x_lstN (xa_cons (x_var (d := d12) 3) (xa_cons (x_var (d := s16) 5) xa_nil))))))))))))))))
abbrev s_L_load : Stmt := top 74
theorem sc_L_load : FnScope ["_law_ways", "_law_house", "_law_way_here"] ["_law_ways", "_law_house"] (defScope s_L_load) := ⟨rfl, rfl, rfl, by decide +kernel, rfl, by decide +kernel, by decide +kernel⟩
def m_L_load (p0 : (List (List Int))) (p1 : Int) : Option (Out Unit Unit Int) := ((filO (fun (x1 : (List Int)) => ((if (decide ((1 : Int) < (x1.length : Int))) = true then ((atI x1 (-(1 : Int))).bind fun d2 => some (decide (d2 = p1))) else some false).bind fun d4 => some d4)) p0).bind fun d6 => some (.ret (d6.length : Int)))
def f_L_load (p0 : (List (List Int))) (p1 : Int) : Option Int := retO (m_L_load p0 p1)
theorem has_L_load {P : Program} {w : World} {K : PySem.W.Frag} {mg : Str → Option Value} {base : Heap} {cS cT cP cC : Addr} (T : Tx P w K mg base cS cT cP cC) : Has P w K mg base "_law_load" 1 (SpF (ysC (tLst (tTup tInt)) (ysC tInt ysN)) tInt fun d => f_L_load d.1 d.2.1) := by
  obtain ⟨f, fd, F, hm⟩ := T.d_L_load
  exact has_def (A := (ysC (tLst (tTup tInt)) (ysC tInt ysN))) (R := tInt) (k := 0) (Gn := fun _ : Unit => ⟨[], mu0⟩) (Gb := fun _ : Unit => ⟨[], mu0⟩) F hm sc_L_load (prm_cons (prm_cons prm_nil)) rfl (F.bindsN fun _ _ _ _ _ _ us hl => match us, hl with | [_, _], _ => rfl)
    (m := fun d => m_L_load d.1 d.2.1) (fun cdv Ar outer s H E ⟨p0, p1, ()⟩ hr => (xs_let fun d6 h7 => (xs_ret (x_lenL T.b_len (x_got h7 (x_eq (x_lc [("_law_way_here", 2)] sc_L_load.nd (xi_list (x_var (d := p0) 0)) (fun _ _ _ _ _ => (xg_name 2 sc_L_load.nd)) (xf_one fun _ _ _ _ _ x1 => (xt_let fun d4 h5 => (xt_got h5 (XW.t (xw_and (xt_gt (x_lenT T.b_len (x_var (d := x1) 2)) x_int) (fun _ => (xw_let fun d2 h3 => (xw_and1 (xt_eqm (xt_eqs es_int (x_got h3 (x_ixT (x_var (d := x1) 2) (x_neg x_int))) (x_var (d := p1) 1)) rfl))))))))) (fun _ _ _ _ _ x1 => (x_var (d := x1) 2))) (lcM_filOi _ _)))))))
abbrev s_L_way : Stmt := top 75
theorem sc_L_way : FnScope ["_law_street_here", "_law_ways", "_law_row_here", "_law_house", "_law_way_here", "_law_k", "_law_nexts", "_law_lane"] ["_law_street_here", "_law_ways", "_law_row_here"] (defScope s_L_way) := ⟨rfl, rfl, rfl, by decide +kernel, rfl, by decide +kernel, by decide +kernel⟩
def m_L_way (p0 : ((List Int) × (List (Int × Int × Unit)) × Unit)) (p1 : (List (List Int))) (p2 : (List Int)) : Option (Out Unit Unit (List Int)) := ((atI p2 (1 : Int)).bind fun d1 => ((modO d1 (p0.1.length : Int)).bind fun d3 => ((atI p2 (0 : Int)).bind fun d5 => ((atI [(3 : Int), (2 : Int), (3 : Int), (4 : Int), (1 : Int), (2 : Int), (5 : Int), (3 : Int)] d5).bind fun d7 => ((rngO 0 (d7 - (1 : Int))).bind fun d9 => (thenO (forO (fun (x12 : Int) (s11 : (List Int)) => (((filO (fun (x13 : (Int × Int × Unit)) => ((atI s11 (-(1 : Int))).bind fun d14 => some (decide (x13.1 = d14)))) p0.2.1).map (List.map fun (x13 : (Int × Int × Unit)) => x13.2.1)).bind fun d16 => (thenO (if (decide ((0 : Int) < (d16.length : Int))) = true then ((atI p2 ((2 : Int) + x12)).bind fun d20 => ((modO d20 (d16.length : Int)).bind fun d22 => ((atI d16 d22).bind fun d24 => ((catO s11 [d24]).bind fun d26 => some (.nx d26))))) else some (.nx s11)) fun s19 : (List Int) => some (.nx s19)))) d9 [d3]) fun s11 : (List Int) => (thenO (forO (fun (x31 : Int) (s30 : (List Int)) => ((if (decide ((1 : Int) < (s30.length : Int))) = true then ((atI s30 (-(1 : Int))).bind fun d32 => ((f_L_load p1 d32).bind fun d34 => ((atI s30 (-(1 : Int))).bind fun d36 => ((atI p0.1 d36).bind fun d38 => some (decide (d38 ≤ d34)))))) else some false).bind fun d40 => (thenO (if d40 = true then some (.nx (cutD s30 none (some (-(1 : Int))))) else some (.nx s30)) fun s43 : (List Int) => some (.nx s43)))) (rng 0 (6 : Int)) s11) fun s30 : (List Int) => some (.ret s30))))))))
def f_L_way (p0 : ((List Int) × (List (Int × Int × Unit)) × Unit)) (p1 : (List (List Int))) (p2 : (List Int)) : Option (List Int) := retO (m_L_way p0 p1 p2)
theorem has_L_way {P : Program} {w : World} {K : PySem.W.Frag} {mg : Str → Option Value} {base : Heap} {cS cT cP cC : Addr} (T : Tx P w K mg base cS cT cP cC) : Has P w K mg base "_law_way" 2 (SpF (ysC (tLstN (ysC (tLst tInt) (ysC (tLst P2T) ysN))) (ysC (tLst (tTup tInt)) (ysC (tLst tInt) ysN))) (tTup tInt) fun d => f_L_way d.1 d.2.1 d.2.2.1) := by
  obtain ⟨f, fd, F, hm⟩ := T.d_L_way
  exact has_def (A := (ysC (tLstN (ysC (tLst tInt) (ysC (tLst P2T) ysN))) (ysC (tLst (tTup tInt)) (ysC (tLst tInt) ysN)))) (R := (tTup tInt)) (k := 1) (Gn := fun _ : Unit => ⟨[], mu0⟩) (Gb := fun _ : Unit => ⟨[], mu0⟩) F hm sc_L_way (prm_cons (prm_cons (prm_cons prm_nil))) rfl (F.bindsN fun _ _ _ _ _ _ us hl => match us, hl with | [_, _, _], _ => rfl)
    (m := fun d => m_L_way d.1 d.2.1 d.2.2.1) (fun cdv Ar outer s H E ⟨p0, p1, p2, ()⟩ hr => (xs_let fun d1 h2 => (xs_let fun d3 h4 => (xs_set 3 sc_L_way.nd (x_got h4 (x_mod (x_toint T.b_int (x_got h2 (x_ixL (x_var (d := p2) 2) x_int))) (x_lenL T.b_len (x_eq (x_nthL nth0 (x_var (d := p0) 0) x_int) rfl)))) (xs_set 4 sc_L_way.nd (x_tup (xa_hc (x_var (d := d3) 3) xa_hn)) (xs_let fun d5 h6 => (xs_let fun d7 h8 => (xs_let fun d9 h10 => (xs_seq (G1 := (fun s11 : (List Int) => (⟨[.val (tLstN (ysC (tLst tInt) (ysC (tLst P2T) ysN))) p0, .val (tLst (tTup tInt)) p1, .val (tLst tInt) p2, .val tInt d3, .val (tTup tInt) s11, .non, .non, .non], mu0⟩ : Cn))) (xs_for (Gl := (fun s11 : (List Int) => (⟨[.val (tLstN (ysC (tLst tInt) (ysC (tLst P2T) ysN))) p0, .val (tLst (tTup tInt)) p1, .val (tLst tInt) p2, .val tInt d3, .val (tTup tInt) s11, .non, .non, .non], mu0⟩ : Cn))) [d3] (xi_rng1 T.b_range (x_sub (x_got h8 (x_ixL (x_lst (xa_hc x_int (xa_hc x_int (xa_hc x_int (xa_hc x_int (xa_hc x_int (xa_hc x_int (xa_hc x_int (xa_hc x_int xa_hn))))))))) (x_got h6 (x_ixL (x_var (d := p2) 2) x_int)))) x_int) h10) (xg_name 5 sc_L_way.nd) (wk_of (.same (.same (.same (.same (.same (.non (.non (.non .nil))))))))) (fun _ => rfl) (fun x12 s11 => (xs_let fun d16 h17 => (xs_lc (ys := (d16 : (List Int))) 6 [("_law_lane", 7)] sc_L_way.nd (xi_list (x_eq (x_nthL (nthS nth0) (x_var (d := p0) 0) x_int) rfl)) (fun _ _ _ _ _ => (xg_name 7 sc_L_way.nd)) (xf_one fun _ _ _ _ _ x13 => (xt_let fun d14 h15 => (xt_eqm (xt_eqs es_int (x_eq (x_nthT nth0 (x_var (d := x13) 7) x_int) rfl) (x_got h15 (x_ixT (x_var (d := s11) 4) (x_neg x_int)))) rfl))) (fun _ _ _ _ _ x13 => (x_eq (x_nthT (nthS nth0) (x_var (d := x13) 7) x_int) rfl)) (((lcM_filO _ _ _)).trans h17) (xs_seq (G1 := (fun s19 : (List Int) => (⟨[.val (tLstN (ysC (tLst tInt) (ysC (tLst P2T) ysN))) p0, .val (tLst (tTup tInt)) p1, .val (tLst tInt) p2, .val tInt d3, .val (tTup tInt) s19, .val tInt x12, .val (tLst tInt) d16, .non], mu0⟩ : Cn))) (xs_if (xt_gt (x_lenL T.b_len (x_var (d := d16) 6)) x_int) (fun g18 => (xs_let fun d20 h21 => (xs_let fun d22 h23 => (xs_let fun d24 h25 => (xs_let fun d26 h27 => (xs_set 4 sc_L_way.nd (x_got h27 (x_catT (x_var (d := s11) 4) (x_tup (xa_hc (x_got h25 (x_ixL (x_var (d := d16) 6) (x_got h23 (x_mod (x_toint T.b_int (x_got h21 (x_ixL (x_var (d := p2) 2) (x_add x_int (x_var (d := x12) 5))))) (x_lenL T.b_len (x_var (d := d16) 6)))))) xa_hn)))) (xs_nil d26 (wk_of (.same (.same (.same (.same (.same (.same (.same (.non .nil)))))))))))))))) (fun g18 => (xs_nil s11 (wk_of (.same (.same (.same (.same (.same (.same (.same (.non .nil)))))))))))) (fun s19 => (xs_nil s19 (wk_of (.same (.same (.same (.same (.same (.non (.non (.non .nil)))))))))))))))) (fun s11 => (xs_seq (G1 := (fun s30 : (List Int) => (⟨[.val (tLstN (ysC (tLst tInt) (ysC (tLst P2T) ysN))) p0, .val (tLst (tTup tInt)) p1, .val (tLst tInt) p2, .val tInt d3, .val (tTup tInt) s30, .non, .non, .non], mu0⟩ : Cn))) (xs_for (Gl := (fun s30 : (List Int) => (⟨[.val (tLstN (ysC (tLst tInt) (ysC (tLst P2T) ysN))) p0, .val (tLst (tTup tInt)) p1, .val (tLst tInt) p2, .val tInt d3, .val (tTup tInt) s30, .non, .non, .non], mu0⟩ : Cn))) s11 (xi_rng1 T.b_range x_int rfl) (xg_name 5 sc_L_way.nd) (wk_of (.same (.same (.same (.same (.same (.non (.non (.non .nil))))))))) (fun _ => rfl) (fun x31 s30 => (xs_let fun d40 h41 => (xs_seq (G1 := (fun s43 : (List Int) => (⟨[.val (tLstN (ysC (tLst tInt) (ysC (tLst P2T) ysN))) p0, .val (tLst (tTup tInt)) p1, .val (tLst tInt) p2, .val tInt d3, .val (tTup tInt) s43, .val tInt x31, .non, .non], mu0⟩ : Cn))) (xs_if (xt_got h41 (XW.t (xw_and (xt_gt (x_lenT T.b_len (x_var (d := s30) 4)) x_int) (fun _ => (xw_let fun d32 h33 => (xw_let fun d34 h35 => (xw_let fun d36 h37 => (xw_let fun d38 h39 => (xw_and1 (xt_ge (x_got h35 (x_eq (x_call (has_L_load T) (hr.mono (by decide)) (xa_cons (x_var (d := p1) 1) (xa_cons (x_got h33 (x_ixT (x_var (d := s30) 4) (x_neg x_int))) xa_nil))) rfl)) (x_got h39 (x_ixL (x_eq (x_nthL nth0 (x_var (d := p0) 0) x_int) rfl) (x_got h37 (x_ixT (x_var (d := s30) 4) (x_neg x_int))))))))))))))) (fun g42 => (xs_set 4 sc_L_way.nd (x_slT (x_var (d := s30) 4) xo_none (xo_some (x_neg x_int))) (xs_nil (cutD s30 none (some (-(1 : Int)))) (wk_of (.same (.same (.same (.same (.same (.same (.non (.non .nil)))))))))))) (fun g42 => (xs_nil s30 (wk_of (.same (.same (.same (.same (.same (.same (.non (.non .nil)))))))))))) (fun s43 => (xs_nil s43 (wk_of (.same (.same (.same (.same (.same (.non (.non (.non .nil))))))))))))))) (fun s30 => (xs_ret (x_var (d := s30) 4))))))))))))))
abbrev s_L_waiting : Stmt := top 76
theorem sc_L_waiting : FnScope ["_law_street_here", "_law_size", "_law_house", "_law_row_here", "_law_way_here", "_law_k", "_law_froms", "_law_lane"] ["_law_street_here", "_law_size", "_law_house", "_law_row_here"] (defScope s_L_waiting) := ⟨rfl, rfl, rfl, by decide +kernel, rfl, by decide +kernel, by decide +kernel⟩
def m_L_waiting (p0 : ((List Int) × (List (Int × Int × Unit)) × Unit)) (p1 : Int) (p2 : Int) (p3 : (List Int)) : Option (Out Unit Unit (List Int)) := ((atI p3 (0 : Int)).bind fun d1 => ((atI [(2 : Int), (2 : Int), (3 : Int), (2 : Int), (4 : Int), (2 : Int), (3 : Int), (5 : Int)] d1).bind fun d3 => ((rngO 0 d3).bind fun d5 => (thenO (forO (fun (x8 : Int) (s7 : (List Int)) => (((filO (fun (x9 : (Int × Int × Unit)) => ((atI s7 (0 : Int)).bind fun d10 => some ((decide (x9.2.1 = d10)) && ((decide ((0 : Int) < x8)) || (decide (x9.1 < p1)))))) p0.2.1).map (List.map fun (x9 : (Int × Int × Unit)) => x9.1)).bind fun d12 => (thenO (if (decide ((0 : Int) < (d12.length : Int))) = true then ((atI p3 ((1 : Int) + x8)).bind fun d16 => ((modO d16 (d12.length : Int)).bind fun d18 => ((atI d12 d18).bind fun d20 => ((catO [d20] s7).bind fun d22 => some (.nx d22))))) else some (.nx s7)) fun s15 : (List Int) => some (.nx s15)))) d5 [p2]) fun s7 : (List Int) => some (.ret s7)))))
def f_L_waiting (p0 : ((List Int) × (List (Int × Int × Unit)) × Unit)) (p1 : Int) (p2 : Int) (p3 : (List Int)) : Option (List Int) := retO (m_L_waiting p0 p1 p2 p3)
theorem has_L_waiting {P : Program} {w : World} {K : PySem.W.Frag} {mg : Str → Option Value} {base : Heap} {cS cT cP cC : Addr} (T : Tx P w K mg base cS cT cP cC) : Has P w K mg base "_law_waiting" 1 (SpF (ysC (tLstN (ysC (tLst tInt) (ysC (tLst P2T) ysN))) (ysC tInt (ysC tInt (ysC (tLst tInt) ysN)))) (tTup tInt) fun d => f_L_waiting d.1 d.2.1 d.2.2.1 d.2.2.2.1) := by
  obtain ⟨f, fd, F, hm⟩ := T.d_L_waiting
  exact has_def (A := (ysC (tLstN (ysC (tLst tInt) (ysC (tLst P2T) ysN))) (ysC tInt (ysC tInt (ysC (tLst tInt) ysN))))) (R := (tTup tInt)) (k := 0) (Gn := fun _ : Unit => ⟨[], mu0⟩) (Gb := fun _ : Unit => ⟨[], mu0⟩) F hm sc_L_waiting (prm_cons (prm_cons (prm_cons (prm_cons prm_nil)))) rfl (F.bindsN fun _ _ _ _ _ _ us hl => match us, hl with | [_, _, _, _], _ => rfl)
    (m := fun d => m_L_waiting d.1 d.2.1 d.2.2.1 d.2.2.2.1) (fun cdv Ar outer s H E ⟨p0, p1, p2, p3, ()⟩ hr => (xs_set 4 sc_L_waiting.nd (x_tup (xa_hc (x_var (d := p2) 2) xa_hn)) (xs_let fun d1 h2 => (xs_let fun d3 h4 => (xs_let fun d5 h6 => (xs_seq (G1 := (fun s7 : (List Int) => (⟨[.val (tLstN (ysC (tLst tInt) (ysC (tLst P2T) ysN))) p0, .val tInt p1, .val tInt p2, .val (tLst tInt) p3, .val (tTup tInt) s7, .non, .non, .non], mu0⟩ : Cn))) (xs_for (Gl := (fun s7 : (List Int) => (⟨[.val (tLstN (ysC (tLst tInt) (ysC (tLst P2T) ysN))) p0, .val tInt p1, .val tInt p2, .val (tLst tInt) p3, .val (tTup tInt) s7, .non, .non, .non], mu0⟩ : Cn))) [p2] (xi_rng1 T.b_range (x_got h4 (x_ixL (x_lst (xa_hc x_int (xa_hc x_int (xa_hc x_int (xa_hc x_int (xa_hc x_int (xa_hc x_int (xa_hc x_int (xa_hc x_int xa_hn))))))))) (x_got h2 (x_ixL (x_var (d := p3) 3) x_int)))) h6) (xg_name 5 sc_L_waiting.nd) (wk_of (.same (.same (.same (.same (.same (.non (.non (.non .nil))))))))) (fun _ => rfl) (fun x8 s7 => (xs_let fun d12 h13 => (xs_lc (ys := (d12 : (List Int))) 6 [("_law_lane", 7)] sc_L_waiting.nd (xi_list (x_eq (x_nthL (nthS nth0) (x_var (d := p0) 0) x_int) rfl)) (fun _ _ _ _ _ => (xg_name 7 sc_L_waiting.nd)) (xf_one fun _ _ _ _ _ x9 => (xt_let fun d10 h11 => (XW.t (xw_eqm (xw_and (xt_eqm (xt_eqs es_int (x_eq (x_nthT (nthS nth0) (x_var (d := x9) 7) x_int) rfl) (x_got h11 (x_ixT (x_var (d := s7) 4) x_int))) rfl) (fun _ => (xw_and1 (XW.t (xw_eqm (xw_or (xt_gt (x_var (d := x8) 5) x_int) (fun _ => (xw_or1 (xt_lt (x_eq (x_nthT nth0 (x_var (d := x9) 7) x_int) rfl) (x_var (d := p1) 1))))) or_p))))) and_p)))) (fun _ _ _ _ _ x9 => (x_eq (x_nthT nth0 (x_var (d := x9) 7) x_int) rfl)) (((lcM_filO _ _ _)).trans h13) (xs_seq (G1 := (fun s15 : (List Int) => (⟨[.val (tLstN (ysC (tLst tInt) (ysC (tLst P2T) ysN))) p0, .val tInt p1, .val tInt p2, .val (tLst tInt) p3, .val (tTup tInt) s15, .val tInt x8, .val (tLst tInt) d12, .non], mu0⟩ : Cn))) (xs_if (xt_gt (x_lenL T.b_len (x_var (d := d12) 6)) x_int) (fun g14 => (xs_let fun d16 h17 => (xs_let fun d18 h19 => (xs_let fun d20 h21 => (xs_let fun d22 h23 => (xs_set 4 sc_L_waiting.nd (x_got h23 (x_catT (x_tup (xa_hc (x_got h21 (x_ixL (x_var (d := d12) 6) (x_got h19 (x_mod (x_toint T.b_int (x_got h17 (x_ixL (x_var (d := p3) 3) (x_add x_int (x_var (d := x8) 5))))) (x_lenL T.b_len (x_var (d := d12) 6)))))) xa_hn)) (x_var (d := s7) 4))) (xs_nil d22 (wk_of (.same (.same (.same (.same (.same (.same (.same (.non .nil)))))))))))))))) (fun g14 => (xs_nil s7 (wk_of (.same (.same (.same (.same (.same (.same (.same (.non .nil)))))))))))) (fun s15 => (xs_nil s15 (wk_of (.same (.same (.same (.same (.same (.non (.non (.non .nil)))))))))))))))) (fun s7 => (xs_ret (x_var (d := s7) 4)))))))))
abbrev s_L_ringed : Stmt := top 77
theorem sc_L_ringed : FnScope ["_law_street_here", "_law_size", "_law_side", "_law_lanes", "_law_lane", "_law_a"] ["_law_street_here", "_law_size", "_law_side"] (defScope s_L_ringed) := ⟨rfl, rfl, rfl, by decide +kernel, rfl, by decide +kernel, by decide +kernel⟩
def m_L_ringed (p0 : ((List Int) × (List (Int × Int × Unit)) × Unit)) (p1 : Int) (p2 : (Int × Int × Unit)) : Option (Out Unit Unit ((List Int) × (List (Int × Int × Unit)) × Unit)) := ((rngO 0 p1).bind fun d1 => ((mapO (fun (x3 : Int) => ((modO (x3 + (1 : Int)) p1).bind fun d4 => some (x3, d4, ()))) d1).bind fun d6 => ((catO d6 [p2]).bind fun d8 => (thenO (forO (fun (x11 : (Int × Int × Unit)) (s10 : (List (Int × Int × Unit))) => (thenO (if ((!memD x11 s10) && (decide (x11.2.1 < (p0.1.length : Int)))) = true then ((appO s10 x11).bind fun d14 => some (.nx d14)) else some (.nx s10)) fun s13 : (List (Int × Int × Unit)) => some (.nx s13))) d8 p0.2.1) fun s10 : (List (Int × Int × Unit)) => some (.ret (p0.1, (sortS s10), ()))))))
def f_L_ringed (p0 : ((List Int) × (List (Int × Int × Unit)) × Unit)) (p1 : Int) (p2 : (Int × Int × Unit)) : Option ((List Int) × (List (Int × Int × Unit)) × Unit) := retO (m_L_ringed p0 p1 p2)
theorem has_L_ringed {P : Program} {w : World} {K : PySem.W.Frag} {mg : Str → Option Value} {base : Heap} {cS cT cP cC : Addr} (T : Tx P w K mg base cS cT cP cC) : Has P w K mg base "_law_ringed" 1 (SpF (ysC (tLstN (ysC (tLst tInt) (ysC (tLst P2T) ysN))) (ysC tInt (ysC P2T ysN))) (tLstN (ysC (tLst tInt) (ysC (tLst P2T) ysN))) fun d => f_L_ringed d.1 d.2.1 d.2.2.1) := by
  obtain ⟨f, fd, F, hm⟩ := T.d_L_ringed
  exact has_def (A := (ysC (tLstN (ysC (tLst tInt) (ysC (tLst P2T) ysN))) (ysC tInt (ysC P2T ysN)))) (R := (tLstN (ysC (tLst tInt) (ysC (tLst P2T) ysN)))) (k := 0) (Gn := fun _ : Unit => ⟨[], mu0⟩) (Gb := fun _ : Unit => ⟨[], mu0⟩) F hm sc_L_ringed (prm_cons (prm_cons (prm_cons prm_nil))) rfl (F.bindsN fun _ _ _ _ _ _ us hl => match us, hl with | [_, _, _], _ => rfl)
    (m := fun d => m_L_ringed d.1 d.2.1 d.2.2.1) (fun cdv Ar outer s H E ⟨p0, p1, p2, ()⟩ hr => (xs_new 3 sc_L_ringed.nd rfl (xf_list T.b_list (x_eq (x_nthL (nthS nth0) (x_var (d := p0) 0) x_int) rfl)) (xs_let fun d1 h2 => (xs_let fun d6 h7 => (xs_let fun d8 h9 => (xs_seq (G1 := (fun s10 : (List (Int × Int × Unit)) => (⟨[.val (tLstN (ysC (tLst tInt) (ysC (tLst P2T) ysN))) p0, .val tInt p1, .val P2T p2, .non, .non, .non], (muL 3 P2T s10)⟩ : Cn))) (xs_for (Gl := (fun s10 : (List (Int × Int × Unit)) => (⟨[.val (tLstN (ysC (tLst tInt) (ysC (tLst P2T) ysN))) p0, .val tInt p1, .val P2T p2, .non, .non, .non], (muL 3 P2T s10)⟩ : Cn))) p0.2.1 (xi_list (x_got h9 (x_catL (x_got h7 (x_eq (x_lc [("_law_a", 5)] sc_L_ringed.nd (xi_rng1 T.b_range (x_var (d := p1) 1) h2) (fun _ _ _ _ _ => (xg_name 5 sc_L_ringed.nd)) xf_no (fun _ _ _ _ _ x3 => (x_let fun d4 h5 => (x_tupN (xa_cons (x_var (d := x3) 5) (xa_cons (x_got h5 (x_mod (x_toint T.b_int (x_add (x_var (d := x3) 5) x_int)) (x_var (d := p1) 1))) xa_nil)))))) (lcM_mapO _ _))) (x_lst (xa_hc (x_var (d := p2) 2) xa_hn))))) (xg_name 4 sc_L_ringed.nd) (wk_of (.same (.same (.same (.non (.non (.non .nil))))))) (fun _ => rfl) (fun x11 s10 => (xs_seq (G1 := (fun s13 : (List (Int × Int × Unit)) => (⟨[.val (tLstN (ysC (tLst tInt) (ysC (tLst P2T) ysN))) p0, .val tInt p1, .val P2T p2, .non, .val P2T x11, .non], (muL 3 P2T s13)⟩ : Cn))) (xs_if (xt_mu (XW.t (xw_eqm (xw_and (xt_eqm (xt_niD de_pair (Room.u65 hr) (x_var (d := x11) 4) (x_var (d := s10) 3)) rfl) (fun _ => (xw_and1 (xt_lt (x_eq (x_nthT (nthS nth0) (x_var (d := x11) 4) x_int) rfl) (x_lenL T.b_len (x_eq (x_nthL nth0 (x_var (d := p0) 0) x_int) rfl)))))) and_p))) (fun g12 => (xs_let fun d14 h15 => (xs_appL (x_var (d := x11) 4) h15 (xs_nil d14 (wk_of (.same (.same (.same (.non (.same (.non .nil))))))))))) (fun g12 => (xs_nil s10 (wk_of (.same (.same (.same (.non (.same (.non .nil)))))))))) (fun s13 => (xs_nil s13 (wk_of (.same (.same (.same (.non (.non (.non .nil)))))))))))) (fun s10 => (xs_hold (xs_ret (x_lstN (xa_cons (x_eq (x_nthL nth0 (x_var (d := p0) 0) x_int) rfl) (xa_cons (x_sort T.b_sorted (x_var (d := s10) 3)) xa_nil))))))))))))
abbrev s_L_renamed : Stmt := top 78
theorem sc_L_renamed : FnScope ["_law_street_here", "_law_ways", "_law_turn", "_law_back_here", "_law_many", "_law_names", "_law_k", "_law_pegs", "_law_lanes", "_law_lane", "_law_way_here"] ["_law_street_here", "_law_ways", "_law_turn", "_law_back_here"] (defScope s_L_renamed) := ⟨rfl, rfl, rfl, by decide +kernel, rfl, by decide +kernel, by decide +kernel⟩
def m_L_renamed (p0 : ((List Int) × (List (Int × Int × Unit)) × Unit)) (p1 : (List (List Int))) (p2 : Int) (p3 : Int) : Option (Out Unit Unit (((List Int) × (List (Int × Int × Unit)) × Unit) × (List (List Int)) × Unit)) := ((rngO 0 (p0.1.length : Int)).bind fun d1 => ((mapO (fun (x3 : Int) => ((mulO x3 ((1 : Int) - ((2 : Int) * p3))).bind fun d4 => ((modO (p2 + d4) (p0.1.length : Int)).bind fun d6 => some d6))) d1).bind fun d8 => ((rngO 0 (p0.1.length : Int)).bind fun d10 => ((mapO (fun (x12 : Int) => ((idxO d8 x12).bind fun d13 => ((atI p0.1 d13).bind fun d15 => some d15))) d10).bind fun d17 => ((mapO (fun (x19 : (Int × Int × Unit)) => ((atI d8 x19.1).bind fun d20 => ((atI d8 x19.2.1).bind fun d22 => some (d20, d22, ())))) p0.2.1).bind fun d24 => ((mapO (fun (x26 : (List Int)) => ((mapO (fun (x27 : Int) => ((atI d8 x27).bind fun d28 => some d28)) x26).bind fun d30 => some d30)) p1).bind fun d32 => some (.ret ((d17, (sortS d24), ()), d32, ()))))))))
def f_L_renamed (p0 : ((List Int) × (List (Int × Int × Unit)) × Unit)) (p1 : (List (List Int))) (p2 : Int) (p3 : Int) : Option (((List Int) × (List (Int × Int × Unit)) × Unit) × (List (List Int)) × Unit) := retO (m_L_renamed p0 p1 p2 p3)
theorem has_L_renamed {P : Program} {w : World} {K : PySem.W.Frag} {mg : Str → Option Value} {base : Heap} {cS cT cP cC : Addr} (T : Tx P w K mg base cS cT cP cC) : Has P w K mg base "_law_renamed" 1 (SpF (ysC (tLstN (ysC (tLst tInt) (ysC (tLst P2T) ysN))) (ysC (tLst (tTup tInt)) (ysC tInt (ysC tInt ysN)))) (tLstN (ysC (tLstN (ysC (tLst tInt) (ysC (tLst P2T) ysN))) (ysC (tLst (tTup tInt)) ysN))) fun d => f_L_renamed d.1 d.2.1 d.2.2.1 d.2.2.2.1) := by
  obtain ⟨f, fd, F, hm⟩ := T.d_L_renamed
  exact has_def (A := (ysC (tLstN (ysC (tLst tInt) (ysC (tLst P2T) ysN))) (ysC (tLst (tTup tInt)) (ysC tInt (ysC tInt ysN))))) (R := (tLstN (ysC (tLstN (ysC (tLst tInt) (ysC (tLst P2T) ysN))) (ysC (tLst (tTup tInt)) ysN)))) (k := 0) (Gn := fun _ : Unit => ⟨[], mu0⟩) (Gb := fun _ : Unit => ⟨[], mu0⟩) F hm sc_L_renamed (prm_cons (prm_cons (prm_cons (prm_cons prm_nil)))) rfl (F.bindsN fun _ _ _ _ _ _ us hl => match us, hl with | [_, _, _, _], _ => rfl)
    (m := fun d => m_L_renamed d.1 d.2.1 d.2.2.1 d.2.2.2.1) (fun cdv Ar outer s H E ⟨p0, p1, p2, p3, ()⟩ hr => (xs_set 4 sc_L_renamed.nd (x_lenL T.b_len (x_eq (x_nthL nth0 (x_var (d := p0) 0) x_int) rfl)) (xs_let fun d1 h2 => (xs_let fun d8 h9 => (xs_set 5 sc_L_renamed.nd (x_got h9 (x_eq (x_lc [("_law_k", 6)] sc_L_renamed.nd (xi_rng1 T.b_range (x_var (d := (p0.1.length : Int)) 4) h2) (fun _ _ _ _ _ => (xg_name 6 sc_L_renamed.nd)) xf_no (fun _ _ _ _ _ x3 => (x_let fun d4 h5 => (x_let fun d6 h7 => (x_got h7 (x_mod (x_toint T.b_int (x_add (x_var (d := p2) 2) (x_got h5 (x_mul (x_var (d := x3) 6) (x_sub x_int (x_eq (x_mul x_int (x_var (d := p3) 3)) (mulO_l (by decide)))))))) (x_var (d := (p0.1.length : Int)) 4))))))) (lcM_mapO _ _))) (xs_let fun d10 h11 => (xs_let fun d17 h18 => (xs_lc (ys := (d17 : (List Int))) 7 [("_law_k", 6)] sc_L_renamed.nd (xi_rng1 T.b_range (x_var (d := (p0.1.length : Int)) 4) h11) (fun _ _ _ _ _ => (xg_name 6 sc_L_renamed.nd)) xf_no (fun _ _ _ _ _ x12 => (x_let fun d13 h14 => (x_let fun d15 h16 => (x_got h16 (x_ixL (x_eq (x_nthL nth0 (x_var (d := p0) 0) x_int) rfl) (x_got h14 (x_indexL (x_var (d := d8) 5) (x_var (d := x12) 6)))))))) (((lcM_mapO _ _)).trans h18) (xs_let fun d24 h25 => (xs_set 8 sc_L_renamed.nd (x_sort T.b_sorted (x_got h25 (x_eq (x_lc [("_law_lane", 9)] sc_L_renamed.nd (xi_list (x_eq (x_nthL (nthS nth0) (x_var (d := p0) 0) x_int) rfl)) (fun _ _ _ _ _ => (xg_name 9 sc_L_renamed.nd)) xf_no (fun _ _ _ _ _ x19 => (x_let fun d20 h21 => (x_let fun d22 h23 => (x_tupN (xa_cons (x_got h21 (x_ixL (x_var (d := d8) 5) (x_eq (x_nthT nth0 (x_var (d := x19) 9) x_int) rfl))) (xa_cons (x_got h23 (x_ixL (x_var (d := d8) 5) (x_eq (x_nthT (nthS nth0) (x_var (d := x19) 9) x_int) rfl))) xa_nil))))))) (lcM_mapO _ _)))) (xs_let fun d32 h33 => (xs_ret (x_lstN (xa_cons (x_lstN (xa_cons (x_var (d := d17) 7) (xa_cons (x_var (d := (sortS d24)) 8) xa_nil))) (xa_cons (x_got h33 (x_eq (x_lc [("_law_way_here", 10)] sc_L_renamed.nd (xi_list (x_var (d := p1) 1)) (fun _ _ _ _ _ => (xg_name 10 sc_L_renamed.nd)) xf_no (fun _ _ _ _ _ x26 => (x_let fun d30 h31 => (x_tuple T.b_tuple (x_got h31 (x_eq (x_lc [("_law_k", 6)] sc_L_renamed.nd (xi_tup (x_var (d := x26) 10)) (fun _ _ _ _ _ => (xg_name 6 sc_L_renamed.nd)) xf_no (fun _ _ _ _ _ x27 => (x_let fun d28 h29 => (x_got h29 (x_ixL (x_var (d := d8) 5) (x_var (d := x27) 6)))))) (lcM_mapO _ _))))))) (lcM_mapO _ _))) xa_nil)))))))))))))))
end Pg
set_option Elab.async false
set_option linter.all false
set_option maxRecDepth 100000
set_option maxHeartbeats 1000000
namespace Pg
open PySem PySem.Spec PyProof.Rows L2
abbrev s_L_town : Stmt := top 79
theorem sc_L_town : FnScope ["_law_script", "_law_at", "_law_menu", "_law_kinds", "_law_most", "_law_street_here", "_law_plan", "_law_kind", "_law_many", "_law_wide", "_law_sizes", "_law_k", "_law_size", "_law_side", "_law_rows", "_law_ways", "_law_room", "_law_gap", "_law_held_here", "_law_house", "_law_others", "_law_way_here", "_law_turn"] ["_law_script", "_law_at", "_law_menu", "_law_kinds", "_law_most"] (defScope s_L_town) := ⟨rfl, rfl, rfl, by decide +kernel, rfl, by decide +kernel, by decide +kernel⟩
def m_L_town (p0 : (List Int)) (p1 : Int) (p2 : (List Int)) (p3 : (List Int)) (p4 : Int) : Option (Out Unit Unit (((List Int) × (List (Int × Int × Unit)) × Unit) × (List (List Int)) × Unit)) := ((f_L_cell p0 p1).bind fun d1 => ((f_L_digits d1 (([(8 : Int)] ++ (List.replicate 6 [(6 : Int)]).flatten) ++ (List.replicate 30 [(10 : Int)]).flatten)).bind fun d3 => ((f_L_street d3 p2).bind fun d5 => ((f_L_cell p0 (p1 + (1 : Int))).bind fun d7 => ((f_L_digits d7 [(16 : Int), (6 : Int), (6 : Int), (9 : Int), (4 : Int), (20 : Int), (2 : Int), (6 : Int), (2 : Int)]).bind fun d9 => ((atI d9 (0 : Int)).bind fun d11 => ((atI p3 d11).bind fun d13 => ((atI d9 (1 : Int)).bind fun d15 => ((atI [(2 : Int), (3 : Int), (3 : Int), (4 : Int), (2 : Int), (5 : Int)] d15).bind fun d17 => ((rngO (2 : Int) ((d5.1.length : Int) + (if (decide (d13 < (7 : Int))) = true then 1 else 0 : Int))).bind fun d19 => ((catO [(2 : Int)] (d19.filter fun (x21 : Int) => ((decide (x21 ≤ d17)) && (decide (((cutD d5.1 none (some x21)).sum) ≤ (p4 - (2 : Int))))))).bind fun d22 => ((maxL d22).bind fun d24 => ((atI d9 (2 : Int)).bind fun d26 => ((modO d26 d24).bind fun d28 => ((atI d9 (3 : Int)).bind fun d30 => ((modO d30 (if ((d5.1.length : Int) - d24) > (1 : Int) then ((d5.1.length : Int) - d24) else (1 : Int))).bind fun d32 => ((rngO 0 p4).bind fun d34 => ((mapO (fun (x36 : Int) => ((f_L_cell p0 ((p1 + (2 : Int)) + x36)).bind fun d37 => ((f_L_digits d37 ([(8 : Int)] ++ (List.replicate 6 [(6 : Int)]).flatten)).bind fun d39 => some d39))) d34).bind fun d41 => (thenO (if (decide ((5 : Int) ≤ d13)) = true then ((f_L_ringed d5 d24 (d28, (d24 + d32), ())).bind fun d45 => ((atI d9 (3 : Int)).bind fun d47 => ((modO d47 d24).bind fun d49 => ((atI [(-(1 : Int)), d49, (d28, (d24 + d32), ()).1] (d13 - (5 : Int))).bind fun d51 => (thenO (if ((decide (d13 = (7 : Int))) && (decide (d24 < (d5.1.length : Int)))) = true then ((rngO 0 (d5.1.length : Int)).bind fun d55 => ((mapO (fun (x57 : Int) => ((atI d45.1 x57).bind fun d58 => some (d58 - (if (decide (x57 = d51)) = true then 1 else 0 : Int)))) d55).bind fun d60 => some (.nx d60))) else some (.nx d5.1)) fun s54 : (List Int) => ((rngO 0 d24).bind fun d62 => (thenO (forO (fun (x65 : Int) (s64 : (List Int)) => ((atI d45.1 x65).bind fun d66 => ((repO [x65] (d66 - (if (decide (x65 = d51)) = true then 1 else 0 : Int))).bind fun d68 => ((catO s64 d68).bind fun d70 => some (.nx d70))))) d62 ([] : (List Int))) fun s64 : (List Int) => (thenO (forO (fun (x73 : Int) (s72 : (List (List Int))) => ((atI d41 (s72.length : Int)).bind fun d74 => ((f_L_waiting d45 d24 x73 d74).bind fun d76 => ((appO s72 d76).bind fun d78 => some (.nx d78))))) (cutD s64 none (some (p4 - (2 : Int)))) ([] : (List (List Int)))) fun s72 : (List (List Int)) => ((atI d9 (6 : Int)).bind fun d80 => ((rngO 0 ((1 : Int) + d80)).bind fun d82 => (thenO (forO (fun (x85 : Int) (s84 : (List (List Int))) => ((if (decide (d13 = (7 : Int))) = true then (if (decide (d24 < (d5.1.length : Int))) = true then ((f_L_load s84 (d28, (d24 + d32), ()).2.1).bind fun d86 => ((atI s54 (d28, (d24 + d32), ()).2.1).bind fun d88 => some (decide (d86 < d88)))) else some false) else some false).bind fun d90 => (thenO (if d90 = true then ((atI d41 (s84.length : Int)).bind fun d94 => ((f_L_waiting d45 d24 (d28, (d24 + d32), ()).1 d94).bind fun d96 => ((catO d96 [(d28, (d24 + d32), ()).2.1]).bind fun d98 => ((appO s84 d98).bind fun d100 => some (.nx d100))))) else some (.nx s84)) fun s93 : (List (List Int)) => some (.nx s93)))) d82 s72) fun s84 : (List (List Int)) => some (.nx (d45, s54, s84))))))))))))) else some (.nx (d5, d5.1, ([] : (List (List Int)))))) fun s44 : (((List Int) × (List (Int × Int × Unit)) × Unit) × (List Int) × (List (List Int))) => ((atI d9 (4 : Int)).bind fun d102 => ((atI [(0 : Int), (1 : Int), (2 : Int), (3 : Int)] d102).bind fun d104 => (thenO (if (decide (d13 < (5 : Int))) = true then ((atI d9 (5 : Int)).bind fun d108 => ((atI d9 (5 : Int)).bind fun d110 => ((modO d110 p4).bind fun d112 => ((atI [(d108 % (2 : Int)), ((1 : Int) + d112), (4 : Int), (6 : Int), (8 : Int)] d13).bind fun d114 => some (.nx d114))))) else some (.nx d104)) fun s107 : Int => ((rngO 0 s107).bind fun d116 => (thenO (forO (fun (x119 : Int) (s118 : (List (List Int))) => (thenO (if (decide ((s118.length : Int) < p4)) = true then ((atI d41 (s118.length : Int)).bind fun d122 => ((f_L_way (s44.2.1, s44.1.2.1, ()) s118 d122).bind fun d124 => ((appO s118 d124).bind fun d126 => some (.nx d126)))) else some (.nx s118)) fun s121 : (List (List Int)) => some (.nx s121))) d116 s44.2.2) fun s118 : (List (List Int)) => (thenO (if (decide (d13 = (1 : Int))) = true then some (.nx (s118.map fun (x130 : (List Int)) => (cutD x130 none (some (1 : Int))))) else some (.nx s118)) fun s129 : (List (List Int)) => ((atI d9 (5 : Int)).bind fun d131 => ((modO d131 (if (s129.length : Int) > (1 : Int) then (s129.length : Int) else (1 : Int))).bind fun d133 => ((catO (cutD s129 (some d133) none) (cutD s129 none (some d133))).bind fun d135 => ((atI d9 (8 : Int)).bind fun d137 => (thenO (if (decide (d137 = (1 : Int))) = true then some (.nx (d135.reverse)) else some (.nx d135)) fun s140 : (List (List Int)) => ((atI d9 (7 : Int)).bind fun d141 => ((atI d9 (8 : Int)).bind fun d143 => ((f_L_renamed s44.1 s140 d141 d143).bind fun d145 => some (.ret d145))))))))))))))))))))))))))))))))))
def f_L_town (p0 : (List Int)) (p1 : Int) (p2 : (List Int)) (p3 : (List Int)) (p4 : Int) : Option (((List Int) × (List (Int × Int × Unit)) × Unit) × (List (List Int)) × Unit) := retO (m_L_town p0 p1 p2 p3 p4)
theorem has_L_town {P : Program} {w : World} {K : PySem.W.Frag} {mg : Str → Option Value} {base : Heap} {cS cT cP cC : Addr} (T : Tx P w K mg base cS cT cP cC) : Has P w K mg base "_law_town" 3 (SpF (ysC (tScr K) (ysC tInt (ysC (tLst tInt) (ysC (tLst tInt) (ysC tInt ysN))))) (tLstN (ysC (tLstN (ysC (tLst tInt) (ysC (tLst P2T) ysN))) (ysC (tLst (tTup tInt)) ysN))) fun d => f_L_town d.1 d.2.1 d.2.2.1 d.2.2.2.1 d.2.2.2.2.1) := by
  obtain ⟨f, fd, F, hm⟩ := T.d_L_town
  exact has_def (A := (ysC (tScr K) (ysC tInt (ysC (tLst tInt) (ysC (tLst tInt) (ysC tInt ysN)))))) (R := (tLstN (ysC (tLstN (ysC (tLst tInt) (ysC (tLst P2T) ysN))) (ysC (tLst (tTup tInt)) ysN)))) (k := 2) (Gn := fun _ : Unit => ⟨[], mu0⟩) (Gb := fun _ : Unit => ⟨[], mu0⟩) F hm sc_L_town (prm_cons (prm_cons (prm_cons (prm_cons (prm_cons prm_nil))))) rfl (F.bindsN fun _ _ _ _ _ _ us hl => match us, hl with | [_, _, _, _, _], _ => rfl)
    (m := fun d => m_L_town d.1 d.2.1 d.2.2.1 d.2.2.2.1 d.2.2.2.2.1) (fun cdv Ar outer s H E ⟨p0, p1, p2, p3, p4, ()⟩ hr => (xs_let fun d1 h2 => (xs_let fun d3 h4 => (xs_let fun d5 h6 => (xs_set 5 sc_L_town.nd (x_got h6 (x_eq (x_call (has_L_street T) (hr.mono (by decide)) (xa_cons (x_got h4 (x_eq (x_call (has_L_digits T) (hr.mono (by decide)) (xa_cons (x_got h2 (x_eq (x_call (has_L_cell T) (hr.mono (by decide)) (xa_cons (x_var (d := p0) 0) (xa_cons (x_var (d := p1) 1) xa_nil))) rfl)) (xa_cons (x_eq (x_catL (x_eq (x_catL (x_lst (xa_hc x_int xa_hn)) (x_eq (x_rep (x_lst (xa_hc x_int xa_hn)) x_int) rfl)) rfl) (x_eq (x_rep (x_lst (xa_hc x_int xa_hn)) x_int) rfl)) rfl) xa_nil))) rfl)) (xa_cons (x_var (d := p2) 2) xa_nil))) rfl)) (xs_cn (Γ' := (⟨[.val (tScr K) p0, .val tInt p1, .val (tLst tInt) p2, .val (tLst tInt) p3, .val tInt p4, .val (tLstN (ysC (tLst tInt) (ysC (tLst P2T) ysN))) d5, .non, .non, .non, .non, .non, .non, .non, .non, .non, .non, .non, .non, .non, .non, .non, .non, .non], mu0⟩ : Cn)) rfl (xs_let fun d7 h8 => (xs_let fun d9 h10 => (xs_set 6 sc_L_town.nd (x_got h10 (x_eq (x_call (has_L_digits T) (hr.mono (by decide)) (xa_cons (x_got h8 (x_eq (x_call (has_L_cell T) (hr.mono (by decide)) (xa_cons (x_var (d := p0) 0) (xa_cons (x_add (x_var (d := p1) 1) x_int) xa_nil))) rfl)) (xa_cons (x_lst (xa_hc x_int (xa_hc x_int (xa_hc x_int (xa_hc x_int (xa_hc x_int (xa_hc x_int (xa_hc x_int (xa_hc x_int (xa_hc x_int xa_hn)))))))))) xa_nil))) rfl)) (xs_cn (Γ' := (⟨[.val (tScr K) p0, .val tInt p1, .val (tLst tInt) p2, .val (tLst tInt) p3, .val tInt p4, .val (tLstN (ysC (tLst tInt) (ysC (tLst P2T) ysN))) d5, .val (tLst tInt) d9, .non, .non, .non, .non, .non, .non, .non, .non, .non, .non, .non, .non, .non, .non, .non, .non], mu0⟩ : Cn)) rfl (xs_let fun d11 h12 => (xs_let fun d13 h14 => (xs_set 7 sc_L_town.nd (x_got h14 (x_ixL (x_var (d := p3) 3) (x_got h12 (x_ixL (x_var (d := d9) 6) x_int)))) (xs_cn (Γ' := (⟨[.val (tScr K) p0, .val tInt p1, .val (tLst tInt) p2, .val (tLst tInt) p3, .val tInt p4, .val (tLstN (ysC (tLst tInt) (ysC (tLst P2T) ysN))) d5, .val (tLst tInt) d9, .val tInt d13, .non, .non, .non, .non, .non, .non, .non, .non, .non, .non, .non, .non, .non, .non, .non], mu0⟩ : Cn)) rfl (xs_set 8 sc_L_town.nd (x_lenL T.b_len (x_eq (x_nthL nth0 (x_var (d := d5) 5) x_int) rfl)) (xs_cn (Γ' := (⟨[.val (tScr K) p0, .val tInt p1, .val (tLst tInt) p2, .val (tLst tInt) p3, .val tInt p4, .val (tLstN (ysC (tLst tInt) (ysC (tLst P2T) ysN))) d5, .val (tLst tInt) d9, .val tInt d13, .val tInt (d5.1.length : Int), .non, .non, .non, .non, .non, .non, .non, .non, .non, .non, .non, .non, .non, .non], mu0⟩ : Cn)) rfl (xs_let fun d15 h16 => (xs_let fun d17 h18 => (xs_set 9 sc_L_town.nd (x_got h18 (x_ixL (x_lst (xa_hc x_int (xa_hc x_int (xa_hc x_int (xa_hc x_int (xa_hc x_int (xa_hc x_int xa_hn))))))) (x_got h16 (x_ixL (x_var (d := d9) 6) x_int)))) (xs_cn (Γ' := (⟨[.val (tScr K) p0, .val tInt p1, .val (tLst tInt) p2, .val (tLst tInt) p3, .val tInt p4, .val (tLstN (ysC (tLst tInt) (ysC (tLst P2T) ysN))) d5, .val (tLst tInt) d9, .val tInt d13, .val tInt (d5.1.length : Int), .val tInt d17, .non, .non, .non, .non, .non, .non, .non, .non, .non, .non, .non, .non, .non], mu0⟩ : Cn)) rfl (xs_let fun d19 h20 => (xs_lc (ys := ((d19.filter fun (x21 : Int) => ((decide (x21 ≤ d17)) && (decide (((cutD d5.1 none (some x21)).sum) ≤ (p4 - (2 : Int)))))) : (List Int))) 10 [("_law_k", 11)] sc_L_town.nd (xi_rng2 T.b_range x_int (x_add (x_var (d := (d5.1.length : Int)) 8) (x_tointB T.b_int (x_lt (x_var (d := d13) 7) x_int))) h20) (fun _ _ _ _ _ => (xg_name 11 sc_L_town.nd)) (xf_one fun _ _ _ _ _ x21 => (XW.t (xw_eqm (xw_and (xt_le (x_var (d := x21) 11) (x_var (d := d17) 9)) (fun _ => (xw_and1 (xt_le (x_sum T.b_sum (x_slL (x_eq (x_nthL nth0 (x_var (d := d5) 5) x_int) rfl) xo_none (xo_some (x_var (d := x21) 11)))) (x_sub (x_var (d := p4) 4) x_int))))) and_p))) (fun _ _ _ _ _ x21 => (x_var (d := x21) 11)) (lcM_filt _ _) (xs_cn (Γ' := (⟨[.val (tScr K) p0, .val tInt p1, .val (tLst tInt) p2, .val (tLst tInt) p3, .val tInt p4, .val (tLstN (ysC (tLst tInt) (ysC (tLst P2T) ysN))) d5, .val (tLst tInt) d9, .val tInt d13, .val tInt (d5.1.length : Int), .val tInt d17, .val (tLst tInt) (d19.filter fun (x21 : Int) => ((decide (x21 ≤ d17)) && (decide (((cutD d5.1 none (some x21)).sum) ≤ (p4 - (2 : Int)))))), .non, .non, .non, .non, .non, .non, .non, .non, .non, .non, .non, .non], mu0⟩ : Cn)) rfl (xs_let fun d22 h23 => (xs_let fun d24 h25 => (xs_set 12 sc_L_town.nd (x_got h25 (x_maxL T.b_max (x_got h23 (x_catL (x_lst (xa_hc x_int xa_hn)) (x_var (d := (d19.filter fun (x21 : Int) => ((decide (x21 ≤ d17)) && (decide (((cutD d5.1 none (some x21)).sum) ≤ (p4 - (2 : Int))))))) 10))))) (xs_cn (Γ' := (⟨[.val (tScr K) p0, .val tInt p1, .val (tLst tInt) p2, .val (tLst tInt) p3, .val tInt p4, .val (tLstN (ysC (tLst tInt) (ysC (tLst P2T) ysN))) d5, .val (tLst tInt) d9, .val tInt d13, .val tInt (d5.1.length : Int), .val tInt d17, .val (tLst tInt) (d19.filter fun (x21 : Int) => ((decide (x21 ≤ d17)) && (decide (((cutD d5.1 none (some x21)).sum) ≤ (p4 - (2 : Int)))))), .non, .val tInt d24, .non, .non, .non, .non, .non, .non, .non, .non, .non, .non], mu0⟩ : Cn)) rfl (xs_let fun d26 h27 => (xs_let fun d28 h29 => (xs_let fun d30 h31 => (xs_let fun d32 h33 => (xs_set 13 sc_L_town.nd (x_tupN (xa_cons (x_got h29 (x_mod (x_toint T.b_int (x_got h27 (x_ixL (x_var (d := d9) 6) x_int))) (x_var (d := d24) 12))) (xa_cons (x_add (x_var (d := d24) 12) (x_got h33 (x_mod (x_toint T.b_int (x_got h31 (x_ixL (x_var (d := d9) 6) x_int))) (x_max2 T.b_max x_int (x_sub (x_var (d := (d5.1.length : Int)) 8) (x_var (d := d24) 12)))))) xa_nil))) (xs_cn (Γ' := (⟨[.val (tScr K) p0, .val tInt p1, .val (tLst tInt) p2, .val (tLst tInt) p3, .val tInt p4, .val (tLstN (ysC (tLst tInt) (ysC (tLst P2T) ysN))) d5, .val (tLst tInt) d9, .val tInt d13, .val tInt (d5.1.length : Int), .val tInt d17, .val (tLst tInt) (d19.filter fun (x21 : Int) => ((decide (x21 ≤ d17)) && (decide (((cutD d5.1 none (some x21)).sum) ≤ (p4 - (2 : Int)))))), .non, .val tInt d24, .val P2T (d28, (d24 + d32), ()), .non, .non, .non, .non, .non, .non, .non, .non, .non], mu0⟩ : Cn)) rfl (xs_let fun d34 h35 => (xs_let fun d41 h42 => (xs_lc (ys := (d41 : (List (List Int)))) 14 [("_law_k", 11)] sc_L_town.nd (xi_rng1 T.b_range (x_var (d := p4) 4) h35) (fun _ _ _ _ _ => (xg_name 11 sc_L_town.nd)) xf_no (fun _ _ _ _ _ x36 => (x_let fun d37 h38 => (x_let fun d39 h40 => (x_got h40 (x_eq (x_call (has_L_digits T) (hr.mono (by decide)) (xa_cons (x_got h38 (x_eq (x_call (has_L_cell T) (hr.mono (by decide)) (xa_cons (x_var (d := p0) 0) (xa_cons (x_add (x_add (x_var (d := p1) 1) x_int) (x_var (d := x36) 11)) xa_nil))) rfl)) (xa_cons (x_eq (x_catL (x_lst (xa_hc x_int xa_hn)) (x_eq (x_rep (x_lst (xa_hc x_int xa_hn)) x_int) rfl)) rfl) xa_nil))) rfl))))) (((lcM_mapO _ _)).trans h42) (xs_cn (Γ' := (⟨[.val (tScr K) p0, .val tInt p1, .val (tLst tInt) p2, .val (tLst tInt) p3, .val tInt p4, .val (tLstN (ysC (tLst tInt) (ysC (tLst P2T) ysN))) d5, .val (tLst tInt) d9, .val tInt d13, .val tInt (d5.1.length : Int), .val tInt d17, .val (tLst tInt) (d19.filter fun (x21 : Int) => ((decide (x21 ≤ d17)) && (decide (((cutD d5.1 none (some x21)).sum) ≤ (p4 - (2 : Int)))))), .non, .val tInt d24, .val P2T (d28, (d24 + d32), ()), .val (tLst (tLst tInt)) d41, .non, .non, .non, .non, .non, .non, .non, .non], mu0⟩ : Cn)) rfl (xs_new 15 sc_L_town.nd rfl (xf_lst xa_hn) (xs_set 16 sc_L_town.nd (x_listL T.b_list (x_eq (x_nthL nth0 (x_var (d := d5) 5) x_int) rfl)) (xs_cn (Γ' := (⟨[.val (tScr K) p0, .val tInt p1, .val (tLst tInt) p2, .val (tLst tInt) p3, .val tInt p4, .val (tLstN (ysC (tLst tInt) (ysC (tLst P2T) ysN))) d5, .val (tLst tInt) d9, .val tInt d13, .val tInt (d5.1.length : Int), .val tInt d17, .val (tLst tInt) (d19.filter fun (x21 : Int) => ((decide (x21 ≤ d17)) && (decide (((cutD d5.1 none (some x21)).sum) ≤ (p4 - (2 : Int)))))), .non, .val tInt d24, .val P2T (d28, (d24 + d32), ()), .val (tLst (tLst tInt)) d41, .non, .val (tLst tInt) d5.1, .non, .non, .non, .non, .non, .non], (muL 15 (tTup tInt) ([] : (List (List Int))))⟩ : Cn)) rfl (xs_seq (G1 := (fun s44 : (((List Int) × (List (Int × Int × Unit)) × Unit) × (List Int) × (List (List Int))) => (⟨[.val (tScr K) p0, .val tInt p1, .val (tLst tInt) p2, .val (tLst tInt) p3, .val tInt p4, .val (tLstN (ysC (tLst tInt) (ysC (tLst P2T) ysN))) s44.1, .val (tLst tInt) d9, .val tInt d13, .val tInt (d5.1.length : Int), .val tInt d17, .val (tLst tInt) (d19.filter fun (x21 : Int) => ((decide (x21 ≤ d17)) && (decide (((cutD d5.1 none (some x21)).sum) ≤ (p4 - (2 : Int)))))), .non, .val tInt d24, .val P2T (d28, (d24 + d32), ()), .val (tLst (tLst tInt)) d41, .non, .val (tLst tInt) s44.2.1, .non, .non, .non, .non, .non, .non], (muL 15 (tTup tInt) s44.2.2)⟩ : Cn))) (xs_if (xt_ge (x_var (d := d13) 7) x_int) (fun g43 => (xs_let fun d45 h46 => (xs_set 5 sc_L_town.nd (x_got h46 (x_eq (x_call (has_L_ringed T) (hr.mono (by decide)) (xa_cons (x_var (d := d5) 5) (xa_cons (x_var (d := d24) 12) (xa_cons (x_var (d := (d28, (d24 + d32), ())) 13) xa_nil)))) rfl)) (xs_cn (Γ' := (⟨[.val (tScr K) p0, .val tInt p1, .val (tLst tInt) p2, .val (tLst tInt) p3, .val tInt p4, .val (tLstN (ysC (tLst tInt) (ysC (tLst P2T) ysN))) d45, .val (tLst tInt) d9, .val tInt d13, .val tInt (d5.1.length : Int), .val tInt d17, .val (tLst tInt) (d19.filter fun (x21 : Int) => ((decide (x21 ≤ d17)) && (decide (((cutD d5.1 none (some x21)).sum) ≤ (p4 - (2 : Int)))))), .non, .val tInt d24, .val P2T (d28, (d24 + d32), ()), .val (tLst (tLst tInt)) d41, .non, .val (tLst tInt) d5.1, .non, .non, .non, .non, .non, .non], (muL 15 (tTup tInt) ([] : (List (List Int))))⟩ : Cn)) rfl (xs_let fun d47 h48 => (xs_let fun d49 h50 => (xs_let fun d51 h52 => (xs_set 17 sc_L_town.nd (x_got h52 (x_ixL (x_lst (xa_hc (x_neg x_int) (xa_hc (x_got h50 (x_mod (x_toint T.b_int (x_got h48 (x_ixL (x_var (d := d9) 6) x_int))) (x_var (d := d24) 12))) (xa_hc (x_eq (x_nthT nth0 (x_var (d := (d28, (d24 + d32), ())) 13) x_int) rfl) xa_hn)))) (x_sub (x_var (d := d13) 7) x_int))) (xs_cn (Γ' := (⟨[.val (tScr K) p0, .val tInt p1, .val (tLst tInt) p2, .val (tLst tInt) p3, .val tInt p4, .val (tLstN (ysC (tLst tInt) (ysC (tLst P2T) ysN))) d45, .val (tLst tInt) d9, .val tInt d13, .val tInt (d5.1.length : Int), .val tInt d17, .val (tLst tInt) (d19.filter fun (x21 : Int) => ((decide (x21 ≤ d17)) && (decide (((cutD d5.1 none (some x21)).sum) ≤ (p4 - (2 : Int)))))), .non, .val tInt d24, .val P2T (d28, (d24 + d32), ()), .val (tLst (tLst tInt)) d41, .non, .val (tLst tInt) d5.1, .val tInt d51, .non, .non, .non, .non, .non], (muL 15 (tTup tInt) ([] : (List (List Int))))⟩ : Cn)) rfl (xs_seq (G1 := (fun s54 : (List Int) => (⟨[.val (tScr K) p0, .val tInt p1, .val (tLst tInt) p2, .val (tLst tInt) p3, .val tInt p4, .val (tLstN (ysC (tLst tInt) (ysC (tLst P2T) ysN))) d45, .val (tLst tInt) d9, .val tInt d13, .val tInt (d5.1.length : Int), .val tInt d17, .val (tLst tInt) (d19.filter fun (x21 : Int) => ((decide (x21 ≤ d17)) && (decide (((cutD d5.1 none (some x21)).sum) ≤ (p4 - (2 : Int)))))), .non, .val tInt d24, .val P2T (d28, (d24 + d32), ()), .val (tLst (tLst tInt)) d41, .non, .val (tLst tInt) s54, .val tInt d51, .non, .non, .non, .non, .non], (muL 15 (tTup tInt) ([] : (List (List Int))))⟩ : Cn))) (xs_if (XW.t (xw_eqm (xw_and (xt_eqm (xt_eqs es_int (x_var (d := d13) 7) x_int) rfl) (fun _ => (xw_and1 (xt_lt (x_var (d := d24) 12) (x_var (d := (d5.1.length : Int)) 8))))) and_p)) (fun g53 => (xs_let fun d55 h56 => (xs_let fun d60 h61 => (xs_lc (ys := (d60 : (List Int))) 16 [("_law_k", 11)] sc_L_town.nd (xi_rng1 T.b_range (x_var (d := (d5.1.length : Int)) 8) h56) (fun _ _ _ _ _ => (xg_name 11 sc_L_town.nd)) xf_no (fun _ _ _ _ _ x57 => (x_let fun d58 h59 => (x_sub (x_got h59 (x_ixL (x_eq (x_nthL nth0 (x_var (d := d45) 5) x_int) rfl) (x_var (d := x57) 11))) (x_tointB T.b_int (x_eq (x_eqs es_int (x_var (d := x57) 11) (x_var (d := d51) 17)) rfl))))) (((lcM_mapO _ _)).trans h61) (xs_cn (Γ' := (⟨[.val (tScr K) p0, .val tInt p1, .val (tLst tInt) p2, .val (tLst tInt) p3, .val tInt p4, .val (tLstN (ysC (tLst tInt) (ysC (tLst P2T) ysN))) d45, .val (tLst tInt) d9, .val tInt d13, .val tInt (d5.1.length : Int), .val tInt d17, .val (tLst tInt) (d19.filter fun (x21 : Int) => ((decide (x21 ≤ d17)) && (decide (((cutD d5.1 none (some x21)).sum) ≤ (p4 - (2 : Int)))))), .non, .val tInt d24, .val P2T (d28, (d24 + d32), ()), .val (tLst (tLst tInt)) d41, .non, .val (tLst tInt) d60, .val tInt d51, .non, .non, .non, .non, .non], (muL 15 (tTup tInt) ([] : (List (List Int))))⟩ : Cn)) rfl (xs_nil d60 (wk_of (.same (.same (.same (.same (.same (.same (.same (.same (.same (.same (.same (.non (.same (.same (.same (.non (.same (.same (.non (.non (.non (.non (.non .nil)))))))))))))))))))))))))))))) (fun g53 => (xs_nil d5.1 (wk_of (.same (.same (.same (.same (.same (.same (.same (.same (.same (.same (.same (.non (.same (.same (.same (.non (.same (.same (.non (.non (.non (.non (.non .nil))))))))))))))))))))))))))) (fun s54 => (xs_set 18 sc_L_town.nd (x_lst xa_hn) (xs_cn (Γ' := (⟨[.val (tScr K) p0, .val tInt p1, .val (tLst tInt) p2, .val (tLst tInt) p3, .val tInt p4, .val (tLstN (ysC (tLst tInt) (ysC (tLst P2T) ysN))) d45, .val (tLst tInt) d9, .val tInt d13, .val tInt (d5.1.length : Int), .val tInt d17, .val (tLst tInt) (d19.filter fun (x21 : Int) => ((decide (x21 ≤ d17)) && (decide (((cutD d5.1 none (some x21)).sum) ≤ (p4 - (2 : Int)))))), .non, .val tInt d24, .val P2T (d28, (d24 + d32), ()), .val (tLst (tLst tInt)) d41, .non, .val (tLst tInt) s54, .val tInt d51, .val (tLst tInt) ([] : (List Int)), .non, .non, .non, .non], (muL 15 (tTup tInt) ([] : (List (List Int))))⟩ : Cn)) rfl (xs_let fun d62 h63 => (xs_seq (G1 := (fun s64 : (List Int) => (⟨[.val (tScr K) p0, .val tInt p1, .val (tLst tInt) p2, .val (tLst tInt) p3, .val tInt p4, .val (tLstN (ysC (tLst tInt) (ysC (tLst P2T) ysN))) d45, .val (tLst tInt) d9, .val tInt d13, .val tInt (d5.1.length : Int), .val tInt d17, .val (tLst tInt) (d19.filter fun (x21 : Int) => ((decide (x21 ≤ d17)) && (decide (((cutD d5.1 none (some x21)).sum) ≤ (p4 - (2 : Int)))))), .non, .val tInt d24, .val P2T (d28, (d24 + d32), ()), .val (tLst (tLst tInt)) d41, .non, .val (tLst tInt) s54, .val tInt d51, .val (tLst tInt) s64, .non, .non, .non, .non], (muL 15 (tTup tInt) ([] : (List (List Int))))⟩ : Cn))) (xs_for (Gl := (fun s64 : (List Int) => (⟨[.val (tScr K) p0, .val tInt p1, .val (tLst tInt) p2, .val (tLst tInt) p3, .val tInt p4, .val (tLstN (ysC (tLst tInt) (ysC (tLst P2T) ysN))) d45, .val (tLst tInt) d9, .val tInt d13, .val tInt (d5.1.length : Int), .val tInt d17, .val (tLst tInt) (d19.filter fun (x21 : Int) => ((decide (x21 ≤ d17)) && (decide (((cutD d5.1 none (some x21)).sum) ≤ (p4 - (2 : Int)))))), .non, .val tInt d24, .val P2T (d28, (d24 + d32), ()), .val (tLst (tLst tInt)) d41, .non, .val (tLst tInt) s54, .val tInt d51, .val (tLst tInt) s64, .non, .non, .non, .non], (muL 15 (tTup tInt) ([] : (List (List Int))))⟩ : Cn))) ([] : (List Int)) (xi_rng1 T.b_range (x_var (d := d24) 12) h63) (xg_name 19 sc_L_town.nd) (wk_of (.same (.same (.same (.same (.same (.same (.same (.same (.same (.same (.same (.non (.same (.same (.same (.non (.same (.same (.same (.non (.non (.non (.non .nil)))))))))))))))))))))))) (fun _ => rfl) (fun x65 s64 => (xs_let fun d66 h67 => (xs_let fun d68 h69 => (xs_let fun d70 h71 => (xs_set 18 sc_L_town.nd (x_got h71 (x_catL (x_var (d := s64) 18) (x_got h69 (x_rep (x_lst (xa_hc (x_var (d := x65) 19) xa_hn)) (x_sub (x_got h67 (x_ixL (x_eq (x_nthL nth0 (x_var (d := d45) 5) x_int) rfl) (x_var (d := x65) 19))) (x_tointB T.b_int (x_eq (x_eqs es_int (x_var (d := x65) 19) (x_var (d := d51) 17)) rfl))))))) (xs_cn (Γ' := (⟨[.val (tScr K) p0, .val tInt p1, .val (tLst tInt) p2, .val (tLst tInt) p3, .val tInt p4, .val (tLstN (ysC (tLst tInt) (ysC (tLst P2T) ysN))) d45, .val (tLst tInt) d9, .val tInt d13, .val tInt (d5.1.length : Int), .val tInt d17, .val (tLst tInt) (d19.filter fun (x21 : Int) => ((decide (x21 ≤ d17)) && (decide (((cutD d5.1 none (some x21)).sum) ≤ (p4 - (2 : Int)))))), .non, .val tInt d24, .val P2T (d28, (d24 + d32), ()), .val (tLst (tLst tInt)) d41, .non, .val (tLst tInt) s54, .val tInt d51, .val (tLst tInt) d70, .val tInt x65, .non, .non, .non], (muL 15 (tTup tInt) ([] : (List (List Int))))⟩ : Cn)) rfl (xs_nil d70 (wk_of (.same (.same (.same (.same (.same (.same (.same (.same (.same (.same (.same (.non (.same (.same (.same (.non (.same (.same (.same (.non (.non (.non (.non .nil)))))))))))))))))))))))))))))))) (fun s64 => (xs_seq (G1 := (fun s72 : (List (List Int)) => (⟨[.val (tScr K) p0, .val tInt p1, .val (tLst tInt) p2, .val (tLst tInt) p3, .val tInt p4, .val (tLstN (ysC (tLst tInt) (ysC (tLst P2T) ysN))) d45, .val (tLst tInt) d9, .val tInt d13, .val tInt (d5.1.length : Int), .val tInt d17, .val (tLst tInt) (d19.filter fun (x21 : Int) => ((decide (x21 ≤ d17)) && (decide (((cutD d5.1 none (some x21)).sum) ≤ (p4 - (2 : Int)))))), .non, .val tInt d24, .val P2T (d28, (d24 + d32), ()), .val (tLst (tLst tInt)) d41, .non, .val (tLst tInt) s54, .val tInt d51, .val (tLst tInt) s64, .non, .non, .non, .non], (muL 15 (tTup tInt) s72)⟩ : Cn))) (xs_for (Gl := (fun s72 : (List (List Int)) => (⟨[.val (tScr K) p0, .val tInt p1, .val (tLst tInt) p2, .val (tLst tInt) p3, .val tInt p4, .val (tLstN (ysC (tLst tInt) (ysC (tLst P2T) ysN))) d45, .val (tLst tInt) d9, .val tInt d13, .val tInt (d5.1.length : Int), .val tInt d17, .val (tLst tInt) (d19.filter fun (x21 : Int) => ((decide (x21 ≤ d17)) && (decide (((cutD d5.1 none (some x21)).sum) ≤ (p4 - (2 : Int)))))), .non, .val tInt d24, .val P2T (d28, (d24 + d32), ()), .val (tLst (tLst tInt)) d41, .non, .val (tLst tInt) s54, .val tInt d51, .val (tLst tInt) s64, .non, .non, .non, .non], (muL 15 (tTup tInt) s72)⟩ : Cn))) ([] : (List (List Int))) (xi_list (x_slL (x_var (d := s64) 18) xo_none (xo_some (x_sub (x_var (d := p4) 4) x_int)))) (xg_name 19 sc_L_town.nd) (wk_of (.same (.same (.same (.same (.same (.same (.same (.same (.same (.same (.same (.non (.same (.same (.same (.non (.same (.same (.same (.non (.non (.non (.non .nil)))))))))))))))))))))))) (fun _ => rfl) (fun x73 s72 => (xs_let fun d74 h75 => (xs_let fun d76 h77 => (xs_let fun d78 h79 => (xs_appL (x_mu (so_tup so_int) (x_got h77 (x_eq (x_call (has_L_waiting T) (hr.mono (by decide)) (xa_cons (x_var (d := d45) 5) (xa_cons (x_var (d := d24) 12) (xa_cons (x_var (d := x73) 19) (xa_cons (x_got h75 (x_ixL (x_var (d := d41) 14) (x_lenL T.b_len (x_var (d := s72) 15)))) xa_nil))))) rfl))) h79 (xs_nil d78 (wk_of (.same (.same (.same (.same (.same (.same (.same (.same (.same (.same (.same (.non (.same (.same (.same (.non (.same (.same (.same (.non (.non (.non (.non .nil))))))))))))))))))))))))))))))) (fun s72 => (xs_let fun d80 h81 => (xs_let fun d82 h83 => (xs_seq (G1 := (fun s84 : (List (List Int)) => (⟨[.val (tScr K) p0, .val tInt p1, .val (tLst tInt) p2, .val (tLst tInt) p3, .val tInt p4, .val (tLstN (ysC (tLst tInt) (ysC (tLst P2T) ysN))) d45, .val (tLst tInt) d9, .val tInt d13, .val tInt (d5.1.length : Int), .val tInt d17, .val (tLst tInt) (d19.filter fun (x21 : Int) => ((decide (x21 ≤ d17)) && (decide (((cutD d5.1 none (some x21)).sum) ≤ (p4 - (2 : Int)))))), .non, .val tInt d24, .val P2T (d28, (d24 + d32), ()), .val (tLst (tLst tInt)) d41, .non, .val (tLst tInt) s54, .val tInt d51, .val (tLst tInt) s64, .non, .non, .non, .non], (muL 15 (tTup tInt) s84)⟩ : Cn))) (xs_for (Gl := (fun s84 : (List (List Int)) => (⟨[.val (tScr K) p0, .val tInt p1, .val (tLst tInt) p2, .val (tLst tInt) p3, .val tInt p4, .val (tLstN (ysC (tLst tInt) (ysC (tLst P2T) ysN))) d45, .val (tLst tInt) d9, .val tInt d13, .val tInt (d5.1.length : Int), .val tInt d17, .val (tLst tInt) (d19.filter fun (x21 : Int) => ((decide (x21 ≤ d17)) && (decide (((cutD d5.1 none (some x21)).sum) ≤ (p4 - (2 : Int)))))), .non, .val tInt d24, .val P2T (d28, (d24 + d32), ()), .val (tLst (tLst tInt)) d41, .non, .val (tLst tInt) s54, .val tInt d51, .val (tLst tInt) s64, .non, .non, .non, .non], (muL 15 (tTup tInt) s84)⟩ : Cn))) s72 (xi_rng1 T.b_range (x_add x_int (x_got h81 (x_ixL (x_var (d := d9) 6) x_int))) h83) (xg_name 11 sc_L_town.nd) (wk_of (.same (.same (.same (.same (.same (.same (.same (.same (.same (.same (.same (.non (.same (.same (.same (.non (.same (.same (.same (.non (.non (.non (.non .nil)))))))))))))))))))))))) (fun _ => rfl) (fun x85 s84 => (xs_let fun d90 h91 => (xs_seq (G1 := (fun s93 : (List (List Int)) => (⟨[.val (tScr K) p0, .val tInt p1, .val (tLst tInt) p2, .val (tLst tInt) p3, .val tInt p4, .val (tLstN (ysC (tLst tInt) (ysC (tLst P2T) ysN))) d45, .val (tLst tInt) d9, .val tInt d13, .val tInt (d5.1.length : Int), .val tInt d17, .val (tLst tInt) (d19.filter fun (x21 : Int) => ((decide (x21 ≤ d17)) && (decide (((cutD d5.1 none (some x21)).sum) ≤ (p4 - (2 : Int)))))), .val tInt x85, .val tInt d24, .val P2T (d28, (d24 + d32), ()), .val (tLst (tLst tInt)) d41, .non, .val (tLst tInt) s54, .val tInt d51, .val (tLst tInt) s64, .non, .non, .non, .non], (muL 15 (tTup tInt) s93)⟩ : Cn))) (xs_if (xt_mu (xt_got h91 (XW.t (xw_and (xt_eqm (xt_eqs es_int (x_var (d := d13) 7) x_int) rfl) (fun _ => (xw_and (xt_lt (x_var (d := d24) 12) (x_var (d := (d5.1.length : Int)) 8)) (fun _ => (xw_let fun d86 h87 => (xw_let fun d88 h89 => (xw_and1 (xt_lt (x_got h87 (x_eq (x_call (has_L_load T) (hr.mono (by decide)) (xa_cons (x_var (d := s84) 15) (xa_cons (x_eq (x_nthT (nthS nth0) (x_var (d := (d28, (d24 + d32), ())) 13) x_int) rfl) xa_nil))) rfl)) (x_got h89 (x_ixL (x_var (d := s54) 16) (x_eq (x_nthT (nthS nth0) (x_var (d := (d28, (d24 + d32), ())) 13) x_int) rfl)))))))))))))) (fun g92 => (xs_let fun d94 h95 => (xs_let fun d96 h97 => (xs_let fun d98 h99 => (xs_let fun d100 h101 => (xs_appL (x_mu (so_tup so_int) (x_got h99 (x_catT (x_got h97 (x_eq (x_call (has_L_waiting T) (hr.mono (by decide)) (xa_cons (x_var (d := d45) 5) (xa_cons (x_var (d := d24) 12) (xa_cons (x_eq (x_nthT nth0 (x_var (d := (d28, (d24 + d32), ())) 13) x_int) rfl) (xa_cons (x_got h95 (x_ixL (x_var (d := d41) 14) (x_lenL T.b_len (x_var (d := s84) 15)))) xa_nil))))) rfl)) (x_tup (xa_hc (x_eq (x_nthT (nthS nth0) (x_var (d := (d28, (d24 + d32), ())) 13) x_int) rfl) xa_hn))))) h101 (xs_nil d100 (wk_of (.same (.same (.same (.same (.same (.same (.same (.same (.same (.same (.same (.same (.same (.same (.same (.non (.same (.same (.same (.non (.non (.non (.non .nil))))))))))))))))))))))))))))))) (fun g92 => (xs_nil s84 (wk_of (.same (.same (.same (.same (.same (.same (.same (.same (.same (.same (.same (.same (.same (.same (.same (.non (.same (.same (.same (.non (.non (.non (.non .nil))))))))))))))))))))))))))) (fun s93 => (xs_nil s93 (wk_of (.same (.same (.same (.same (.same (.same (.same (.same (.same (.same (.same (.non (.same (.same (.same (.non (.same (.same (.same (.non (.non (.non (.non .nil)))))))))))))))))))))))))))))) (fun s84 => (xs_nil (d45, s54, s84) (wk_of (.same (.same (.same (.same (.same (.same (.same (.same (.same (.same (.same (.non (.same (.same (.same (.non (.same (.non (.non (.non (.non (.non (.non .nil))))))))))))))))))))))))))))))))))))))))))))))) (fun g43 => (xs_nil (d5, d5.1, ([] : (List (List Int)))) (wk_of (.same (.same (.same (.same (.same (.same (.same (.same (.same (.same (.same (.non (.same (.same (.same (.non (.same (.non (.non (.non (.non (.non (.non .nil))))))))))))))))))))))))))) (fun s44 => (xs_let fun d102 h103 => (xs_let fun d104 h105 => (xs_set 20 sc_L_town.nd (x_got h105 (x_ixL (x_lst (xa_hc x_int (xa_hc x_int (xa_hc x_int (xa_hc x_int xa_hn))))) (x_got h103 (x_ixL (x_var (d := d9) 6) x_int)))) (xs_cn (Γ' := (⟨[.val (tScr K) p0, .val tInt p1, .val (tLst tInt) p2, .val (tLst tInt) p3, .val tInt p4, .val (tLstN (ysC (tLst tInt) (ysC (tLst P2T) ysN))) s44.1, .val (tLst tInt) d9, .val tInt d13, .val tInt (d5.1.length : Int), .val tInt d17, .val (tLst tInt) (d19.filter fun (x21 : Int) => ((decide (x21 ≤ d17)) && (decide (((cutD d5.1 none (some x21)).sum) ≤ (p4 - (2 : Int)))))), .non, .val tInt d24, .val P2T (d28, (d24 + d32), ()), .val (tLst (tLst tInt)) d41, .non, .val (tLst tInt) s44.2.1, .non, .non, .non, .val tInt d104, .non, .non], (muL 15 (tTup tInt) s44.2.2)⟩ : Cn)) rfl (xs_seq (G1 := (fun s107 : Int => (⟨[.val (tScr K) p0, .val tInt p1, .val (tLst tInt) p2, .val (tLst tInt) p3, .val tInt p4, .val (tLstN (ysC (tLst tInt) (ysC (tLst P2T) ysN))) s44.1, .val (tLst tInt) d9, .val tInt d13, .val tInt (d5.1.length : Int), .val tInt d17, .val (tLst tInt) (d19.filter fun (x21 : Int) => ((decide (x21 ≤ d17)) && (decide (((cutD d5.1 none (some x21)).sum) ≤ (p4 - (2 : Int)))))), .non, .val tInt d24, .val P2T (d28, (d24 + d32), ()), .val (tLst (tLst tInt)) d41, .non, .val (tLst tInt) s44.2.1, .non, .non, .non, .val tInt s107, .non, .non], (muL 15 (tTup tInt) s44.2.2)⟩ : Cn))) (xs_if (xt_lt (x_var (d := d13) 7) x_int) (fun g106 => (xs_let fun d108 h109 => (xs_let fun d110 h111 => (xs_let fun d112 h113 => (xs_let fun d114 h115 => (xs_set 20 sc_L_town.nd (x_got h115 (x_ixL (x_lst (xa_hc (x_eq (x_mod (x_toint T.b_int (x_got h109 (x_ixL (x_var (d := d9) 6) x_int))) x_int) rfl) (xa_hc (x_add x_int (x_got h113 (x_mod (x_toint T.b_int (x_got h111 (x_ixL (x_var (d := d9) 6) x_int))) (x_var (d := p4) 4)))) (xa_hc x_int (xa_hc x_int (xa_hc x_int xa_hn)))))) (x_var (d := d13) 7))) (xs_cn (Γ' := (⟨[.val (tScr K) p0, .val tInt p1, .val (tLst tInt) p2, .val (tLst tInt) p3, .val tInt p4, .val (tLstN (ysC (tLst tInt) (ysC (tLst P2T) ysN))) s44.1, .val (tLst tInt) d9, .val tInt d13, .val tInt (d5.1.length : Int), .val tInt d17, .val (tLst tInt) (d19.filter fun (x21 : Int) => ((decide (x21 ≤ d17)) && (decide (((cutD d5.1 none (some x21)).sum) ≤ (p4 - (2 : Int)))))), .non, .val tInt d24, .val P2T (d28, (d24 + d32), ()), .val (tLst (tLst tInt)) d41, .non, .val (tLst tInt) s44.2.1, .non, .non, .non, .val tInt d114, .non, .non], (muL 15 (tTup tInt) s44.2.2)⟩ : Cn)) rfl (xs_nil d114 (wk_of (.same (.same (.same (.same (.same (.same (.same (.same (.same (.same (.same (.non (.same (.same (.same (.non (.same (.non (.non (.non (.same (.non (.non .nil)))))))))))))))))))))))))))))))) (fun g106 => (xs_nil d104 (wk_of (.same (.same (.same (.same (.same (.same (.same (.same (.same (.same (.same (.non (.same (.same (.same (.non (.same (.non (.non (.non (.same (.non (.non .nil))))))))))))))))))))))))))) (fun s107 => (xs_let fun d116 h117 => (xs_seq (G1 := (fun s118 : (List (List Int)) => (⟨[.val (tScr K) p0, .val tInt p1, .val (tLst tInt) p2, .val (tLst tInt) p3, .val tInt p4, .val (tLstN (ysC (tLst tInt) (ysC (tLst P2T) ysN))) s44.1, .val (tLst tInt) d9, .val tInt d13, .val tInt (d5.1.length : Int), .val tInt d17, .val (tLst tInt) (d19.filter fun (x21 : Int) => ((decide (x21 ≤ d17)) && (decide (((cutD d5.1 none (some x21)).sum) ≤ (p4 - (2 : Int)))))), .non, .val tInt d24, .val P2T (d28, (d24 + d32), ()), .val (tLst (tLst tInt)) d41, .non, .val (tLst tInt) s44.2.1, .non, .non, .non, .val tInt s107, .non, .non], (muL 15 (tTup tInt) s118)⟩ : Cn))) (xs_for (Gl := (fun s118 : (List (List Int)) => (⟨[.val (tScr K) p0, .val tInt p1, .val (tLst tInt) p2, .val (tLst tInt) p3, .val tInt p4, .val (tLstN (ysC (tLst tInt) (ysC (tLst P2T) ysN))) s44.1, .val (tLst tInt) d9, .val tInt d13, .val tInt (d5.1.length : Int), .val tInt d17, .val (tLst tInt) (d19.filter fun (x21 : Int) => ((decide (x21 ≤ d17)) && (decide (((cutD d5.1 none (some x21)).sum) ≤ (p4 - (2 : Int)))))), .non, .val tInt d24, .val P2T (d28, (d24 + d32), ()), .val (tLst (tLst tInt)) d41, .non, .val (tLst tInt) s44.2.1, .non, .non, .non, .val tInt s107, .non, .non], (muL 15 (tTup tInt) s118)⟩ : Cn))) s44.2.2 (xi_rng1 T.b_range (x_var (d := s107) 20) h117) (xg_name 11 sc_L_town.nd) (wk_of (.same (.same (.same (.same (.same (.same (.same (.same (.same (.same (.same (.non (.same (.same (.same (.non (.same (.non (.non (.non (.same (.non (.non .nil)))))))))))))))))))))))) (fun _ => rfl) (fun x119 s118 => (xs_seq (G1 := (fun s121 : (List (List Int)) => (⟨[.val (tScr K) p0, .val tInt p1, .val (tLst tInt) p2, .val (tLst tInt) p3, .val tInt p4, .val (tLstN (ysC (tLst tInt) (ysC (tLst P2T) ysN))) s44.1, .val (tLst tInt) d9, .val tInt d13, .val tInt (d5.1.length : Int), .val tInt d17, .val (tLst tInt) (d19.filter fun (x21 : Int) => ((decide (x21 ≤ d17)) && (decide (((cutD d5.1 none (some x21)).sum) ≤ (p4 - (2 : Int)))))), .val tInt x119, .val tInt d24, .val P2T (d28, (d24 + d32), ()), .val (tLst (tLst tInt)) d41, .non, .val (tLst tInt) s44.2.1, .non, .non, .non, .val tInt s107, .non, .non], (muL 15 (tTup tInt) s121)⟩ : Cn))) (xs_if (xt_mu (xt_lt (x_lenL T.b_len (x_var (d := s118) 15)) (x_var (d := p4) 4))) (fun g120 => (xs_let fun d122 h123 => (xs_let fun d124 h125 => (xs_let fun d126 h127 => (xs_appL (x_mu (so_tup so_int) (x_got h125 (x_eq (x_call (has_L_way T) (hr.mono (by decide)) (xa_cons (x_lstN (xa_cons (x_var (d := s44.2.1) 16) (xa_cons (x_eq (x_nthL (nthS nth0) (x_var (d := s44.1) 5) x_int) rfl) xa_nil))) (xa_cons (x_var (d := s118) 15) (xa_cons (x_got h123 (x_ixL (x_var (d := d41) 14) (x_lenL T.b_len (x_var (d := s118) 15)))) xa_nil)))) rfl))) h127 (xs_nil d126 (wk_of (.same (.same (.same (.same (.same (.same (.same (.same (.same (.same (.same (.same (.same (.same (.same (.non (.same (.non (.non (.non (.same (.non (.non .nil)))))))))))))))))))))))))))))) (fun g120 => (xs_nil s118 (wk_of (.same (.same (.same (.same (.same (.same (.same (.same (.same (.same (.same (.same (.same (.same (.same (.non (.same (.non (.non (.non (.same (.non (.non .nil))))))))))))))))))))))))))) (fun s121 => (xs_nil s121 (wk_of (.same (.same (.same (.same (.same (.same (.same (.same (.same (.same (.same (.non (.same (.same (.same (.non (.same (.non (.non (.non (.same (.non (.non .nil))))))))))))))))))))))))))))) (fun s118 => (xs_hold (xs_seq (G1 := (fun s129 : (List (List Int)) => (⟨[.val (tScr K) p0, .val tInt p1, .val (tLst tInt) p2, .val (tLst tInt) p3, .val tInt p4, .val (tLstN (ysC (tLst tInt) (ysC (tLst P2T) ysN))) s44.1, .val (tLst tInt) d9, .val tInt d13, .val tInt (d5.1.length : Int), .val tInt d17, .val (tLst tInt) (d19.filter fun (x21 : Int) => ((decide (x21 ≤ d17)) && (decide (((cutD d5.1 none (some x21)).sum) ≤ (p4 - (2 : Int)))))), .non, .val tInt d24, .val P2T (d28, (d24 + d32), ()), .val (tLst (tLst tInt)) d41, .val (tLst (tTup tInt)) s129, .val (tLst tInt) s44.2.1, .non, .non, .non, .val tInt s107, .non, .non], mu0⟩ : Cn))) (xs_if (xt_eqm (xt_eqs es_int (x_var (d := d13) 7) x_int) rfl) (fun g128 => (xs_lc (ys := ((s118.map fun (x130 : (List Int)) => (cutD x130 none (some (1 : Int)))) : (List (List Int)))) 15 [("_law_way_here", 21)] sc_L_town.nd (xi_list (x_var (d := s118) 15)) (fun _ _ _ _ _ => (xg_name 21 sc_L_town.nd)) xf_no (fun _ _ _ _ _ x130 => (x_slT (x_var (d := x130) 21) xo_none (xo_some x_int))) (lcM_map _ _) (xs_cn (Γ' := (⟨[.val (tScr K) p0, .val tInt p1, .val (tLst tInt) p2, .val (tLst tInt) p3, .val tInt p4, .val (tLstN (ysC (tLst tInt) (ysC (tLst P2T) ysN))) s44.1, .val (tLst tInt) d9, .val tInt d13, .val tInt (d5.1.length : Int), .val tInt d17, .val (tLst tInt) (d19.filter fun (x21 : Int) => ((decide (x21 ≤ d17)) && (decide (((cutD d5.1 none (some x21)).sum) ≤ (p4 - (2 : Int)))))), .non, .val tInt d24, .val P2T (d28, (d24 + d32), ()), .val (tLst (tLst tInt)) d41, .val (tLst (tTup tInt)) (s118.map fun (x130 : (List Int)) => (cutD x130 none (some (1 : Int)))), .val (tLst tInt) s44.2.1, .non, .non, .non, .val tInt s107, .non, .non], mu0⟩ : Cn)) rfl (xs_nil (s118.map fun (x130 : (List Int)) => (cutD x130 none (some (1 : Int)))) (wk_of (.same (.same (.same (.same (.same (.same (.same (.same (.same (.same (.same (.non (.same (.same (.same (.same (.same (.non (.non (.non (.same (.non (.non .nil)))))))))))))))))))))))))))) (fun g128 => (xs_nil s118 (wk_of (.same (.same (.same (.same (.same (.same (.same (.same (.same (.same (.same (.non (.same (.same (.same (.same (.same (.non (.non (.non (.same (.non (.non .nil))))))))))))))))))))))))))) (fun s129 => (xs_let fun d131 h132 => (xs_let fun d133 h134 => (xs_set 22 sc_L_town.nd (x_got h134 (x_mod (x_toint T.b_int (x_got h132 (x_ixL (x_var (d := d9) 6) x_int))) (x_max2 T.b_max x_int (x_lenL T.b_len (x_var (d := s129) 15))))) (xs_cn (Γ' := (⟨[.val (tScr K) p0, .val tInt p1, .val (tLst tInt) p2, .val (tLst tInt) p3, .val tInt p4, .val (tLstN (ysC (tLst tInt) (ysC (tLst P2T) ysN))) s44.1, .val (tLst tInt) d9, .val tInt d13, .val tInt (d5.1.length : Int), .val tInt d17, .val (tLst tInt) (d19.filter fun (x21 : Int) => ((decide (x21 ≤ d17)) && (decide (((cutD d5.1 none (some x21)).sum) ≤ (p4 - (2 : Int)))))), .non, .val tInt d24, .val P2T (d28, (d24 + d32), ()), .val (tLst (tLst tInt)) d41, .val (tLst (tTup tInt)) s129, .val (tLst tInt) s44.2.1, .non, .non, .non, .val tInt s107, .non, .val tInt d133], mu0⟩ : Cn)) rfl (xs_let fun d135 h136 => (xs_set 15 sc_L_town.nd (x_got h136 (x_catL (x_slL (x_var (d := s129) 15) (xo_some (x_var (d := d133) 22)) xo_none) (x_slL (x_var (d := s129) 15) xo_none (xo_some (x_var (d := d133) 22))))) (xs_cn (Γ' := (⟨[.val (tScr K) p0, .val tInt p1, .val (tLst tInt) p2, .val (tLst tInt) p3, .val tInt p4, .val (tLstN (ysC (tLst tInt) (ysC (tLst P2T) ysN))) s44.1, .val (tLst tInt) d9, .val tInt d13, .val tInt (d5.1.length : Int), .val tInt d17, .val (tLst tInt) (d19.filter fun (x21 : Int) => ((decide (x21 ≤ d17)) && (decide (((cutD d5.1 none (some x21)).sum) ≤ (p4 - (2 : Int)))))), .non, .val tInt d24, .val P2T (d28, (d24 + d32), ()), .val (tLst (tLst tInt)) d41, .val (tLst (tTup tInt)) d135, .val (tLst tInt) s44.2.1, .non, .non, .non, .val tInt s107, .non, .val tInt d133], mu0⟩ : Cn)) rfl (xs_let fun d137 h138 => (xs_seq (G1 := (fun s140 : (List (List Int)) => (⟨[.val (tScr K) p0, .val tInt p1, .val (tLst tInt) p2, .val (tLst tInt) p3, .val tInt p4, .val (tLstN (ysC (tLst tInt) (ysC (tLst P2T) ysN))) s44.1, .val (tLst tInt) d9, .val tInt d13, .val tInt (d5.1.length : Int), .val tInt d17, .val (tLst tInt) (d19.filter fun (x21 : Int) => ((decide (x21 ≤ d17)) && (decide (((cutD d5.1 none (some x21)).sum) ≤ (p4 - (2 : Int)))))), .non, .val tInt d24, .val P2T (d28, (d24 + d32), ()), .val (tLst (tLst tInt)) d41, .val (tLst (tTup tInt)) s140, .val (tLst tInt) s44.2.1, .non, .non, .non, .val tInt s107, .non, .val tInt d133], mu0⟩ : Cn))) (xs_if (xt_eqm (xt_eqs es_int (x_got h138 (x_ixL (x_var (d := d9) 6) x_int)) x_int) rfl) (fun g139 => (xs_set 15 sc_L_town.nd (x_rev (x_var (d := d135) 15)) (xs_cn (Γ' := (⟨[.val (tScr K) p0, .val tInt p1, .val (tLst tInt) p2, .val (tLst tInt) p3, .val tInt p4, .val (tLstN (ysC (tLst tInt) (ysC (tLst P2T) ysN))) s44.1, .val (tLst tInt) d9, .val tInt d13, .val tInt (d5.1.length : Int), .val tInt d17, .val (tLst tInt) (d19.filter fun (x21 : Int) => ((decide (x21 ≤ d17)) && (decide (((cutD d5.1 none (some x21)).sum) ≤ (p4 - (2 : Int)))))), .non, .val tInt d24, .val P2T (d28, (d24 + d32), ()), .val (tLst (tLst tInt)) d41, .val (tLst (tTup tInt)) (d135.reverse), .val (tLst tInt) s44.2.1, .non, .non, .non, .val tInt s107, .non, .val tInt d133], mu0⟩ : Cn)) rfl (xs_nil (d135.reverse) (wk_of (.same (.same (.same (.same (.same (.same (.same (.same (.same (.same (.same (.non (.same (.same (.same (.same (.same (.non (.non (.non (.same (.non (.same .nil)))))))))))))))))))))))))))) (fun g139 => (xs_nil d135 (wk_of (.same (.same (.same (.same (.same (.same (.same (.same (.same (.same (.same (.non (.same (.same (.same (.same (.same (.non (.non (.non (.same (.non (.same .nil))))))))))))))))))))))))))) (fun s140 => (xs_let fun d141 h142 => (xs_let fun d143 h144 => (xs_let fun d145 h146 => (xs_ret (x_got h146 (x_eq (x_call (has_L_renamed T) (hr.mono (by decide)) (xa_cons (x_var (d := s44.1) 5) (xa_cons (x_var (d := s140) 15) (xa_cons (x_got h142 (x_ixL (x_var (d := d9) 6) x_int)) (xa_cons (x_got h144 (x_ixL (x_var (d := d9) 6) x_int)) xa_nil))))) rfl))))))))))))))))))))))))))))))))))))))))))))))))))))))))))))))))))))))
end Pg
set_option Elab.async false
set_option linter.all false
set_option maxRecDepth 100000
set_option maxHeartbeats 1000000
namespace Pg
open PySem PySem.Spec PyProof.Rows L2
abbrev s_L_wanted : Stmt := top 80
theorem sc_L_wanted : FnScope ["_law_way_here"] ["_law_way_here"] (defScope s_L_wanted) := ⟨rfl, rfl, rfl, by decide +kernel, rfl, by decide +kernel, by decide +kernel⟩
def m_L_wanted (p0 : (List Int)) : Option (Out Unit Unit (Option Int)) := (if (decide ((p0.length : Int) < (3 : Int))) = true then some (.ret none) else ((atI p0 (-(2 : Int))).bind fun d2 => some (.ret (some d2))))
def f_L_wanted (p0 : (List Int)) : Option (Option Int) := retO (m_L_wanted p0)
theorem has_L_wanted {P : Program} {w : World} {K : PySem.W.Frag} {mg : Str → Option Value} {base : Heap} {cS cT cP cC : Addr} (T : Tx P w K mg base cS cT cP cC) : Has P w K mg base "_law_wanted" 1 (SpF (ysC (tTup tInt) ysN) (tOpt tInt) fun d => f_L_wanted d.1) := by
  obtain ⟨f, fd, F, hm⟩ := T.d_L_wanted
  exact has_def (A := (ysC (tTup tInt) ysN)) (R := (tOpt tInt)) (k := 0) (Gn := fun _ : Unit => ⟨[], mu0⟩) (Gb := fun _ : Unit => ⟨[], mu0⟩) F hm sc_L_wanted (prm_cons prm_nil) rfl (F.bindsN fun _ _ _ _ _ _ us hl => match us, hl with | [_], _ => rfl)
    (m := fun d => m_L_wanted d.1) (fun cdv Ar outer s H E ⟨p0, ()⟩ hr => (xs_ifx (xt_lt (x_lenT T.b_len (x_var (d := p0) 0)) x_int) (fun g1 => (xs_ret x_none)) (fun g1 => (xs_let fun d2 h3 => (xs_ret (x_some nn_int (x_got h3 (x_ixT (x_var (d := p0) 0) (x_neg x_int)))))))))
abbrev s_L_can_back : Stmt := top 81
theorem sc_L_can_back : FnScope ["_law_street_here", "_law_ways", "_law_tool", "_law_way_here"] ["_law_street_here", "_law_ways", "_law_tool"] (defScope s_L_can_back) := ⟨rfl, rfl, rfl, by decide +kernel, rfl, by decide +kernel, by decide +kernel⟩
def m_L_can_back (p0 : ((List Int) × (List (Int × Int × Unit)) × Unit)) (p1 : (List (List Int))) (p2 : Int) : Option (Out Unit Unit Bool) := ((atI p1 p2).bind fun d1 => (if (decide ((d1.length : Int) < (2 : Int))) = true then some (.ret false) else ((if (decide ((d1.length : Int) = (2 : Int))) = true then some true else ((atI d1 (-(2 : Int))).bind fun d4 => ((f_L_load p1 d4).bind fun d6 => ((atI d1 (-(2 : Int))).bind fun d8 => ((atI p0.1 d8).bind fun d10 => some (decide (d6 < d10))))))).bind fun d12 => some (.ret d12))))
def f_L_can_back (p0 : ((List Int) × (List (Int × Int × Unit)) × Unit)) (p1 : (List (List Int))) (p2 : Int) : Option Bool := retO (m_L_can_back p0 p1 p2)
theorem has_L_can_back {P : Program} {w : World} {K : PySem.W.Frag} {mg : Str → Option Value} {base : Heap} {cS cT cP cC : Addr} (T : Tx P w K mg base cS cT cP cC) : Has P w K mg base "_law_can_back" 2 (SpF (ysC (tLstN (ysC (tLst tInt) (ysC (tLst P2T) ysN))) (ysC (tLst (tTup tInt)) (ysC tInt ysN))) tBool fun d => f_L_can_back d.1 d.2.1 d.2.2.1) := by
  obtain ⟨f, fd, F, hm⟩ := T.d_L_can_back
  exact has_def (A := (ysC (tLstN (ysC (tLst tInt) (ysC (tLst P2T) ysN))) (ysC (tLst (tTup tInt)) (ysC tInt ysN)))) (R := tBool) (k := 1) (Gn := fun _ : Unit => ⟨[], mu0⟩) (Gb := fun _ : Unit => ⟨[], mu0⟩) F hm sc_L_can_back (prm_cons (prm_cons (prm_cons prm_nil))) rfl (F.bindsN fun _ _ _ _ _ _ us hl => match us, hl with | [_, _, _], _ => rfl)
    (m := fun d => m_L_can_back d.1 d.2.1 d.2.2.1) (fun cdv Ar outer s H E ⟨p0, p1, p2, ()⟩ hr => (xs_let fun d1 h2 => (xs_set 3 sc_L_can_back.nd (x_got h2 (x_ixL (x_var (d := p1) 1) (x_var (d := p2) 2))) (xs_ifx (xt_lt (x_lenT T.b_len (x_var (d := d1) 3)) x_int) (fun g3 => (xs_ret x_bl)) (fun g3 => (xs_let fun d12 h13 => (xs_ret (x_got h13 (x_or (x_eq (x_eqs es_int (x_lenT T.b_len (x_var (d := d1) 3)) x_int) rfl) (fun _ => (x_let fun d4 h5 => (x_let fun d6 h7 => (x_let fun d8 h9 => (x_let fun d10 h11 => (x_oneO (x_lt (x_got h7 (x_eq (x_call (has_L_load T) (hr.mono (by decide)) (xa_cons (x_var (d := p1) 1) (xa_cons (x_got h5 (x_ixT (x_var (d := d1) 3) (x_neg x_int))) xa_nil))) rfl)) (x_got h11 (x_ixL (x_eq (x_nthL nth0 (x_var (d := p0) 0) x_int) rfl) (x_got h9 (x_ixT (x_var (d := d1) 3) (x_neg x_int)))))))))))))))))))))
abbrev s_L_back : Stmt := top 82
theorem sc_L_back : FnScope ["_law_ways", "_law_tool", "_law_k"] ["_law_ways", "_law_tool"] (defScope s_L_back) := ⟨rfl, rfl, rfl, by decide +kernel, rfl, by decide +kernel, by decide +kernel⟩
def m_L_back (p0 : (List (List Int))) (p1 : Int) : Option (Out Unit Unit (List (List Int))) := ((rngO 0 (p0.length : Int)).bind fun d1 => ((mapO (fun (x3 : Int) => ((atI p0 x3).bind fun d4 => ((atI p0 x3).bind fun d6 => some (cutD d4 none (some ((d6.length : Int) - (if (decide (x3 = p1)) = true then 1 else 0 : Int))))))) d1).bind fun d8 => some (.ret d8)))
def f_L_back (p0 : (List (List Int))) (p1 : Int) : Option (List (List Int)) := retO (m_L_back p0 p1)
theorem has_L_back {P : Program} {w : World} {K : PySem.W.Frag} {mg : Str → Option Value} {base : Heap} {cS cT cP cC : Addr} (T : Tx P w K mg base cS cT cP cC) : Has P w K mg base "_law_back" 1 (SpF (ysC (tLst (tTup tInt)) (ysC tInt ysN)) (tLst (tTup tInt)) fun d => f_L_back d.1 d.2.1) := by
  obtain ⟨f, fd, F, hm⟩ := T.d_L_back
  exact has_def (A := (ysC (tLst (tTup tInt)) (ysC tInt ysN))) (R := (tLst (tTup tInt))) (k := 0) (Gn := fun _ : Unit => ⟨[], mu0⟩) (Gb := fun _ : Unit => ⟨[], mu0⟩) F hm sc_L_back (prm_cons (prm_cons prm_nil)) rfl (F.bindsN fun _ _ _ _ _ _ us hl => match us, hl with | [_, _], _ => rfl)
    (m := fun d => m_L_back d.1 d.2.1) (fun cdv Ar outer s H E ⟨p0, p1, ()⟩ hr => (xs_let fun d1 h2 => (xs_let fun d8 h9 => (xs_ret (x_got h9 (x_eq (x_lc [("_law_k", 2)] sc_L_back.nd (xi_rng1 T.b_range (x_lenL T.b_len (x_var (d := p0) 0)) h2) (fun _ _ _ _ _ => (xg_name 2 sc_L_back.nd)) xf_no (fun _ _ _ _ _ x3 => (x_let fun d4 h5 => (x_let fun d6 h7 => (x_slT (x_got h5 (x_ixL (x_var (d := p0) 0) (x_var (d := x3) 2))) xo_none (xo_some (x_sub (x_lenT T.b_len (x_got h7 (x_ixL (x_var (d := p0) 0) (x_var (d := x3) 2)))) (x_tointB T.b_int (x_eq (x_eqs es_int (x_var (d := x3) 2) (x_var (d := p1) 1)) rfl))))))))) (lcM_mapO _ _)))))))
abbrev s_L_can_lend : Stmt := top 83
theorem sc_L_can_lend : FnScope ["_law_street_here", "_law_ways", "_law_tool", "_law_house"] ["_law_street_here", "_law_ways", "_law_tool", "_law_house"] (defScope s_L_can_lend) := ⟨rfl, rfl, rfl, by decide +kernel, rfl, by decide +kernel, by decide +kernel⟩
def m_L_can_lend (p0 : ((List Int) × (List (Int × Int × Unit)) × Unit)) (p1 : (List (List Int))) (p2 : Int) (p3 : Int) : Option (Out Unit Unit Bool) := ((atI p1 p2).bind fun d1 => ((atI d1 (-(1 : Int))).bind fun d3 => ((if (memD (d3, p3, ()) p0.2.1) = true then ((f_L_load p1 p3).bind fun d5 => ((atI p0.1 p3).bind fun d7 => some (decide (d5 < d7)))) else some false).bind fun d9 => some (.ret d9))))
def f_L_can_lend (p0 : ((List Int) × (List (Int × Int × Unit)) × Unit)) (p1 : (List (List Int))) (p2 : Int) (p3 : Int) : Option Bool := retO (m_L_can_lend p0 p1 p2 p3)
theorem has_L_can_lend {P : Program} {w : World} {K : PySem.W.Frag} {mg : Str → Option Value} {base : Heap} {cS cT cP cC : Addr} (T : Tx P w K mg base cS cT cP cC) : Has P w K mg base "_law_can_lend" 2 (SpF (ysC (tLstN (ysC (tLst tInt) (ysC (tLst P2T) ysN))) (ysC (tLst (tTup tInt)) (ysC tInt (ysC tInt ysN)))) tBool fun d => f_L_can_lend d.1 d.2.1 d.2.2.1 d.2.2.2.1) := by
  obtain ⟨f, fd, F, hm⟩ := T.d_L_can_lend
  exact has_def (A := (ysC (tLstN (ysC (tLst tInt) (ysC (tLst P2T) ysN))) (ysC (tLst (tTup tInt)) (ysC tInt (ysC tInt ysN))))) (R := tBool) (k := 1) (Gn := fun _ : Unit => ⟨[], mu0⟩) (Gb := fun _ : Unit => ⟨[], mu0⟩) F hm sc_L_can_lend (prm_cons (prm_cons (prm_cons (prm_cons prm_nil)))) rfl (F.bindsN fun _ _ _ _ _ _ us hl => match us, hl with | [_, _, _, _], _ => rfl)
    (m := fun d => m_L_can_lend d.1 d.2.1 d.2.2.1 d.2.2.2.1) (fun cdv Ar outer s H E ⟨p0, p1, p2, p3, ()⟩ hr => (xs_let fun d1 h2 => (xs_let fun d3 h4 => (xs_let fun d9 h10 => (xs_ret (x_got h10 (x_and (x_eq (x_inD de_pair (Room.u65 hr) (x_tupN (xa_cons (x_got h4 (x_ixT (x_got h2 (x_ixL (x_var (d := p1) 1) (x_var (d := p2) 2))) (x_neg x_int))) (xa_cons (x_var (d := p3) 3) xa_nil))) (x_eq (x_nthL (nthS nth0) (x_var (d := p0) 0) x_int) rfl)) rfl) (fun _ => (x_let fun d5 h6 => (x_let fun d7 h8 => (x_one (x_lt (x_got h6 (x_eq (x_call (has_L_load T) (hr.mono (by decide)) (xa_cons (x_var (d := p1) 1) (xa_cons (x_var (d := p3) 3) xa_nil))) rfl)) (x_got h8 (x_ixL (x_eq (x_nthL nth0 (x_var (d := p0) 0) x_int) rfl) (x_var (d := p3) 3)))))))))))))))
abbrev s_L_lend : Stmt := top 84
theorem sc_L_lend : FnScope ["_law_ways", "_law_tool", "_law_house", "_law_k"] ["_law_ways", "_law_tool", "_law_house"] (defScope s_L_lend) := ⟨rfl, rfl, rfl, by decide +kernel, rfl, by decide +kernel, by decide +kernel⟩
def m_L_lend (p0 : (List (List Int))) (p1 : Int) (p2 : Int) : Option (Out Unit Unit (List (List Int))) := ((rngO 0 (p0.length : Int)).bind fun d1 => ((mapO (fun (x3 : Int) => ((if (decide (x3 = p1)) = true then ((atI p0 x3).bind fun d4 => ((catO d4 [p2]).bind fun d6 => some d6)) else ((atI p0 x3).bind fun d8 => some d8)).bind fun d10 => some d10)) d1).bind fun d12 => some (.ret d12)))
def f_L_lend (p0 : (List (List Int))) (p1 : Int) (p2 : Int) : Option (List (List Int)) := retO (m_L_lend p0 p1 p2)
theorem has_L_lend {P : Program} {w : World} {K : PySem.W.Frag} {mg : Str → Option Value} {base : Heap} {cS cT cP cC : Addr} (T : Tx P w K mg base cS cT cP cC) : Has P w K mg base "_law_lend" 1 (SpF (ysC (tLst (tTup tInt)) (ysC tInt (ysC tInt ysN))) (tLst (tTup tInt)) fun d => f_L_lend d.1 d.2.1 d.2.2.1) := by
  obtain ⟨f, fd, F, hm⟩ := T.d_L_lend
  exact has_def (A := (ysC (tLst (tTup tInt)) (ysC tInt (ysC tInt ysN)))) (R := (tLst (tTup tInt))) (k := 0) (Gn := fun _ : Unit => ⟨[], mu0⟩) (Gb := fun _ : Unit => ⟨[], mu0⟩) F hm sc_L_lend (prm_cons (prm_cons (prm_cons prm_nil))) rfl (F.bindsN fun _ _ _ _ _ _ us hl => match us, hl with | [_, _, _], _ => rfl)
    (m := fun d => m_L_lend d.1 d.2.1 d.2.2.1) (fun cdv Ar outer s H E ⟨p0, p1, p2, ()⟩ hr => (xs_let fun d1 h2 => (xs_let fun d12 h13 => (xs_ret (x_got h13 (x_eq (x_lc [("_law_k", 3)] sc_L_lend.nd (xi_rng1 T.b_range (x_lenL T.b_len (x_var (d := p0) 0)) h2) (fun _ _ _ _ _ => (xg_name 3 sc_L_lend.nd)) xf_no (fun _ _ _ _ _ x3 => (x_let fun d10 h11 => (x_got h11 (x_if (xt_eqm (xt_eqs es_int (x_var (d := x3) 3) (x_var (d := p1) 1)) rfl) (fun _ => (x_let fun d4 h5 => (x_let fun d6 h7 => (x_got h7 (x_catT (x_got h5 (x_ixL (x_var (d := p0) 0) (x_var (d := x3) 3))) (x_tup (xa_hc (x_var (d := p2) 2) xa_hn))))))) (fun _ => (x_let fun d8 h9 => (x_got h9 (x_ixL (x_var (d := p0) 0) (x_var (d := x3) 3)))))))))) (lcM_mapO _ _)))))))
abbrev s_L_held : Stmt := top 85
theorem sc_L_held : FnScope ["_law_street_here", "_law_ways", "_law_goal", "_law_held_here", "_law_h", "_law_turn", "_law_loose", "_law_k", "_law_kept", "_law_house"] ["_law_street_here", "_law_ways", "_law_goal"] (defScope s_L_held) := ⟨rfl, rfl, rfl, by decide +kernel, rfl, by decide +kernel, by decide +kernel⟩
def m_L_held (p0 : ((List Int) × (List (Int × Int × Unit)) × Unit)) (p1 : (List (List Int))) (p2 : (List Int)) : Option (Out Unit Unit (List Int)) := ((rngO 0 (p0.1.length : Int)).bind fun d1 => ((filO (fun (x3 : Int) => ((f_L_load p1 x3).bind fun d4 => ((atI p0.1 x3).bind fun d6 => some (decide (d4 = d6))))) d1).bind fun d8 => (thenO (forO (fun (x13 : Int) (s12 : (List Int)) => ((rngO 0 (p1.length : Int)).bind fun d14 => ((lcM (fun (x16 : Int) => ((atI p1 x16).bind fun d17 => ((atI p2 x16).bind fun d19 => ((if (decide ((if d19 > (1 : Int) then d19 else (1 : Int)) < (d17.length : Int))) = true then ((atI p1 x16).bind fun d21 => ((f_L_wanted d21).bind fun d23 => some (!s12.any (fun y => decide (d23 = some y))))) else some false).bind fun d25 => some d25)))) (fun (x16 : Int) => ((atI p1 x16).bind fun d27 => ((atI d27 (-(1 : Int))).bind fun d29 => some d29))) d14).bind fun d31 => (if (decide (((s12.filter fun (x33 : Int) => (!d31.any (fun y => decide (x33 = y)))).length : Int) = (s12.length : Int))) = true then some (.brk s12) else some (.nx (s12.filter fun (x33 : Int) => (!d31.any (fun y => decide (x33 = y))))))))) (rng 0 (14 : Int)) d8) fun s12 : (List Int) => some (.ret s12))))
def f_L_held (p0 : ((List Int) × (List (Int × Int × Unit)) × Unit)) (p1 : (List (List Int))) (p2 : (List Int)) : Option (List Int) := retO (m_L_held p0 p1 p2)
theorem has_L_held {P : Program} {w : World} {K : PySem.W.Frag} {mg : Str → Option Value} {base : Heap} {cS cT cP cC : Addr} (T : Tx P w K mg base cS cT cP cC) : Has P w K mg base "_law_held" 2 (SpF (ysC (tLstN (ysC (tLst tInt) (ysC (tLst P2T) ysN))) (ysC (tLst (tTup tInt)) (ysC (tLst tInt) ysN))) (tLst tInt) fun d => f_L_held d.1 d.2.1 d.2.2.1) := by
  obtain ⟨f, fd, F, hm⟩ := T.d_L_held
  exact has_def (A := (ysC (tLstN (ysC (tLst tInt) (ysC (tLst P2T) ysN))) (ysC (tLst (tTup tInt)) (ysC (tLst tInt) ysN)))) (R := (tLst tInt)) (k := 1) (Gn := fun _ : Unit => ⟨[], mu0⟩) (Gb := fun _ : Unit => ⟨[], mu0⟩) F hm sc_L_held (prm_cons (prm_cons (prm_cons prm_nil))) rfl (F.bindsN fun _ _ _ _ _ _ us hl => match us, hl with | [_, _, _], _ => rfl)
    (m := fun d => m_L_held d.1 d.2.1 d.2.2.1) (fun cdv Ar outer s H E ⟨p0, p1, p2, ()⟩ hr => (xs_let fun d1 h2 => (xs_let fun d8 h9 => (xs_set 3 sc_L_held.nd (x_got h9 (x_eq (x_lc [("_law_h", 4)] sc_L_held.nd (xi_rng1 T.b_range (x_lenL T.b_len (x_eq (x_nthL nth0 (x_var (d := p0) 0) x_int) rfl)) h2) (fun _ _ _ _ _ => (xg_name 4 sc_L_held.nd)) (xf_one fun _ _ _ _ _ x3 => (xt_let fun d4 h5 => (xt_let fun d6 h7 => (xt_eqm (xt_eqs es_int (x_got h5 (x_eq (x_call (has_L_load T) (hr.mono (by decide)) (xa_cons (x_var (d := p1) 1) (xa_cons (x_var (d := x3) 4) xa_nil))) rfl)) (x_got h7 (x_ixL (x_eq (x_nthL nth0 (x_var (d := p0) 0) x_int) rfl) (x_var (d := x3) 4)))) rfl)))) (fun _ _ _ _ _ x3 => (x_var (d := x3) 4))) (lcM_filOi _ _))) (xs_seq (G1 := (fun s12 : (List Int) => (⟨[.val (tLstN (ysC (tLst tInt) (ysC (tLst P2T) ysN))) p0, .val (tLst (tTup tInt)) p1, .val (tLst tInt) p2, .val (tLst tInt) s12, .non, .non, .non, .non, .non, .non], mu0⟩ : Cn))) (xs_for (Gl := (fun s12 : (List Int) => (⟨[.val (tLstN (ysC (tLst tInt) (ysC (tLst P2T) ysN))) p0, .val (tLst (tTup tInt)) p1, .val (tLst tInt) p2, .val (tLst tInt) s12, .non, .non, .non, .non, .non, .non], mu0⟩ : Cn))) d8 (xi_rng1 T.b_range x_int rfl) (xg_name 5 sc_L_held.nd) (wk_of (.same (.same (.same (.same (.non (.non (.non (.non (.non (.non .nil))))))))))) (fun _ => rfl) (fun x13 s12 => (xs_let fun d14 h15 => (xs_let fun d31 h32 => (xs_set 6 sc_L_held.nd (x_got h32 (x_lc [("_law_k", 7)] sc_L_held.nd (xi_rng1 T.b_range (x_lenL T.b_len (x_var (d := p1) 1)) h15) (fun _ _ _ _ _ => (xg_name 7 sc_L_held.nd)) (xf_one fun _ _ _ _ _ x16 => (xt_let fun d17 h18 => (xt_let fun d19 h20 => (xt_let fun d25 h26 => (xt_got h26 (XW.t (xw_and (xt_gt (x_lenT T.b_len (x_got h18 (x_ixL (x_var (d := p1) 1) (x_var (d := x16) 7)))) (x_max2 T.b_max x_int (x_got h20 (x_ixL (x_var (d := p2) 2) (x_var (d := x16) 7))))) (fun _ => (xw_let fun d21 h22 => (xw_let fun d23 h24 => (xw_and1 (xt_eqm (xt_niL fe_oi (x_got h24 (x_eq (x_call (has_L_wanted T) (hr.mono (by decide)) (xa_cons (x_got h22 (x_ixL (x_var (d := p1) 1) (x_var (d := x16) 7))) xa_nil)) rfl)) (x_var (d := s12) 3)) rfl)))))))))))) (fun _ _ _ _ _ x16 => (x_let fun d27 h28 => (x_let fun d29 h30 => (x_got h30 (x_ixT (x_got h28 (x_ixL (x_var (d := p1) 1) (x_var (d := x16) 7))) (x_neg x_int)))))))) (xs_lc (ys := ((s12.filter fun (x33 : Int) => (!d31.any (fun y => decide (x33 = y)))) : (List Int))) 8 [("_law_house", 9)] sc_L_held.nd (xi_list (x_var (d := s12) 3)) (fun _ _ _ _ _ => (xg_name 9 sc_L_held.nd)) (xf_one fun _ _ _ _ _ x33 => (xt_eqm (xt_niL fe_int (x_var (d := x33) 9) (x_var (d := d31) 6)) rfl)) (fun _ _ _ _ _ x33 => (x_var (d := x33) 9)) (lcM_filt _ _) (xs_ifx (xt_eqm (xt_eqs es_int (x_lenL T.b_len (x_var (d := (s12.filter fun (x33 : Int) => (!d31.any (fun y => decide (x33 = y))))) 8)) (x_lenL T.b_len (x_var (d := s12) 3))) rfl) (fun g34 => (xs_brk (b := s12) (wk_of (.same (.same (.same (.same (.non (.non (.non (.non (.non (.non .nil))))))))))))) (fun g34 => (xs_set 3 sc_L_held.nd (x_var (d := (s12.filter fun (x33 : Int) => (!d31.any (fun y => decide (x33 = y))))) 8) (xs_nil (s12.filter fun (x33 : Int) => (!d31.any (fun y => decide (x33 = y)))) (wk_of (.same (.same (.same (.same (.non (.non (.non (.non (.non (.non .nil))))))))))))))))))))) (fun s12 => (xs_ret (x_var (d := s12) 3))))))))
abbrev s_L_lot : Stmt := top 86
theorem sc_L_lot : FnScope ["_law_street_here", "_law_ways", "_law_goal", "_law_held_here", "_law_loose", "_law_k"] ["_law_street_here", "_law_ways", "_law_goal"] (defScope s_L_lot) := ⟨rfl, rfl, rfl, by decide +kernel, rfl, by decide +kernel, by decide +kernel⟩
def m_L_lot (p0 : ((List Int) × (List (Int × Int × Unit)) × Unit)) (p1 : (List (List Int))) (p2 : (List Int)) : Option (Out Unit Unit (List Int)) := ((f_L_held p0 p1 p2).bind fun d1 => ((rngO 0 (p1.length : Int)).bind fun d3 => ((filO (fun (x5 : Int) => ((atI p1 x5).bind fun d6 => ((atI p2 x5).bind fun d8 => ((if (decide ((if d8 > (1 : Int) then d8 else (1 : Int)) < (d6.length : Int))) = true then ((atI p1 x5).bind fun d10 => ((atI d10 (-(1 : Int))).bind fun d12 => some (d1.any (fun y => decide (d12 = y))))) else some false).bind fun d14 => some d14)))) d3).bind fun d16 => (if (decide ((d16.length : Int) = (0 : Int))) = true then some (.ret ([] : (List Int))) else some (.ret d1)))))
def f_L_lot (p0 : ((List Int) × (List (Int × Int × Unit)) × Unit)) (p1 : (List (List Int))) (p2 : (List Int)) : Option (List Int) := retO (m_L_lot p0 p1 p2)
theorem has_L_lot {P : Program} {w : World} {K : PySem.W.Frag} {mg : Str → Option Value} {base : Heap} {cS cT cP cC : Addr} (T : Tx P w K mg base cS cT cP cC) : Has P w K mg base "_law_lot" 3 (SpF (ysC (tLstN (ysC (tLst tInt) (ysC (tLst P2T) ysN))) (ysC (tLst (tTup tInt)) (ysC (tLst tInt) ysN))) (tTup tInt) fun d => f_L_lot d.1 d.2.1 d.2.2.1) := by
  obtain ⟨f, fd, F, hm⟩ := T.d_L_lot
  exact has_def (A := (ysC (tLstN (ysC (tLst tInt) (ysC (tLst P2T) ysN))) (ysC (tLst (tTup tInt)) (ysC (tLst tInt) ysN)))) (R := (tTup tInt)) (k := 2) (Gn := fun _ : Unit => ⟨[], mu0⟩) (Gb := fun _ : Unit => ⟨[], mu0⟩) F hm sc_L_lot (prm_cons (prm_cons (prm_cons prm_nil))) rfl (F.bindsN fun _ _ _ _ _ _ us hl => match us, hl with | [_, _, _], _ => rfl)
    (m := fun d => m_L_lot d.1 d.2.1 d.2.2.1) (fun cdv Ar outer s H E ⟨p0, p1, p2, ()⟩ hr => (xs_let fun d1 h2 => (xs_set 3 sc_L_lot.nd (x_got h2 (x_eq (x_call (has_L_held T) (hr.mono (by decide)) (xa_cons (x_var (d := p0) 0) (xa_cons (x_var (d := p1) 1) (xa_cons (x_var (d := p2) 2) xa_nil)))) rfl)) (xs_let fun d3 h4 => (xs_let fun d16 h17 => (xs_lc (ys := (d16 : (List Int))) 4 [("_law_k", 5)] sc_L_lot.nd (xi_rng1 T.b_range (x_lenL T.b_len (x_var (d := p1) 1)) h4) (fun _ _ _ _ _ => (xg_name 5 sc_L_lot.nd)) (xf_one fun _ _ _ _ _ x5 => (xt_let fun d6 h7 => (xt_let fun d8 h9 => (xt_let fun d14 h15 => (xt_got h15 (XW.t (xw_and (xt_gt (x_lenT T.b_len (x_got h7 (x_ixL (x_var (d := p1) 1) (x_var (d := x5) 5)))) (x_max2 T.b_max x_int (x_got h9 (x_ixL (x_var (d := p2) 2) (x_var (d := x5) 5))))) (fun _ => (xw_let fun d10 h11 => (xw_let fun d12 h13 => (xw_and1 (xt_eqm (xt_inL fe_int (x_got h13 (x_ixT (x_got h11 (x_ixL (x_var (d := p1) 1) (x_var (d := x5) 5))) (x_neg x_int))) (x_var (d := d1) 3)) rfl)))))))))))) (fun _ _ _ _ _ x5 => (x_var (d := x5) 5)) (((lcM_filOi _ _)).trans h17) (xs_ifx (xt_eqm (xt_eqs es_int (x_lenL T.b_len (x_var (d := d16) 4)) x_int) rfl) (fun g18 => (xs_ret (x_tup xa_hn))) (fun g18 => (xs_ret (x_tuple T.b_tuple (x_var (d := d1) 3)))))))))))
abbrev s_L_home : Stmt := top 87
theorem sc_L_home : FnScope ["_law_ways", "_law_way_here"] ["_law_ways"] (defScope s_L_home) := ⟨rfl, rfl, rfl, by decide +kernel, rfl, by decide +kernel, by decide +kernel⟩
def m_L_home (p0 : (List (List Int))) : Option (Out Unit Unit (List Int)) := some (.ret (p0.map fun (x1 : (List Int)) => (1 : Int)))
def f_L_home (p0 : (List (List Int))) : Option (List Int) := retO (m_L_home p0)
theorem has_L_home {P : Program} {w : World} {K : PySem.W.Frag} {mg : Str → Option Value} {base : Heap} {cS cT cP cC : Addr} (T : Tx P w K mg base cS cT cP cC) : Has P w K mg base "_law_home" 1 (SpF (ysC (tLst (tTup tInt)) ysN) (tLst tInt) fun d => f_L_home d.1) := by
  obtain ⟨f, fd, F, hm⟩ := T.d_L_home
  exact has_def (A := (ysC (tLst (tTup tInt)) ysN)) (R := (tLst tInt)) (k := 0) (Gn := fun _ : Unit => ⟨[], mu0⟩) (Gb := fun _ : Unit => ⟨[], mu0⟩) F hm sc_L_home (prm_cons prm_nil) rfl (F.bindsN fun _ _ _ _ _ _ us hl => match us, hl with | [_], _ => rfl)
    (m := fun d => m_L_home d.1) (fun cdv Ar outer s H E ⟨p0, ()⟩ hr => (xs_ret (x_eq (x_lc [("_law_way_here", 1)] sc_L_home.nd (xi_list (x_var (d := p0) 0)) (fun _ _ _ _ _ => (xg_name 1 sc_L_home.nd)) xf_no (fun _ _ _ _ _ x1 => x_int)) (lcM_map _ _))))
abbrev s_L_beside : Stmt := top 88
theorem sc_L_beside : FnScope ["_law_one", "_law_two", "_law_many", "_law_lanes", "_law_lane", "_law_moved", "_law_house", "_law_way_here", "_law_ways", "_law_k"] ["_law_one", "_law_two"] (defScope s_L_beside) := ⟨rfl, rfl, rfl, by decide +kernel, rfl, by decide +kernel, by decide +kernel⟩
def m_L_beside (p0 : (((List Int) × (List (Int × Int × Unit)) × Unit) × (List (List Int)) × Unit)) (p1 : (((List Int) × (List (Int × Int × Unit)) × Unit) × (List (List Int)) × Unit)) : Option (Out Unit Unit (((List Int) × (List (Int × Int × Unit)) × Unit) × (List (List Int)) × Unit)) := ((catO p0.1.2.1 (p1.1.2.1.map fun (x1 : (Int × Int × Unit)) => ((x1.1 + (p0.1.1.length : Int)), (x1.2.1 + (p0.1.1.length : Int)), ()))).bind fun d2 => ((rngO 0 (if ((p1.2.1.map fun (x4 : (List Int)) => (x4.map fun (x5 : Int) => (x5 + (p0.1.1.length : Int)))).length : Int) > (p0.2.1.length : Int) then ((p1.2.1.map fun (x4 : (List Int)) => (x4.map fun (x5 : Int) => (x5 + (p0.1.1.length : Int)))).length : Int) else (p0.2.1.length : Int))).bind fun d6 => (thenO (forO (fun (x9 : Int) (s8 : (List (List Int))) => ((catO s8 (cutD p0.2.1 (some x9) (some (x9 + (1 : Int))))).bind fun d10 => ((catO d10 (cutD (p1.2.1.map fun (x4 : (List Int)) => (x4.map fun (x5 : Int) => (x5 + (p0.1.1.length : Int)))) (some x9) (some (x9 + (1 : Int))))).bind fun d12 => some (.nx d12)))) d6 ([] : (List (List Int)))) fun s8 : (List (List Int)) => ((catO p0.1.1 p1.1.1).bind fun d14 => some (.ret ((d14, d2, ()), s8, ()))))))
def f_L_beside (p0 : (((List Int) × (List (Int × Int × Unit)) × Unit) × (List (List Int)) × Unit)) (p1 : (((List Int) × (List (Int × Int × Unit)) × Unit) × (List (List Int)) × Unit)) : Option (((List Int) × (List (Int × Int × Unit)) × Unit) × (List (List Int)) × Unit) := retO (m_L_beside p0 p1)
theorem has_L_beside {P : Program} {w : World} {K : PySem.W.Frag} {mg : Str → Option Value} {base : Heap} {cS cT cP cC : Addr} (T : Tx P w K mg base cS cT cP cC) : Has P w K mg base "_law_beside" 1 (SpF (ysC (tLstN (ysC (tLstN (ysC (tLst tInt) (ysC (tLst P2T) ysN))) (ysC (tLst (tTup tInt)) ysN))) (ysC (tLstN (ysC (tLstN (ysC (tLst tInt) (ysC (tLst P2T) ysN))) (ysC (tLst (tTup tInt)) ysN))) ysN)) (tLstN (ysC (tLstN (ysC (tLst tInt) (ysC (tLst P2T) ysN))) (ysC (tLst (tTup tInt)) ysN))) fun d => f_L_beside d.1 d.2.1) := by
  obtain ⟨f, fd, F, hm⟩ := T.d_L_beside
  exact has_def (A := (ysC (tLstN (ysC (tLstN (ysC (tLst tInt) (ysC (tLst P2T) ysN))) (ysC (tLst (tTup tInt)) ysN))) (ysC (tLstN (ysC (tLstN (ysC (tLst tInt) (ysC (tLst P2T) ysN))) (ysC (tLst (tTup tInt)) ysN))) ysN))) (R := (tLstN (ysC (tLstN (ysC (tLst tInt) (ysC (tLst P2T) ysN))) (ysC (tLst (tTup tInt)) ysN)))) (k := 0) (Gn := fun _ : Unit => ⟨[], mu0⟩) (Gb := fun _ : Unit => ⟨[], mu0⟩) F hm sc_L_beside (prm_cons (prm_cons prm_nil)) rfl (F.bindsN fun _ _ _ _ _ _ us hl => match us, hl with | [_, _], _ => rfl)
    (m := fun d => m_L_beside d.1 d.2.1) (fun cdv Ar outer s H E ⟨p0, p1, ()⟩ hr => (xs_set 2 sc_L_beside.nd (x_lenL T.b_len (x_eq (x_nthL nth0 (x_eq (x_nthL nth0 (x_var (d := p0) 0) x_int) rfl) x_int) rfl)) (xs_let fun d2 h3 => (xs_set 3 sc_L_beside.nd (x_got h3 (x_catL (x_eq (x_nthL (nthS nth0) (x_eq (x_nthL nth0 (x_var (d := p0) 0) x_int) rfl) x_int) rfl) (x_eq (x_lc [("_law_lane", 4)] sc_L_beside.nd (xi_list (x_eq (x_nthL (nthS nth0) (x_eq (x_nthL nth0 (x_var (d := p1) 1) x_int) rfl) x_int) rfl)) (fun _ _ _ _ _ => (xg_name 4 sc_L_beside.nd)) xf_no (fun _ _ _ _ _ x1 => (x_tupN (xa_cons (x_add (x_eq (x_nthT nth0 (x_var (d := x1) 4) x_int) rfl) (x_var (d := (p0.1.1.length : Int)) 2)) (xa_cons (x_add (x_eq (x_nthT (nthS nth0) (x_var (d := x1) 4) x_int) rfl) (x_var (d := (p0.1.1.length : Int)) 2)) xa_nil))))) (lcM_map _ _)))) (xs_lc (ys := ((p1.2.1.map fun (x4 : (List Int)) => (x4.map fun (x5 : Int) => (x5 + (p0.1.1.length : Int)))) : (List (List Int)))) 5 [("_law_way_here", 7)] sc_L_beside.nd (xi_list (x_eq (x_nthL (nthS nth0) (x_var (d := p1) 1) x_int) rfl)) (fun _ _ _ _ _ => (xg_name 7 sc_L_beside.nd)) xf_no (fun _ _ _ _ _ x4 => (x_tuple T.b_tuple (x_eq (x_lc [("_law_house", 6)] sc_L_beside.nd (xi_tup (x_var (d := x4) 7)) (fun _ _ _ _ _ => (xg_name 6 sc_L_beside.nd)) xf_no (fun _ _ _ _ _ x5 => (x_add (x_var (d := x5) 6) (x_var (d := (p0.1.1.length : Int)) 2)))) (lcM_map _ _)))) (lcM_map _ _) (xs_set 8 sc_L_beside.nd (x_lst xa_hn) (xs_let fun d6 h7 => (xs_seq (G1 := (fun s8 : (List (List Int)) => (⟨[.val (tLstN (ysC (tLstN (ysC (tLst tInt) (ysC (tLst P2T) ysN))) (ysC (tLst (tTup tInt)) ysN))) p0, .val (tLstN (ysC (tLstN (ysC (tLst tInt) (ysC (tLst P2T) ysN))) (ysC (tLst (tTup tInt)) ysN))) p1, .val tInt (p0.1.1.length : Int), .val (tLst P2T) d2, .non, .val (tLst (tTup tInt)) (p1.2.1.map fun (x4 : (List Int)) => (x4.map fun (x5 : Int) => (x5 + (p0.1.1.length : Int)))), .non, .non, .val (tLst (tTup tInt)) s8, .non], mu0⟩ : Cn))) (xs_for (Gl := (fun s8 : (List (List Int)) => (⟨[.val (tLstN (ysC (tLstN (ysC (tLst tInt) (ysC (tLst P2T) ysN))) (ysC (tLst (tTup tInt)) ysN))) p0, .val (tLstN (ysC (tLstN (ysC (tLst tInt) (ysC (tLst P2T) ysN))) (ysC (tLst (tTup tInt)) ysN))) p1, .val tInt (p0.1.1.length : Int), .val (tLst P2T) d2, .non, .val (tLst (tTup tInt)) (p1.2.1.map fun (x4 : (List Int)) => (x4.map fun (x5 : Int) => (x5 + (p0.1.1.length : Int)))), .non, .non, .val (tLst (tTup tInt)) s8, .non], mu0⟩ : Cn))) ([] : (List (List Int))) (xi_rng1 T.b_range (x_max2 T.b_max (x_lenL T.b_len (x_eq (x_nthL (nthS nth0) (x_var (d := p0) 0) x_int) rfl)) (x_lenL T.b_len (x_var (d := (p1.2.1.map fun (x4 : (List Int)) => (x4.map fun (x5 : Int) => (x5 + (p0.1.1.length : Int))))) 5))) h7) (xg_name 9 sc_L_beside.nd) (wk_of (.same (.same (.same (.same (.non (.same (.non (.non (.same (.non .nil))))))))))) (fun _ => rfl) (fun x9 s8 => (xs_let fun d10 h11 => (xs_let fun d12 h13 => (xs_set 8 sc_L_beside.nd (x_got h13 (x_catL (x_got h11 (x_catL (x_var (d := s8) 8) (x_slL (x_eq (x_nthL (nthS nth0) (x_var (d := p0) 0) x_int) rfl) (xo_some (x_var (d := x9) 9)) (xo_some (x_add (x_var (d := x9) 9) x_int))))) (x_slL (x_var (d := (p1.2.1.map fun (x4 : (List Int)) => (x4.map fun (x5 : Int) => (x5 + (p0.1.1.length : Int))))) 5) (xo_some (x_var (d := x9) 9)) (xo_some (x_add (x_var (d := x9) 9) x_int))))) (xs_nil d12 (wk_of (.same (.same (.same (.same (.non (.same (.non (.non (.same (.non .nil))))))))))))))))) (fun s8 => (xs_let fun d14 h15 => (xs_ret (x_lstN (xa_cons (x_lstN (xa_cons (x_got h15 (x_catL (x_eq (x_nthL nth0 (x_eq (x_nthL nth0 (x_var (d := p0) 0) x_int) rfl) x_int) rfl) (x_eq (x_nthL nth0 (x_eq (x_nthL nth0 (x_var (d := p1) 1) x_int) rfl) x_int) rfl))) (xa_cons (x_var (d := d2) 3) xa_nil))) (xa_cons (x_var (d := s8) 8) xa_nil))))))))))))))
abbrev s_L_longer : Stmt := top 89
theorem sc_L_longer : FnScope ["_law_street_here", "_law_way_here", "_law_length", "_law_row_here", "_law_path", "_law_digit", "_law_froms", "_law_lane"] ["_law_street_here", "_law_way_here", "_law_length", "_law_row_here"] (defScope s_L_longer) := ⟨rfl, rfl, rfl, by decide +kernel, rfl, by decide +kernel, by decide +kernel⟩
def m_L_longer (p0 : ((List Int) × (List (Int × Int × Unit)) × Unit)) (p1 : (List Int)) (p2 : Int) (p3 : (List Int)) : Option (Out Unit Unit (List Int)) := (thenO (forO (fun (x2 : Int) (s1 : (List Int)) => (((filO (fun (x3 : (Int × Int × Unit)) => ((atI s1 (0 : Int)).bind fun d4 => some (decide (x3.2.1 = d4)))) p0.2.1).map (List.map fun (x3 : (Int × Int × Unit)) => x3.1)).bind fun d6 => (thenO (if ((decide ((3 : Int) ≤ (p1.length : Int))) && ((decide ((s1.length : Int) < p2)) && (decide ((0 : Int) < (d6.length : Int))))) = true then ((modO x2 (d6.length : Int)).bind fun d10 => ((atI d6 d10).bind fun d12 => ((catO [d12] s1).bind fun d14 => some (.nx d14)))) else some (.nx s1)) fun s9 : (List Int) => some (.nx s9)))) p3 p1) fun s1 : (List Int) => some (.ret s1))
def f_L_longer (p0 : ((List Int) × (List (Int × Int × Unit)) × Unit)) (p1 : (List Int)) (p2 : Int) (p3 : (List Int)) : Option (List Int) := retO (m_L_longer p0 p1 p2 p3)
theorem has_L_longer {P : Program} {w : World} {K : PySem.W.Frag} {mg : Str → Option Value} {base : Heap} {cS cT cP cC : Addr} (T : Tx P w K mg base cS cT cP cC) : Has P w K mg base "_law_longer" 1 (SpF (ysC (tLstN (ysC (tLst tInt) (ysC (tLst P2T) ysN))) (ysC (tTup tInt) (ysC tInt (ysC (tLst tInt) ysN)))) (tTup tInt) fun d => f_L_longer d.1 d.2.1 d.2.2.1 d.2.2.2.1) := by
  obtain ⟨f, fd, F, hm⟩ := T.d_L_longer
  exact has_def (A := (ysC (tLstN (ysC (tLst tInt) (ysC (tLst P2T) ysN))) (ysC (tTup tInt) (ysC tInt (ysC (tLst tInt) ysN))))) (R := (tTup tInt)) (k := 0) (Gn := fun _ : Unit => ⟨[], mu0⟩) (Gb := fun _ : Unit => ⟨[], mu0⟩) F hm sc_L_longer (prm_cons (prm_cons (prm_cons (prm_cons prm_nil)))) rfl (F.bindsN fun _ _ _ _ _ _ us hl => match us, hl with | [_, _, _, _], _ => rfl)
    (m := fun d => m_L_longer d.1 d.2.1 d.2.2.1 d.2.2.2.1) (fun cdv Ar outer s H E ⟨p0, p1, p2, p3, ()⟩ hr => (xs_set 4 sc_L_longer.nd (x_var (d := p1) 1) (xs_seq (G1 := (fun s1 : (List Int) => (⟨[.val (tLstN (ysC (tLst tInt) (ysC (tLst P2T) ysN))) p0, .val (tTup tInt) p1, .val tInt p2, .val (tLst tInt) p3, .val (tTup tInt) s1, .non, .non, .non], mu0⟩ : Cn))) (xs_for (Gl := (fun s1 : (List Int) => (⟨[.val (tLstN (ysC (tLst tInt) (ysC (tLst P2T) ysN))) p0, .val (tTup tInt) p1, .val tInt p2, .val (tLst tInt) p3, .val (tTup tInt) s1, .non, .non, .non], mu0⟩ : Cn))) p1 (xi_list (x_var (d := p3) 3)) (xg_name 5 sc_L_longer.nd) (wk_of (.same (.same (.same (.same (.same (.non (.non (.non .nil))))))))) (fun _ => rfl) (fun x2 s1 => (xs_let fun d6 h7 => (xs_lc (ys := (d6 : (List Int))) 6 [("_law_lane", 7)] sc_L_longer.nd (xi_list (x_eq (x_nthL (nthS nth0) (x_var (d := p0) 0) x_int) rfl)) (fun _ _ _ _ _ => (xg_name 7 sc_L_longer.nd)) (xf_one fun _ _ _ _ _ x3 => (xt_let fun d4 h5 => (xt_eqm (xt_eqs es_int (x_eq (x_nthT (nthS nth0) (x_var (d := x3) 7) x_int) rfl) (x_got h5 (x_ixT (x_var (d := s1) 4) x_int))) rfl))) (fun _ _ _ _ _ x3 => (x_eq (x_nthT nth0 (x_var (d := x3) 7) x_int) rfl)) (((lcM_filO _ _ _)).trans h7) (xs_seq (G1 := (fun s9 : (List Int) => (⟨[.val (tLstN (ysC (tLst tInt) (ysC (tLst P2T) ysN))) p0, .val (tTup tInt) p1, .val tInt p2, .val (tLst tInt) p3, .val (tTup tInt) s9, .val tInt x2, .val (tLst tInt) d6, .non], mu0⟩ : Cn))) (xs_if (XW.t (xw_eqm (xw_and (xt_ge (x_lenT T.b_len (x_var (d := p1) 1)) x_int) (fun _ => (xw_eqm (xw_and (xt_lt (x_lenT T.b_len (x_var (d := s1) 4)) (x_var (d := p2) 2)) (fun _ => (xw_and1 (xt_gt (x_lenL T.b_len (x_var (d := d6) 6)) x_int)))) and_p))) and_p)) (fun g8 => (xs_let fun d10 h11 => (xs_let fun d12 h13 => (xs_let fun d14 h15 => (xs_set 4 sc_L_longer.nd (x_got h15 (x_catT (x_tup (xa_hc (x_got h13 (x_ixL (x_var (d := d6) 6) (x_got h11 (x_mod (x_toint T.b_int (x_var (d := x2) 5)) (x_lenL T.b_len (x_var (d := d6) 6)))))) xa_hn)) (x_var (d := s1) 4))) (xs_nil d14 (wk_of (.same (.same (.same (.same (.same (.same (.same (.non .nil))))))))))))))) (fun g8 => (xs_nil s1 (wk_of (.same (.same (.same (.same (.same (.same (.same (.non .nil)))))))))))) (fun s9 => (xs_nil s9 (wk_of (.same (.same (.same (.same (.same (.non (.non (.non .nil)))))))))))))))) (fun s1 => (xs_ret (x_var (d := s1) 4))))))
abbrev s_L_row : Stmt := top 90
theorem sc_L_row : FnScope ["_law_street_here", "_law_ways", "_law_goal", "_law_row_here", "_law_now", "_law_step", "_law_k"] ["_law_street_here", "_law_ways", "_law_goal"] (defScope s_L_row) := ⟨rfl, rfl, rfl, by decide +kernel, rfl, by decide +kernel, by decide +kernel⟩
def m_L_row (p0 : ((List Int) × (List (Int × Int × Unit)) × Unit)) (p1 : (List (List Int))) (p2 : (List Int)) : Option (Out Unit Unit (List Int)) := ((rngO 0 (p1.length : Int)).bind fun d1 => ((mapO (fun (x3 : Int) => ((atI p1 x3).bind fun d4 => ((atI p2 x3).bind fun d6 => some ((d4.length : Int) - d6)))) d1).bind fun d8 => ((rngO 0 (d8.sum)).bind fun d10 => (thenO (forO (fun (x13 : Int) (s12 : ((List (List Int)) × (List Int))) => ((rngO 0 (s12.1.length : Int)).bind fun d14 => (thenO (forO (fun (x17 : Int) (s16 : ((List (List Int)) × (List Int))) => ((atI s16.1 x17).bind fun d18 => ((atI p2 x17).bind fun d20 => ((if (decide (d20 < (d18.length : Int))) = true then ((f_L_can_back p0 s16.1 x17).bind fun d22 => (if d22 = true then ((f_L_back s16.1 x17).bind fun d24 => ((f_L_lot p0 d24 p2).bind fun d26 => some (decide (d26 = ([] : (List Int)))))) else some false)) else some false).bind fun d28 => (if d28 = true then ((appO s16.2 x17).bind fun d31 => ((f_L_back s16.1 x17).bind fun d33 => some (.brk (d33, d31)))) else some (.nx (s16.1, s16.2))))))) d14 (s12.1, s12.2)) fun s16 : ((List (List Int)) × (List Int)) => some (.nx (s16.1, s16.2))))) d10 (p1, ([] : (List Int)))) fun s12 : ((List (List Int)) × (List Int)) => some (.ret s12.2)))))
def f_L_row (p0 : ((List Int) × (List (Int × Int × Unit)) × Unit)) (p1 : (List (List Int))) (p2 : (List Int)) : Option (List Int) := retO (m_L_row p0 p1 p2)
theorem has_L_row {P : Program} {w : World} {K : PySem.W.Frag} {mg : Str → Option Value} {base : Heap} {cS cT cP cC : Addr} (T : Tx P w K mg base cS cT cP cC) : Has P w K mg base "_law_row" 4 (SpF (ysC (tLstN (ysC (tLst tInt) (ysC (tLst P2T) ysN))) (ysC (tLst (tTup tInt)) (ysC (tLst tInt) ysN))) (tLst tInt) fun d => f_L_row d.1 d.2.1 d.2.2.1) := by
  obtain ⟨f, fd, F, hm⟩ := T.d_L_row
  exact has_def (A := (ysC (tLstN (ysC (tLst tInt) (ysC (tLst P2T) ysN))) (ysC (tLst (tTup tInt)) (ysC (tLst tInt) ysN)))) (R := (tLst tInt)) (k := 3) (Gn := fun _ : Unit => ⟨[], mu0⟩) (Gb := fun _ : Unit => ⟨[], mu0⟩) F hm sc_L_row (prm_cons (prm_cons (prm_cons prm_nil))) rfl (F.bindsN fun _ _ _ _ _ _ us hl => match us, hl with | [_, _, _], _ => rfl)
    (m := fun d => m_L_row d.1 d.2.1 d.2.2.1) (fun cdv Ar outer s H E ⟨p0, p1, p2, ()⟩ hr => (xs_new 3 sc_L_row.nd rfl (xf_lst xa_hn) (xs_set 4 sc_L_row.nd (x_listL T.b_list (x_var (d := p1) 1)) (xs_let fun d1 h2 => (xs_let fun d8 h9 => (xs_let fun d10 h11 => (xs_seq (G1 := (fun s12 : ((List (List Int)) × (List Int)) => (⟨[.val (tLstN (ysC (tLst tInt) (ysC (tLst P2T) ysN))) p0, .val (tLst (tTup tInt)) p1, .val (tLst tInt) p2, .non, .val (tLst (tTup tInt)) s12.1, .non, .non], (muL 3 tInt s12.2)⟩ : Cn))) (xs_for (Gl := (fun s12 : ((List (List Int)) × (List Int)) => (⟨[.val (tLstN (ysC (tLst tInt) (ysC (tLst P2T) ysN))) p0, .val (tLst (tTup tInt)) p1, .val (tLst tInt) p2, .non, .val (tLst (tTup tInt)) s12.1, .non, .non], (muL 3 tInt s12.2)⟩ : Cn))) (p1, ([] : (List Int))) (xi_rng1 T.b_range (x_sum T.b_sum (x_got h9 (x_eq (x_lc [("_law_k", 6)] sc_L_row.nd (xi_rng1 T.b_range (x_lenL T.b_len (x_var (d := p1) 1)) h2) (fun _ _ _ _ _ => (xg_name 6 sc_L_row.nd)) xf_no (fun _ _ _ _ _ x3 => (x_let fun d4 h5 => (x_let fun d6 h7 => (x_sub (x_lenT T.b_len (x_got h5 (x_ixL (x_var (d := p1) 1) (x_var (d := x3) 6)))) (x_got h7 (x_ixL (x_var (d := p2) 2) (x_var (d := x3) 6)))))))) (lcM_mapO _ _)))) h11) (xg_name 5 sc_L_row.nd) (wk_of (.same (.same (.same (.non (.same (.non (.non .nil)))))))) (fun _ => rfl) (fun x13 s12 => (xs_let fun d14 h15 => (xs_seq (G1 := (fun s16 : ((List (List Int)) × (List Int)) => (⟨[.val (tLstN (ysC (tLst tInt) (ysC (tLst P2T) ysN))) p0, .val (tLst (tTup tInt)) p1, .val (tLst tInt) p2, .non, .val (tLst (tTup tInt)) s16.1, .val tInt x13, .non], (muL 3 tInt s16.2)⟩ : Cn))) (xs_for (Gl := (fun s16 : ((List (List Int)) × (List Int)) => (⟨[.val (tLstN (ysC (tLst tInt) (ysC (tLst P2T) ysN))) p0, .val (tLst (tTup tInt)) p1, .val (tLst tInt) p2, .non, .val (tLst (tTup tInt)) s16.1, .val tInt x13, .non], (muL 3 tInt s16.2)⟩ : Cn))) (s12.1, s12.2) (xi_rng1 T.b_range (x_lenL T.b_len (x_var (d := s12.1) 4)) h15) (xg_name 6 sc_L_row.nd) (wk_of (.same (.same (.same (.non (.same (.same (.non .nil)))))))) (fun _ => rfl) (fun x17 s16 => (xs_let fun d18 h19 => (xs_let fun d20 h21 => (xs_let fun d28 h29 => (xs_ifx (xt_got h29 (XW.t (xw_and (xt_gt (x_lenT T.b_len (x_got h19 (x_ixL (x_var (d := s16.1) 4) (x_var (d := x17) 6)))) (x_got h21 (x_ixL (x_var (d := p2) 2) (x_var (d := x17) 6)))) (fun _ => (xw_let fun d22 h23 => (xw_and (xt_val (x_got h23 (x_eq (x_call (has_L_can_back T) (hr.mono (by decide)) (xa_cons (x_var (d := p0) 0) (xa_cons (x_var (d := s16.1) 4) (xa_cons (x_var (d := x17) 6) xa_nil)))) rfl))) (fun _ => (xw_let fun d24 h25 => (xw_let fun d26 h27 => (xw_and1 (xt_eqD (de_tup de_int) hr.units (x_got h27 (x_eq (x_call (has_L_lot T) (hr.mono (by decide)) (xa_cons (x_var (d := p0) 0) (xa_cons (x_got h25 (x_eq (x_call (has_L_back T) (hr.mono (by decide)) (xa_cons (x_var (d := s16.1) 4) (xa_cons (x_var (d := x17) 6) xa_nil))) rfl)) (xa_cons (x_var (d := p2) 2) xa_nil)))) rfl)) (x_tup xa_hn)))))))))))) (fun g30 => (xs_let fun d31 h32 => (xs_appL (x_var (d := x17) 6) h32 (xs_let fun d33 h34 => (xs_set 4 sc_L_row.nd (x_got h34 (x_eq (x_call (has_L_back T) (hr.mono (by decide)) (xa_cons (x_var (d := s16.1) 4) (xa_cons (x_var (d := x17) 6) xa_nil))) rfl)) (xs_brk (b := (d33, d31)) (wk_of (.same (.same (.same (.non (.same (.same (.non .nil)))))))))))))) (fun g30 => (xs_nil (s16.1, s16.2) (wk_of (.same (.same (.same (.non (.same (.same (.non .nil)))))))))))))))) (fun s16 => (xs_nil (s16.1, s16.2) (wk_of (.same (.same (.same (.non (.same (.non (.non .nil)))))))))))))) (fun s12 => xs_retMu))))))))
abbrev s_L_mirror : Stmt := top 91
theorem sc_L_mirror : FnScope ["_law_ways", "_law_row_here", "_law_now", "_law_pairs", "_law_tool"] ["_law_ways", "_law_row_here"] (defScope s_L_mirror) := ⟨rfl, rfl, rfl, by decide +kernel, rfl, by decide +kernel, by decide +kernel⟩
def m_L_mirror (p0 : (List (List Int))) (p1 : (List Int)) : Option (Out Unit Unit (List (Int × Int × Unit))) := (thenO (forO (fun (x2 : Int) (s1 : ((List (List Int)) × (List (Int × Int × Unit)))) => ((atI s1.1 x2).bind fun d3 => ((atI d3 (-(1 : Int))).bind fun d5 => ((catO [(x2, d5, ())] s1.2).bind fun d7 => ((f_L_back s1.1 x2).bind fun d9 => some (.nx (d9, d7))))))) p1 (p0, ([] : (List (Int × Int × Unit))))) fun s1 : ((List (List Int)) × (List (Int × Int × Unit))) => some (.ret s1.2))
def f_L_mirror (p0 : (List (List Int))) (p1 : (List Int)) : Option (List (Int × Int × Unit)) := retO (m_L_mirror p0 p1)
theorem has_L_mirror {P : Program} {w : World} {K : PySem.W.Frag} {mg : Str → Option Value} {base : Heap} {cS cT cP cC : Addr} (T : Tx P w K mg base cS cT cP cC) : Has P w K mg base "_law_mirror" 2 (SpF (ysC (tLst (tTup tInt)) (ysC (tTup tInt) ysN)) (tTup P2T) fun d => f_L_mirror d.1 d.2.1) := by
  obtain ⟨f, fd, F, hm⟩ := T.d_L_mirror
  exact has_def (A := (ysC (tLst (tTup tInt)) (ysC (tTup tInt) ysN))) (R := (tTup P2T)) (k := 1) (Gn := fun _ : Unit => ⟨[], mu0⟩) (Gb := fun _ : Unit => ⟨[], mu0⟩) F hm sc_L_mirror (prm_cons (prm_cons prm_nil)) rfl (F.bindsN fun _ _ _ _ _ _ us hl => match us, hl with | [_, _], _ => rfl)
    (m := fun d => m_L_mirror d.1 d.2.1) (fun cdv Ar outer s H E ⟨p0, p1, ()⟩ hr => (xs_set 2 sc_L_mirror.nd (x_listL T.b_list (x_var (d := p0) 0)) (xs_set 3 sc_L_mirror.nd (x_lst xa_hn) (xs_seq (G1 := (fun s1 : ((List (List Int)) × (List (Int × Int × Unit))) => (⟨[.val (tLst (tTup tInt)) p0, .val (tTup tInt) p1, .val (tLst (tTup tInt)) s1.1, .val (tLst P2T) s1.2, .non], mu0⟩ : Cn))) (xs_for (Gl := (fun s1 : ((List (List Int)) × (List (Int × Int × Unit))) => (⟨[.val (tLst (tTup tInt)) p0, .val (tTup tInt) p1, .val (tLst (tTup tInt)) s1.1, .val (tLst P2T) s1.2, .non], mu0⟩ : Cn))) (p0, ([] : (List (Int × Int × Unit)))) (xi_tup (x_var (d := p1) 1)) (xg_name 4 sc_L_mirror.nd) (wk_of (.same (.same (.same (.same (.non .nil)))))) (fun _ => rfl) (fun x2 s1 => (xs_let fun d3 h4 => (xs_let fun d5 h6 => (xs_let fun d7 h8 => (xs_set 3 sc_L_mirror.nd (x_got h8 (x_catL (x_lst (xa_hc (x_tupN (xa_cons (x_var (d := x2) 4) (xa_cons (x_got h6 (x_ixT (x_got h4 (x_ixL (x_var (d := s1.1) 2) (x_var (d := x2) 4))) (x_neg x_int))) xa_nil))) xa_hn)) (x_var (d := s1.2) 3))) (xs_let fun d9 h10 => (xs_set 2 sc_L_mirror.nd (x_got h10 (x_eq (x_call (has_L_back T) (hr.mono (by decide)) (xa_cons (x_var (d := s1.1) 2) (xa_cons (x_var (d := x2) 4) xa_nil))) rfl)) (xs_nil (d9, d7) (wk_of (.same (.same (.same (.same (.non .nil))))))))))))))) (fun s1 => (xs_ret (x_tuple T.b_tuple (x_var (d := s1.2) 3))))))))
abbrev s_L_lendings : Stmt := top 92
theorem sc_L_lendings : FnScope ["_law_street_here", "_law_ways", "_law_pairs", "_law_now", "_law_pair"] ["_law_street_here", "_law_ways", "_law_pairs"] (defScope s_L_lendings) := ⟨rfl, rfl, rfl, by decide +kernel, rfl, by decide +kernel, by decide +kernel⟩
def m_L_lendings (p0 : ((List Int) × (List (Int × Int × Unit)) × Unit)) (p1 : (List (List Int))) (p2 : (List (Int × Int × Unit))) : Option (Out Unit Unit (Option (List (List Int)))) := (thenO (forO (fun (x2 : (Int × Int × Unit)) (s1 : (List (List Int))) => ((if (decide (x2.1 < (0 : Int))) = true then some true else (if (decide ((s1.length : Int) ≤ x2.1)) = true then some true else ((f_L_can_lend p0 s1 x2.1 x2.2.1).bind fun d3 => some (!d3)))).bind fun d5 => (if d5 = true then some (.ret none) else ((f_L_lend s1 x2.1 x2.2.1).bind fun d8 => some (.nx d8))))) p2 p1) fun s1 : (List (List Int)) => some (.ret (some s1)))
def f_L_lendings (p0 : ((List Int) × (List (Int × Int × Unit)) × Unit)) (p1 : (List (List Int))) (p2 : (List (Int × Int × Unit))) : Option (Option (List (List Int))) := retO (m_L_lendings p0 p1 p2)
theorem has_L_lendings {P : Program} {w : World} {K : PySem.W.Frag} {mg : Str → Option Value} {base : Heap} {cS cT cP cC : Addr} (T : Tx P w K mg base cS cT cP cC) : Has P w K mg base "_law_lendings" 3 (SpF (ysC (tLstN (ysC (tLst tInt) (ysC (tLst P2T) ysN))) (ysC (tLst (tTup tInt)) (ysC (tTup P2T) ysN))) (tOpt (tLst (tTup tInt))) fun d => f_L_lendings d.1 d.2.1 d.2.2.1) := by
  obtain ⟨f, fd, F, hm⟩ := T.d_L_lendings
  exact has_def (A := (ysC (tLstN (ysC (tLst tInt) (ysC (tLst P2T) ysN))) (ysC (tLst (tTup tInt)) (ysC (tTup P2T) ysN)))) (R := (tOpt (tLst (tTup tInt)))) (k := 2) (Gn := fun _ : Unit => ⟨[], mu0⟩) (Gb := fun _ : Unit => ⟨[], mu0⟩) F hm sc_L_lendings (prm_cons (prm_cons (prm_cons prm_nil))) rfl (F.bindsN fun _ _ _ _ _ _ us hl => match us, hl with | [_, _, _], _ => rfl)
    (m := fun d => m_L_lendings d.1 d.2.1 d.2.2.1) (fun cdv Ar outer s H E ⟨p0, p1, p2, ()⟩ hr => (xs_set 3 sc_L_lendings.nd (x_listL T.b_list (x_var (d := p1) 1)) (xs_seq (G1 := (fun s1 : (List (List Int)) => (⟨[.val (tLstN (ysC (tLst tInt) (ysC (tLst P2T) ysN))) p0, .val (tLst (tTup tInt)) p1, .val (tTup P2T) p2, .val (tLst (tTup tInt)) s1, .non], mu0⟩ : Cn))) (xs_for (Gl := (fun s1 : (List (List Int)) => (⟨[.val (tLstN (ysC (tLst tInt) (ysC (tLst P2T) ysN))) p0, .val (tLst (tTup tInt)) p1, .val (tTup P2T) p2, .val (tLst (tTup tInt)) s1, .non], mu0⟩ : Cn))) p1 (xi_tup (x_var (d := p2) 2)) (xg_name 4 sc_L_lendings.nd) (wk_of (.same (.same (.same (.same (.non .nil)))))) (fun _ => rfl) (fun x2 s1 => (xs_let fun d5 h6 => (xs_ifx (xt_got h6 (XW.t (xw_or (xt_lt (x_eq (x_nthT nth0 (x_var (d := x2) 4) x_int) rfl) x_int) (fun _ => (xw_or (xt_ge (x_eq (x_nthT nth0 (x_var (d := x2) 4) x_int) rfl) (x_lenL T.b_len (x_var (d := s1) 3))) (fun _ => (xw_let fun d3 h4 => (xw_or1 (xt_not (xt_val (x_got h4 (x_eq (x_call (has_L_can_lend T) (hr.mono (by decide)) (xa_cons (x_var (d := p0) 0) (xa_cons (x_var (d := s1) 3) (xa_cons (x_eq (x_nthT nth0 (x_var (d := x2) 4) x_int) rfl) (xa_cons (x_eq (x_nthT (nthS nth0) (x_var (d := x2) 4) x_int) rfl) xa_nil))))) rfl)))))))))))) (fun g7 => (xs_ret x_none)) (fun g7 => (xs_let fun d8 h9 => (xs_set 3 sc_L_lendings.nd (x_got h9 (x_eq (x_call (has_L_lend T) (hr.mono (by decide)) (xa_cons (x_var (d := s1) 3) (xa_cons (x_eq (x_nthT nth0 (x_var (d := x2) 4) x_int) rfl) (xa_cons (x_eq (x_nthT (nthS nth0) (x_var (d := x2) 4) x_int) rfl) xa_nil)))) rfl)) (xs_nil d8 (wk_of (.same (.same (.same (.same (.non .nil)))))))))))))) (fun s1 => (xs_ret (x_some nn_lst (x_var (d := s1) 3)))))))
abbrev s_L_are_pairs : Stmt := top 93
theorem sc_L_are_pairs : FnScope ["_law_value", "_law_pair"] ["_law_value"] (defScope s_L_are_pairs) := ⟨rfl, rfl, rfl, by decide +kernel, rfl, by decide +kernel, by decide +kernel⟩
def m_L_are_pairs (p0 : (List (Int × Int × Unit))) : Option (Out Unit Unit Bool) := (if (!true) = true then some (.ret false) else ((mapO (fun (x2 : (Int × Int × Unit)) => ((if true = true then (if (decide ((2 : Int) = (2 : Int))) = true then ((f_L_whole x2.1).bind fun d3 => (if d3 = true then ((f_L_whole x2.2.1).bind fun d5 => some d5) else some false)) else some false) else some false).bind fun d7 => some d7)) p0).bind fun d9 => some (.ret (d9.all id))))
def f_L_are_pairs (p0 : (List (Int × Int × Unit))) : Option Bool := retO (m_L_are_pairs p0)
theorem has_L_are_pairs {P : Program} {w : World} {K : PySem.W.Frag} {mg : Str → Option Value} {base : Heap} {cS cT cP cC : Addr} (T : Tx P w K mg base cS cT cP cC) : Has P w K mg base "_law_are_pairs" 2 (SpF (ysC (tTup P2T) ysN) tBool fun d => f_L_are_pairs d.1) := by
  obtain ⟨f, fd, F, hm⟩ := T.d_L_are_pairs
  exact has_def (A := (ysC (tTup P2T) ysN)) (R := tBool) (k := 1) (Gn := fun _ : Unit => ⟨[], mu0⟩) (Gb := fun _ : Unit => ⟨[], mu0⟩) F hm sc_L_are_pairs (prm_cons prm_nil) rfl (F.bindsN fun _ _ _ _ _ _ us hl => match us, hl with | [_], _ => rfl)
    (m := fun d => m_L_are_pairs d.1) (fun cdv Ar outer s H E ⟨p0, ()⟩ hr => (xs_ifx (xt_not (xt_val (x_isiTy (tn := "tuple") (b := true) T.b_isinstance (x_var (d := p0) 0) (pe_bltn (v := .ty "tuple") (u := .type "tuple") rfl T.b_tuple (by decide +kernel) rfl) (fun v H h => tyx_tup v H h) (by decide +kernel)))) (fun g1 => (xs_ret x_bl)) (fun g1 => (xs_let fun d9 h10 => (xs_ret (x_all T.b_all (x_got h10 (x_eq (x_lc [("_law_pair", 1)] sc_L_are_pairs.nd (xi_tup (x_var (d := p0) 0)) (fun _ _ _ _ _ => (xg_name 1 sc_L_are_pairs.nd)) xf_no (fun _ _ _ _ _ x2 => (x_let fun d7 h8 => (x_got h8 (x_and (x_isiTy (tn := "tuple") (b := true) T.b_isinstance (x_var (d := x2) 1) (pe_bltn (v := .ty "tuple") (u := .type "tuple") rfl T.b_tuple (by decide +kernel) rfl) (fun v H h => tyx_tupN v H h) (by decide +kernel)) (fun _ => (x_and (x_eq (x_eqs es_int (x_lenN T.b_len (x_var (d := x2) 1)) x_int) rfl) (fun _ => (x_let fun d3 h4 => (x_and (x_got h4 (x_eq (x_call (has_L_whole T) (hr.mono (by decide)) (xa_cons (x_eq (x_nthT nth0 (x_var (d := x2) 1) x_int) rfl) xa_nil)) rfl)) (fun _ => (x_let fun d5 h6 => (x_one (x_got h6 (x_eq (x_call (has_L_whole T) (hr.mono (by decide)) (xa_cons (x_eq (x_nthT (nthS nth0) (x_var (d := x2) 1) x_int) rfl) xa_nil)) rfl))))))))))))))) (lcM_mapO _ _)))))))))
abbrev s_L_are_numbers : Stmt := top 94
theorem sc_L_are_numbers : FnScope ["_law_value", "_law_number"] ["_law_value"] (defScope s_L_are_numbers) := ⟨rfl, rfl, rfl, by decide +kernel, rfl, by decide +kernel, by decide +kernel⟩
def m_L_are_numbers (p0 : (List Int)) : Option (Out Unit Unit Bool) := ((if true = true then ((mapO (fun (x1 : Int) => ((f_L_whole x1).bind fun d2 => some d2)) p0).bind fun d4 => some (d4.all id)) else some false).bind fun d6 => some (.ret d6))
def f_L_are_numbers (p0 : (List Int)) : Option Bool := retO (m_L_are_numbers p0)
theorem has_L_are_numbers {P : Program} {w : World} {K : PySem.W.Frag} {mg : Str → Option Value} {base : Heap} {cS cT cP cC : Addr} (T : Tx P w K mg base cS cT cP cC) : Has P w K mg base "_law_are_numbers" 2 (SpF (ysC (tTup tInt) ysN) tBool fun d => f_L_are_numbers d.1) := by
  obtain ⟨f, fd, F, hm⟩ := T.d_L_are_numbers
  exact has_def (A := (ysC (tTup tInt) ysN)) (R := tBool) (k := 1) (Gn := fun _ : Unit => ⟨[], mu0⟩) (Gb := fun _ : Unit => ⟨[], mu0⟩) F hm sc_L_are_numbers (prm_cons prm_nil) rfl (F.bindsN fun _ _ _ _ _ _ us hl => match us, hl with | [_], _ => rfl)
    (m := fun d => m_L_are_numbers d.1) (fun cdv Ar outer s H E ⟨p0, ()⟩ hr => (xs_let fun d6 h7 => (xs_ret (x_got h7 (x_and (x_isiTy (tn := "tuple") (b := true) T.b_isinstance (x_var (d := p0) 0) (pe_bltn (v := .ty "tuple") (u := .type "tuple") rfl T.b_tuple (by decide +kernel) rfl) (fun v H h => tyx_tup v H h) (by decide +kernel)) (fun _ => (x_let fun d4 h5 => (x_one (x_all T.b_all (x_got h5 (x_eq (x_lc [("_law_number", 1)] sc_L_are_numbers.nd (xi_tup (x_var (d := p0) 0)) (fun _ _ _ _ _ => (xg_name 1 sc_L_are_numbers.nd)) xf_no (fun _ _ _ _ _ x1 => (x_let fun d2 h3 => (x_got h3 (x_eq (x_call (has_L_whole T) (hr.mono (by decide)) (xa_cons (x_var (d := x1) 1) xa_nil)) rfl))))) (lcM_mapO _ _))))))))))))
abbrev s_L_told : Stmt := top 95
theorem sc_L_told : FnScope ["_law_answer", "_law_row_here", "_law_lot_here"] ["_law_answer", "_law_row_here", "_law_lot_here"] (defScope s_L_told) := ⟨rfl, rfl, rfl, by decide +kernel, rfl, by decide +kernel, by decide +kernel⟩
def m_L_told (p0 : PastD) (p1 : (Option (List (Int × Int × Unit)))) (p2 : (List Int)) : Option (Out Unit Unit Bool) := ((if (!true) = true then some true else ((f_L_are_numbers p0.lot).bind fun d1 => (if (!d1) = true then some true else some (!decide (p0.lot = p2))))).bind fun d3 => (if d3 = true then some (.ret false) else (if (p1.isNone) = true then ((if (p0.row.isNone) = true then ((f_Past_possible p0).bind fun d7 => some (decide (d7 = false))) else some false).bind fun d9 => some (.ret d9)) else (p0.row.bind fun d11 => ((f_L_are_pairs d11).bind fun d13 => ((if d13 = true then (p1.bind fun d15 => (if (decide (p0.row = (some d15))) = true then ((f_Past_possible p0).bind fun d17 => some (decide (d17 = true))) else some false)) else some false).bind fun d19 => some (.ret d19)))))))
def f_L_told (p0 : PastD) (p1 : (Option (List (Int × Int × Unit)))) (p2 : (List Int)) : Option Bool := retO (m_L_told p0 p1 p2)
theorem has_L_told {P : Program} {w : World} {K : PySem.W.Frag} {mg : Str → Option Value} {base : Heap} {cS cT cP cC : Addr} (T : Tx P w K mg base cS cT cP cC) : Has P w K mg base "_law_told" 3 (SpF (ysC (tPast cP) (ysC (tOpt (tTup P2T)) (ysC (tTup tInt) ysN))) tBool fun d => f_L_told d.1 d.2.1 d.2.2.1) := by
  obtain ⟨f, fd, F, hm⟩ := T.d_L_told
  exact has_def (A := (ysC (tPast cP) (ysC (tOpt (tTup P2T)) (ysC (tTup tInt) ysN)))) (R := tBool) (k := 2) (Gn := fun _ : Unit => ⟨[], mu0⟩) (Gb := fun _ : Unit => ⟨[], mu0⟩) F hm sc_L_told (prm_cons (prm_cons (prm_cons prm_nil))) rfl (F.bindsN fun _ _ _ _ _ _ us hl => match us, hl with | [_, _, _], _ => rfl)
    (m := fun d => m_L_told d.1 d.2.1 d.2.2.1) (fun cdv Ar outer s H E ⟨p0, p1, p2, ()⟩ hr => (xs_let fun d3 h4 => (xs_ifx (xt_got h4 (XW.t (xw_or (xt_not (xt_val (x_isiO T.ins_Past T.b_isinstance T.m_Past (x_var (d := p0) 0)))) (fun _ => (xw_let fun d1 h2 => (xw_or (xt_not (xt_val (x_got h2 (x_eq (x_call (has_L_are_numbers T) (hr.mono (by decide)) (xa_cons (x_fld T.cf_Past (x_var (d := p0) 0)) xa_nil)) rfl)))) (fun _ => (xw_or1 (xt_neD (de_tup de_int) hr.units (x_fld T.cf_Past (x_var (d := p0) 0)) (x_tupleT T.b_tuple (x_var (d := p2) 2))))))))))) (fun g5 => (xs_ret x_bl)) (fun g5 => (xs_ifx (xt_isN (x_var (d := p1) 1)) (fun g6 => (xs_let fun d9 h10 => (xs_ret (x_got h10 (x_and (x_isN (x_fld T.cf_Past (x_var (d := p0) 0))) (fun _ => (x_let fun d7 h8 => (x_one (x_isB (x_got h8 (x_eq (x_prop T.cf_Past.cl (has_Past_possible T) (hr.mono (by decide)) (x_var (d := p0) 0)) rfl)) x_bl))))))))) (fun g6 => (xs_let fun d11 h12 => (xs_let fun d13 h14 => (xs_let fun d19 h20 => (xs_ret (x_got h20 (x_and (x_got h14 (x_eq (x_call (has_L_are_pairs T) (hr.mono (by decide)) (xa_cons (x_got h12 (x_un (x_fld T.cf_Past (x_var (d := p0) 0)))) xa_nil)) rfl)) (fun _ => (x_let fun d15 h16 => (x_and (x_eqD (de_opt (S := (tTup P2T)) (de_tup de_pair) fun d => ⟨_, rfl⟩) hr.units (x_fld T.cf_Past (x_var (d := p0) 0)) (x_some nn_tup (x_tupleT T.b_tuple (x_got h16 (x_un (x_var (d := p1) 1)))))) (fun _ => (x_let fun d17 h18 => (x_one (x_isB (x_got h18 (x_eq (x_prop T.cf_Past.cl (has_Past_possible T) (hr.mono (by decide)) (x_var (d := p0) 0)) rfl)) x_bl)))))))))))))))))))
abbrev s_L_product : Stmt := top 96
theorem sc_L_product : FnScope ["_law_ways", "_law_product_here", "_law_way_here"] ["_law_ways"] (defScope s_L_product) := ⟨rfl, rfl, rfl, by decide +kernel, rfl, by decide +kernel, by decide +kernel⟩
def m_L_product (p0 : (List (List Int))) : Option (Out Unit Unit Int) := (thenO (forO (fun (x2 : (List Int)) (s1 : Int) => ((mulO s1 (x2.length : Int)).bind fun d3 => some (.nx d3))) p0 (1 : Int)) fun s1 : Int => some (.ret s1))
def f_L_product (p0 : (List (List Int))) : Option Int := retO (m_L_product p0)
theorem has_L_product {P : Program} {w : World} {K : PySem.W.Frag} {mg : Str → Option Value} {base : Heap} {cS cT cP cC : Addr} (T : Tx P w K mg base cS cT cP cC) : Has P w K mg base "_law_product" 1 (SpF (ysC (tLst (tTup tInt)) ysN) tInt fun d => f_L_product d.1) := by
  obtain ⟨f, fd, F, hm⟩ := T.d_L_product
  exact has_def (A := (ysC (tLst (tTup tInt)) ysN)) (R := tInt) (k := 0) (Gn := fun _ : Unit => ⟨[], mu0⟩) (Gb := fun _ : Unit => ⟨[], mu0⟩) F hm sc_L_product (prm_cons prm_nil) rfl (F.bindsN fun _ _ _ _ _ _ us hl => match us, hl with | [_], _ => rfl)
    (m := fun d => m_L_product d.1) (fun cdv Ar outer s H E ⟨p0, ()⟩ hr => (xs_set 1 sc_L_product.nd x_int (xs_seq (G1 := (fun s1 : Int => (⟨[.val (tLst (tTup tInt)) p0, .val tInt s1, .non], mu0⟩ : Cn))) (xs_for (Gl := (fun s1 : Int => (⟨[.val (tLst (tTup tInt)) p0, .val tInt s1, .non], mu0⟩ : Cn))) (1 : Int) (xi_list (x_var (d := p0) 0)) (xg_name 2 sc_L_product.nd) (wk_of (.same (.same (.non .nil)))) (fun _ => rfl) (fun x2 s1 => (xs_let fun d3 h4 => (xs_set 1 sc_L_product.nd (x_got h4 (x_mul (x_var (d := s1) 1) (x_lenT T.b_len (x_var (d := x2) 2)))) (xs_nil d3 (wk_of (.same (.same (.non .nil))))))))) (fun s1 => (xs_ret (x_var (d := s1) 1))))))
abbrev s_L_stage : Stmt := top 97
theorem sc_L_stage : FnScope ["_law_ways", "_law_way_here"] ["_law_ways"] (defScope s_L_stage) := ⟨rfl, rfl, rfl, by decide +kernel, rfl, by decide +kernel, by decide +kernel⟩
def m_L_stage (p0 : (List (List Int))) : Option (Out Unit Unit (List Int)) := some (.ret (p0.map fun (x1 : (List Int)) => (x1.length : Int)))
def f_L_stage (p0 : (List (List Int))) : Option (List Int) := retO (m_L_stage p0)
theorem has_L_stage {P : Program} {w : World} {K : PySem.W.Frag} {mg : Str → Option Value} {base : Heap} {cS cT cP cC : Addr} (T : Tx P w K mg base cS cT cP cC) : Has P w K mg base "_law_stage" 1 (SpF (ysC (tLst (tTup tInt)) ysN) (tTup tInt) fun d => f_L_stage d.1) := by
  obtain ⟨f, fd, F, hm⟩ := T.d_L_stage
  exact has_def (A := (ysC (tLst (tTup tInt)) ysN)) (R := (tTup tInt)) (k := 0) (Gn := fun _ : Unit => ⟨[], mu0⟩) (Gb := fun _ : Unit => ⟨[], mu0⟩) F hm sc_L_stage (prm_cons prm_nil) rfl (F.bindsN fun _ _ _ _ _ _ us hl => match us, hl with | [_], _ => rfl)
    (m := fun d => m_L_stage d.1) (fun cdv Ar outer s H E ⟨p0, ()⟩ hr => (xs_ret (x_tuple T.b_tuple (x_eq (x_lc [("_law_way_here", 1)] sc_L_stage.nd (xi_list (x_var (d := p0) 0)) (fun _ _ _ _ _ => (xg_name 1 sc_L_stage.nd)) xf_no (fun _ _ _ _ _ x1 => (x_lenT T.b_len (x_var (d := x1) 1)))) (lcM_map _ _)))))
abbrev s_L_cut : Stmt := top 98
theorem sc_L_cut : FnScope ["_law_ways", "_law_numbers", "_law_k"] ["_law_ways", "_law_numbers"] (defScope s_L_cut) := ⟨rfl, rfl, rfl, by decide +kernel, rfl, by decide +kernel, by decide +kernel⟩
def m_L_cut (p0 : (List (List Int))) (p1 : (List Int)) : Option (Out Unit Unit (List (List Int))) := ((rngO 0 (p0.length : Int)).bind fun d1 => ((mapO (fun (x3 : Int) => ((atI p0 x3).bind fun d4 => ((atI p1 x3).bind fun d6 => some (cutD d4 none (some d6))))) d1).bind fun d8 => some (.ret d8)))
def f_L_cut (p0 : (List (List Int))) (p1 : (List Int)) : Option (List (List Int)) := retO (m_L_cut p0 p1)
theorem has_L_cut {P : Program} {w : World} {K : PySem.W.Frag} {mg : Str → Option Value} {base : Heap} {cS cT cP cC : Addr} (T : Tx P w K mg base cS cT cP cC) : Has P w K mg base "_law_cut" 1 (SpF (ysC (tLst (tTup tInt)) (ysC (tTup tInt) ysN)) (tLst (tTup tInt)) fun d => f_L_cut d.1 d.2.1) := by
  obtain ⟨f, fd, F, hm⟩ := T.d_L_cut
  exact has_def (A := (ysC (tLst (tTup tInt)) (ysC (tTup tInt) ysN))) (R := (tLst (tTup tInt))) (k := 0) (Gn := fun _ : Unit => ⟨[], mu0⟩) (Gb := fun _ : Unit => ⟨[], mu0⟩) F hm sc_L_cut (prm_cons (prm_cons prm_nil)) rfl (F.bindsN fun _ _ _ _ _ _ us hl => match us, hl with | [_, _], _ => rfl)
    (m := fun d => m_L_cut d.1 d.2.1) (fun cdv Ar outer s H E ⟨p0, p1, ()⟩ hr => (xs_let fun d1 h2 => (xs_let fun d8 h9 => (xs_ret (x_got h9 (x_eq (x_lc [("_law_k", 2)] sc_L_cut.nd (xi_rng1 T.b_range (x_lenL T.b_len (x_var (d := p0) 0)) h2) (fun _ _ _ _ _ => (xg_name 2 sc_L_cut.nd)) xf_no (fun _ _ _ _ _ x3 => (x_let fun d4 h5 => (x_let fun d6 h7 => (x_slT (x_got h5 (x_ixL (x_var (d := p0) 0) (x_var (d := x3) 2))) xo_none (xo_some (x_got h7 (x_ixT (x_var (d := p1) 1) (x_var (d := x3) 2))))))))) (lcM_mapO _ _)))))))
abbrev s_L_next : Stmt := top 99
theorem sc_L_next : FnScope ["_law_numbers", "_law_tool", "_law_k"] ["_law_numbers", "_law_tool"] (defScope s_L_next) := ⟨rfl, rfl, rfl, by decide +kernel, rfl, by decide +kernel, by decide +kernel⟩
def m_L_next (p0 : (List Int)) (p1 : Int) : Option (Out Unit Unit (List Int)) := ((rngO 0 (p0.length : Int)).bind fun d1 => ((mapO (fun (x3 : Int) => ((atI p0 x3).bind fun d4 => some (d4 - (if (decide (x3 = p1)) = true then 1 else 0 : Int)))) d1).bind fun d6 => some (.ret d6)))
def f_L_next (p0 : (List Int)) (p1 : Int) : Option (List Int) := retO (m_L_next p0 p1)
theorem has_L_next {P : Program} {w : World} {K : PySem.W.Frag} {mg : Str → Option Value} {base : Heap} {cS cT cP cC : Addr} (T : Tx P w K mg base cS cT cP cC) : Has P w K mg base "_law_next" 1 (SpF (ysC (tTup tInt) (ysC tInt ysN)) (tTup tInt) fun d => f_L_next d.1 d.2.1) := by
  obtain ⟨f, fd, F, hm⟩ := T.d_L_next
  exact has_def (A := (ysC (tTup tInt) (ysC tInt ysN))) (R := (tTup tInt)) (k := 0) (Gn := fun _ : Unit => ⟨[], mu0⟩) (Gb := fun _ : Unit => ⟨[], mu0⟩) F hm sc_L_next (prm_cons (prm_cons prm_nil)) rfl (F.bindsN fun _ _ _ _ _ _ us hl => match us, hl with | [_, _], _ => rfl)
    (m := fun d => m_L_next d.1 d.2.1) (fun cdv Ar outer s H E ⟨p0, p1, ()⟩ hr => (xs_let fun d1 h2 => (xs_let fun d6 h7 => (xs_ret (x_tuple T.b_tuple (x_got h7 (x_eq (x_lc [("_law_k", 2)] sc_L_next.nd (xi_rng1 T.b_range (x_lenT T.b_len (x_var (d := p0) 0)) h2) (fun _ _ _ _ _ => (xg_name 2 sc_L_next.nd)) xf_no (fun _ _ _ _ _ x3 => (x_let fun d4 h5 => (x_sub (x_got h5 (x_ixT (x_var (d := p0) 0) (x_var (d := x3) 2))) (x_tointB T.b_int (x_eq (x_eqs es_int (x_var (d := x3) 2) (x_var (d := p1) 1)) rfl)))))) (lcM_mapO _ _))))))))
abbrev s_L_build : Stmt := top 100
theorem sc_L_build : FnScope ["_law_street_here", "_law_ways", "_law_form", "_law_lanes", "_law_lane", "_law_way_here"] ["_law_street_here", "_law_ways", "_law_form"] (defScope s_L_build) := ⟨rfl, rfl, rfl, by decide +kernel, rfl, by decide +kernel, by decide +kernel⟩
def m_L_build (p0 : ((List Int) × (List (Int × Int × Unit)) × Unit)) (p1 : (List (List Int))) (p2 : Int) : Option (Out Unit Unit StandD) := (if (decide (p2 = (0 : Int))) = true then ((f_Street_init_t p0.1 p0.2.1).bind fun d2 => ((f_StandingD_tt d2 p1).bind fun d4 => some (.ret d4))) else ((catO (p0.2.1.reverse) (cutD p0.2.1 none (some (2 : Int)))).bind fun d6 => ((f_Street_init_l p0.1 (d6.map fun (x8 : (Int × Int × Unit)) => (x8.1, x8.2.1, ()))).bind fun d15 => ((f_StandingD_ll d15 (p1.map fun (x17 : (List Int)) => x17)).bind fun d18 => some (.ret d18)))))
def f_L_build (p0 : ((List Int) × (List (Int × Int × Unit)) × Unit)) (p1 : (List (List Int))) (p2 : Int) : Option StandD := retO (m_L_build p0 p1 p2)
theorem has_L_build {P : Program} {w : World} {K : PySem.W.Frag} {mg : Str → Option Value} {base : Heap} {cS cT cP cC : Addr} (T : Tx P w K mg base cS cT cP cC) : Has P w K mg base "_law_build" 7 (SpF (ysC (tLstN (ysC (tLst tInt) (ysC (tLst P2T) ysN))) (ysC (tLst (tTup tInt)) (ysC tInt ysN))) (tStand cS cT) fun d => f_L_build d.1 d.2.1 d.2.2.1) := by
  obtain ⟨f, fd, F, hm⟩ := T.d_L_build
  exact has_def (A := (ysC (tLstN (ysC (tLst tInt) (ysC (tLst P2T) ysN))) (ysC (tLst (tTup tInt)) (ysC tInt ysN)))) (R := (tStand cS cT)) (k := 6) (Gn := fun _ : Unit => ⟨[], mu0⟩) (Gb := fun _ : Unit => ⟨[], mu0⟩) F hm sc_L_build (prm_cons (prm_cons (prm_cons prm_nil))) rfl (F.bindsN fun _ _ _ _ _ _ us hl => match us, hl with | [_, _, _], _ => rfl)
    (m := fun d => m_L_build d.1 d.2.1 d.2.2.1) (fun cdv Ar outer s H E ⟨p0, p1, p2, ()⟩ hr => (xs_ifx (xt_eqm (xt_eqs es_int (x_var (d := p2) 2) x_int) rfl) (fun g1 => (xs_let fun d2 h3 => (xs_let fun d4 h5 => (xs_ret (x_got h5 (x_eq (x_makeD (has_StandingD_tt T) (hr.mono (by decide)) (xa_cons (x_got h3 (x_eq (x_make (has_Street_init_t T) (hr.mono (by decide)) (xa_cons (x_tuple T.b_tuple (x_eq (x_nthL nth0 (x_var (d := p0) 0) x_int) rfl)) (xa_cons (x_tuple T.b_tuple (x_eq (x_nthL (nthS nth0) (x_var (d := p0) 0) x_int) rfl)) xa_nil))) rfl)) (xa_cons (x_tuple T.b_tuple (x_var (d := p1) 1)) xa_nil)) hA_D) rfl)))))) (fun g1 => (xs_let fun d6 h7 => (xs_lc (ys := ((d6.map fun (x8 : (Int × Int × Unit)) => (x8.1, x8.2.1, ())) : (List (Int × Int × Unit)))) 3 [("_law_lane", 4)] sc_L_build.nd (xi_list (x_got h7 (x_catL (x_rev (x_eq (x_nthL (nthS nth0) (x_var (d := p0) 0) x_int) rfl)) (x_slL (x_eq (x_nthL (nthS nth0) (x_var (d := p0) 0) x_int) rfl) xo_none (xo_some x_int))))) (fun _ _ _ _ _ => (xg_name 4 sc_L_build.nd)) xf_no (fun _ _ _ _ _ x8 => (x_lstN (xa_cons (x_eq (x_nthT nth0 (x_var (d := x8) 4) x_int) rfl) (xa_cons (x_eq (x_nthT (nthS nth0) (x_var (d := x8) 4) x_int) rfl) xa_nil)))) (lcM_map _ _) (xs_let fun d15 h16 => (xs_let fun d18 h19 => (xs_ret (x_got h19 (x_eq (x_makeD (has_StandingD_ll T) (hr.mono (by decide)) (xa_cons (x_got h16 (x_eq (x_make (has_Street_init_l T) (hr.mono (by decide)) (xa_cons (x_listL T.b_list (x_eq (x_nthL nth0 (x_var (d := p0) 0) x_int) rfl)) (xa_cons (x_var (d := (d6.map fun (x8 : (Int × Int × Unit)) => (x8.1, x8.2.1, ()))) 3) xa_nil))) rfl)) (xa_cons (x_eq (x_lc [("_law_way_here", 5)] sc_L_build.nd (xi_list (x_var (d := p1) 1)) (fun _ _ _ _ _ => (xg_name 5 sc_L_build.nd)) xf_no (fun _ _ _ _ _ x17 => (x_listT T.b_list (x_var (d := x17) 5)))) (lcM_map _ _)) xa_nil)) hA_D) rfl))))))))))
abbrev s_L_lent_here : Stmt := top 101
theorem sc_L_lent_here : FnScope ["_law_street_here", "_law_ways", "_law_tool", "_law_now", "_law_last"] ["_law_street_here", "_law_ways", "_law_tool"] (defScope s_L_lent_here) := ⟨rfl, rfl, rfl, by decide +kernel, rfl, by decide +kernel, by decide +kernel⟩
def m_L_lent_here (p0 : ((List Int) × (List (Int × Int × Unit)) × Unit)) (p1 : (List (List Int))) (p2 : Int) : Option (Out Unit Unit Bool) := ((atI p1 p2).bind fun d1 => (if (decide ((d1.length : Int) < (2 : Int))) = true then some (.ret false) else ((f_L_back p1 p2).bind fun d4 => ((atI d4 p2).bind fun d6 => ((atI d6 (-(1 : Int))).bind fun d8 => ((atI d4 p2).bind fun d10 => ((if (decide ((1 : Int) < (d10.length : Int))) = true then ((f_L_load d4 d8).bind fun d12 => ((atI p0.1 d8).bind fun d14 => some (decide (d14 < d12)))) else some false).bind fun d16 => (if d16 = true then some (.ret false) else ((atI p1 p2).bind fun d19 => ((atI d19 (-(1 : Int))).bind fun d21 => ((f_L_can_lend p0 d4 p2 d21).bind fun d23 => some (.ret d23))))))))))))
def f_L_lent_here (p0 : ((List Int) × (List (Int × Int × Unit)) × Unit)) (p1 : (List (List Int))) (p2 : Int) : Option Bool := retO (m_L_lent_here p0 p1 p2)
theorem has_L_lent_here {P : Program} {w : World} {K : PySem.W.Frag} {mg : Str → Option Value} {base : Heap} {cS cT cP cC : Addr} (T : Tx P w K mg base cS cT cP cC) : Has P w K mg base "_law_lent_here" 3 (SpF (ysC (tLstN (ysC (tLst tInt) (ysC (tLst P2T) ysN))) (ysC (tLst (tTup tInt)) (ysC tInt ysN))) tBool fun d => f_L_lent_here d.1 d.2.1 d.2.2.1) := by
  obtain ⟨f, fd, F, hm⟩ := T.d_L_lent_here
  exact has_def (A := (ysC (tLstN (ysC (tLst tInt) (ysC (tLst P2T) ysN))) (ysC (tLst (tTup tInt)) (ysC tInt ysN)))) (R := tBool) (k := 2) (Gn := fun _ : Unit => ⟨[], mu0⟩) (Gb := fun _ : Unit => ⟨[], mu0⟩) F hm sc_L_lent_here (prm_cons (prm_cons (prm_cons prm_nil))) rfl (F.bindsN fun _ _ _ _ _ _ us hl => match us, hl with | [_, _, _], _ => rfl)
    (m := fun d => m_L_lent_here d.1 d.2.1 d.2.2.1) (fun cdv Ar outer s H E ⟨p0, p1, p2, ()⟩ hr => (xs_let fun d1 h2 => (xs_ifx (xt_lt (x_lenT T.b_len (x_got h2 (x_ixL (x_var (d := p1) 1) (x_var (d := p2) 2)))) x_int) (fun g3 => (xs_ret x_bl)) (fun g3 => (xs_let fun d4 h5 => (xs_set 3 sc_L_lent_here.nd (x_got h5 (x_eq (x_call (has_L_back T) (hr.mono (by decide)) (xa_cons (x_var (d := p1) 1) (xa_cons (x_var (d := p2) 2) xa_nil))) rfl)) (xs_let fun d6 h7 => (xs_let fun d8 h9 => (xs_set 4 sc_L_lent_here.nd (x_got h9 (x_ixT (x_got h7 (x_ixL (x_var (d := d4) 3) (x_var (d := p2) 2))) (x_neg x_int))) (xs_let fun d10 h11 => (xs_let fun d16 h17 => (xs_ifx (xt_got h17 (XW.t (xw_and (xt_gt (x_lenT T.b_len (x_got h11 (x_ixL (x_var (d := d4) 3) (x_var (d := p2) 2)))) x_int) (fun _ => (xw_let fun d12 h13 => (xw_let fun d14 h15 => (xw_and1 (xt_gt (x_got h13 (x_eq (x_call (has_L_load T) (hr.mono (by decide)) (xa_cons (x_var (d := d4) 3) (xa_cons (x_var (d := d8) 4) xa_nil))) rfl)) (x_got h15 (x_ixL (x_eq (x_nthL nth0 (x_var (d := p0) 0) x_int) rfl) (x_var (d := d8) 4))))))))))) (fun g18 => (xs_ret x_bl)) (fun g18 => (xs_let fun d19 h20 => (xs_let fun d21 h22 => (xs_let fun d23 h24 => (xs_ret (x_got h24 (x_eq (x_call (has_L_can_lend T) (hr.mono (by decide)) (xa_cons (x_var (d := p0) 0) (xa_cons (x_var (d := d4) 3) (xa_cons (x_var (d := p2) 2) (xa_cons (x_got h22 (x_ixT (x_got h20 (x_ixL (x_var (d := p1) 1) (x_var (d := p2) 2))) (x_neg x_int))) xa_nil))))) rfl)))))))))))))))))))
end Pg
set_option Elab.async false
set_option linter.all false
set_option maxRecDepth 100000
set_option maxHeartbeats 1000000
namespace Pg
open PySem PySem.Spec PyProof.Rows L2

section
variable {X : Cx} {ρ : List Slot} {i j : Nat} {ds ds' ks : List (List Int)} {e : Expr} {k0 : List Int} {S B R : Type} {Gn : S → Cn} {Gb : B → Cn} {Tr : Ty R} {mm : Option (Out S B R)} {rest : List Stmt} {x : Str} {px ap cp pos sp : Pos}
theorem xs_appDL (he : XE X e ⟨ρ, muD i j ds ks⟩ (tTup tInt) (some k0)) (hl : appO ds k0 = some ds') (hr : XSs X rest ⟨ρ, muD i j ds' ks⟩ Gn Gb Tr mm) (hN : X.N[i]? = some x := by rfl) (hv : Vis X.env.scope x := by first | exact Or.inl rfl | exact Or.inr (Or.inl rfl) | exact Or.inr (Or.inr rfl))
    (hd : (x == ("__debug__" : Str)) = false := by decide) (hcd : (x == ("__classdict__" : Str)) = false := by decide) (hbase : attributeBase (.Name x px) "append" X.env (eval (.Name x px) X.env) = eval (.Name x px) X.env := by rfl)
    (hfew : ((backTo cp (starEach [e] X.env)).all (fun x => !x.1) && (backToKw cp (keywordEach [] X.env)).all (fun x => x.1.isSome) && decide (([e] : List Expr).length + ([] : List Keyword).length + (if ([] : List Keyword).isEmpty then 0 else 1) < 30)) = true := by rfl)
    (hline : (ap.endLine == cp.line) = true := by rfl) (hs1 : starEach [e] X.env = (false, eval e X.env) :: starEach [] X.env := by rfl) (hplain : (backTo cp (starEach [] X.env)).any (·.1) = false := by rfl)
    (hs : swapsWith (.Call (.Attribute (.Name x px) "append" ap) [e] [] cp) none pos.line X.env = pure false := by rfl) : XSs X (.Expr (.Call (.Attribute (.Name x px) "append" ap) [e] [] cp) pos :: rest) ⟨ρ, muD i j ds ks⟩ Gn Gb Tr mm :=
  xs_appD he hl hr (pe_bm PySem.F.plainAttrs_list PySem.F.slot_list_append PySem.F.type_list_append mt_append (pe_var hN hv hd hcd) (pa_cons he.raw pa_nil hs1) hbase hfew hline hs1 hplain) hs
end
theorem dn_of {c : Bool} {m : Option Bool} (h : (if (!c) = true then m else some false) = some true) : c = false := by
  cases c with
  | false => rfl
  | true => cases h
abbrev s_L_lent_from : Stmt := top 102
theorem sc_L_lent_from : FnScope ["_law_street_here", "_law_ways", "_law_goal", "_law_found", "_law_known", "_law_at", "_law_now", "_law_tool", "_law_k", "_law_lower"] ["_law_street_here", "_law_ways", "_law_goal"] (defScope s_L_lent_from) := ⟨rfl, rfl, rfl, by decide +kernel, rfl, by decide +kernel, by decide +kernel⟩
def m_lf2 (p0 : ((List Int) × (List (Int × Int × Unit)) × Unit)) (x1 : Int) (d6 : List (List Int)) (x2 : Int) (s2 : List (List Int)) : Option (Out (List (List Int)) (List (List Int)) (List (List Int))) :=
  (atI s2 x1).bind fun d10 => (f_L_next d10 x2).bind fun d11 => (if (!decide (d11 ∈ s2)) = true then f_L_lent_here p0 d6 x2 else some false).bind fun d12 =>
    thenO (if d12 = true then (atI s2 x1).bind fun d13 => (atI d6 x2).bind fun d14 => (atI d14 (-1)).bind fun d15 => (appO s2 d11).bind fun d16 => some (.nx d16) else some (.nx s2)) fun s3 : List (List Int) => some (.nx s3)
def m_lf1 (p0 : ((List Int) × (List (Int × Int × Unit)) × Unit)) (p1 : List (List Int)) (p2 : List Int) (x1 : Int) (s1 : List (List Int)) : Option (Out (List (List Int)) (List (List Int)) (List (List Int))) :=
  if decide ((s1.length : Int) ≤ x1) = true then some (.brk s1) else (atI s1 x1).bind fun d5 => (f_L_cut p1 d5).bind fun d6 => (rngO 0 (p1.length : Int)).bind fun d7 =>
    (filO (fun x3 : Int => (atI d6 x3).bind fun d8 => (atI p2 x3).bind fun d9 => some (decide (d9 < (d8.length : Int)))) d7).bind fun d17 => thenO (forO (fun (x2 : Int) (s2 : List (List Int)) => m_lf2 p0 x1 d6 x2 s2) d17 s1) fun s2 : List (List Int) => some (.nx s2)
def m_L_lent_from (p0 : ((List Int) × (List (Int × Int × Unit)) × Unit)) (p1 : List (List Int)) (p2 : List Int) : Option (Out Unit Unit (List (List Int))) :=
  (f_L_stage p1).bind fun d0 => thenO (forO (fun (x1 : Int) (s1 : List (List Int)) => m_lf1 p0 p1 p2 x1 s1) (rng 0 4000) [d0]) fun s1 : List (List Int) => some (.ret s1)
def f_L_lent_from (p0 : ((List Int) × (List (Int × Int × Unit)) × Unit)) (p1 : List (List Int)) (p2 : List Int) : Option (List (List Int)) := retO (m_L_lent_from p0 p1 p2)
theorem has_L_lent_from {P : Program} {w : World} {K : PySem.W.Frag} {mg : Str → Option Value} {base : Heap} {cS cT cP cC : Addr} (T : Tx P w K mg base cS cT cP cC) : Has P w K mg base "_law_lent_from" 4 (SpF (ysC (tLstN (ysC (tLst tInt) (ysC (tLst P2T) ysN))) (ysC (tLst (tTup tInt)) (ysC (tLst tInt) ysN))) tDK fun d => f_L_lent_from d.1 d.2.1 d.2.2.1) := by
  obtain ⟨f, fd, F, hm⟩ := T.d_L_lent_from
  exact has_def (A := (ysC (tLstN (ysC (tLst tInt) (ysC (tLst P2T) ysN))) (ysC (tLst (tTup tInt)) (ysC (tLst tInt) ysN)))) (R := tDK) (k := 3) (Gn := fun _ : Unit => ⟨[], mu0⟩) (Gb := fun _ : Unit => ⟨[], mu0⟩) F hm sc_L_lent_from (prm_cons (prm_cons (prm_cons prm_nil))) rfl (F.bindsN fun _ _ _ _ _ _ us hl => match us, hl with | [_, _, _], _ => rfl)
    (m := fun d => m_L_lent_from d.1 d.2.1 d.2.2.1) (fun cdv Ar outer s H E ⟨p0, p1, p2, ()⟩ hr => (xs_let fun d0 h0 => (xs_new 3 sc_L_lent_from.nd rfl (xf_lst (xa_hc (x_got h0 (x_eq (x_call (has_L_stage T) (hr.mono (by decide)) (xa_cons (x_var (d := p1) 1) xa_nil)) rfl)) xa_hn)) (xs_dnew 4 sc_L_lent_from.nd (Room.u1 hr) (x_mu (so_tup so_int) (x_eq (x_ixL (x_var (d := [d0]) 3) x_int) rfl)) (xs_seq (G1 := (fun s1 : List (List Int) => (⟨[.val (tLstN (ysC (tLst tInt) (ysC (tLst P2T) ysN))) p0, .val (tLst (tTup tInt)) p1, .val (tLst tInt) p2, .non, .non, .non, .non, .non, .non, .non], muD 3 4 s1 s1⟩ : Cn))) (xs_for (Gl := (fun s1 : List (List Int) => (⟨[.val (tLstN (ysC (tLst tInt) (ysC (tLst P2T) ysN))) p0, .val (tLst (tTup tInt)) p1, .val (tLst tInt) p2, .non, .non, .non, .non, .non, .non, .non], muD 3 4 s1 s1⟩ : Cn))) [d0] (xi_rng1 T.b_range x_int rfl) (xg_name 5 sc_L_lent_from.nd) (wk_of (.same (.same (.same (.non (.non (.non (.non (.non (.non (.non .nil))))))))))) (fun _ => rfl) (fun x1 s1 => (xs_ifx (xt_muD (xt_ge (x_var (d := x1) 5) (x_lenL T.b_len (x_var (d := s1) 3)))) (fun _ => (xs_brk (b := s1) (wk_of (.same (.same (.same (.non (.non (.non (.non (.non (.non (.non .nil))))))))))))) (fun _ => (xs_let fun d5 h5 => (xs_let fun d6 h6 => (xs_set 6 sc_L_lent_from.nd (x_got h6 (x_eq (x_call (has_L_cut T) (hr.mono (by decide)) (xa_cons (x_var (d := p1) 1) (xa_cons (x_muD (so_tup so_int) (x_got h5 (x_ixL (x_var (d := s1) 3) (x_var (d := x1) 5)))) xa_nil))) rfl)) (xs_let fun d7 h7 => (xs_let fun d17 h17 => (xs_seq (G1 := (fun s2 : List (List Int) => (⟨[.val (tLstN (ysC (tLst tInt) (ysC (tLst P2T) ysN))) p0, .val (tLst (tTup tInt)) p1, .val (tLst tInt) p2, .non, .non, .val tInt x1, .val (tLst (tTup tInt)) d6, .non, .non, .non], muD 3 4 s2 s2⟩ : Cn))) (xs_for (Gl := (fun s2 : List (List Int) => (⟨[.val (tLstN (ysC (tLst tInt) (ysC (tLst P2T) ysN))) p0, .val (tLst (tTup tInt)) p1, .val (tLst tInt) p2, .non, .non, .val tInt x1, .val (tLst (tTup tInt)) d6, .non, .non, .non], muD 3 4 s2 s2⟩ : Cn))) s1 (xi_list (x_got h17 (x_eq (x_lc [("_law_k", 8)] sc_L_lent_from.nd (xi_rng1 T.b_range (x_lenL T.b_len (x_var (d := p1) 1)) h7) (fun _ _ _ _ _ => (xg_name 8 sc_L_lent_from.nd)) (xf_one fun _ _ _ _ _ x3 => (xt_let fun d8 h8 => (xt_let fun d9 h9 => (xt_gt (x_lenT T.b_len (x_got h8 (x_ixL (x_var (d := d6) 6) (x_var (d := x3) 8)))) (x_got h9 (x_ixL (x_var (d := p2) 2) (x_var (d := x3) 8))))))) (fun _ _ _ _ _ x3 => (x_var (d := x3) 8))) (lcM_filOi _ _)))) (xg_name 7 sc_L_lent_from.nd) (wk_of (.same (.same (.same (.non (.non (.same (.same (.non (.non (.non .nil))))))))))) (fun _ => rfl) (fun x2 s2 => (xs_let fun d10 h10 => (xs_let fun d11 h11 => (xs_set 9 sc_L_lent_from.nd (x_got h11 (x_eq (x_call (has_L_next T) (hr.mono (by decide)) (xa_cons (x_muD (so_tup so_int) (x_got h10 (x_ixL (x_var (d := s2) 3) (x_var (d := x1) 5)))) (xa_cons (x_var (d := x2) 7) xa_nil))) rfl)) (xs_let fun d12 h12 => (xs_seq (G1 := (fun s3 : List (List Int) => (⟨[.val (tLstN (ysC (tLst tInt) (ysC (tLst P2T) ysN))) p0, .val (tLst (tTup tInt)) p1, .val (tLst tInt) p2, .non, .non, .val tInt x1, .val (tLst (tTup tInt)) d6, .val tInt x2, .non, .val (tTup tInt) d11], muD 3 4 s3 s3⟩ : Cn))) (xs_if (xt_got h12 (XW.t (xw_and (xt_dni (Room.u1 hr) (x_var (d := d11) 9)) (fun _ => xw_and1 (xt_val (x_eq (x_call (has_L_lent_here T) (hr.mono (by decide)) (xa_cons (x_var (d := p0) 0) (xa_cons (x_var (d := d6) 6) (xa_cons (x_var (d := x2) 7) xa_nil)))) rfl)))))) (fun g1 => (xs_let fun d13 h13 => (xs_let fun d14 h14 => (xs_let fun d15 h15 => (xs_let fun d16 h16 => (xs_dput (Room.u1 hr) (x_tupN (xa_cons (x_muD (so_tup so_int) (x_got h13 (x_ixL (x_var (d := s2) 3) (x_var (d := x1) 5)))) (xa_cons (x_tupN (xa_cons (x_var (d := x2) 7) (xa_cons (x_got h15 (x_ixT (x_got h14 (x_ixL (x_var (d := d6) 6) (x_var (d := x2) 7))) (x_neg x_int))) xa_nil))) xa_nil))) (x_var (d := d11) 9) (dn_of (g1 ▸ h12)) h16 (xs_appDL (x_var (d := d11) 9) h16 (xs_nil d16 (wk_of (.same (.same (.same (.non (.non (.same (.same (.same (.non (.same .nil))))))))))))))))))) (fun g1 => (xs_nil s2 (wk_of (.same (.same (.same (.non (.non (.same (.same (.same (.non (.same .nil)))))))))))))) (fun s3 => (xs_nil s3 (wk_of (.same (.same (.same (.non (.non (.same (.same (.non (.non (.non .nil)))))))))))))))))))) (fun s2 => (xs_nil s2 (wk_of (.same (.same (.same (.non (.non (.non (.non (.non (.non (.non .nil))))))))))))))))))))))) (fun s1 => xs_retD))))))
end Pg
set_option Elab.async false
set_option linter.all false
set_option maxRecDepth 100000
set_option maxHeartbeats 1000000
namespace Pg
open PySem PySem.Spec PyProof.Rows L2
abbrev s_law : Stmt := top 103
theorem sc_law : FnScope ["_law_script", "_law_plan", "_law_menu", "_law_most", "_law_kinds", "_law_town_here", "_law_street_here", "_law_ways", "_law_grown", "_law_path", "_law_goal", "_law_lot_here", "_law_tools", "_law_due", "_law_standing", "_law_answer", "_law_start", "_law_way_here", "_law_there", "_law_alone"] ["_law_script"] (defScope s_law) := ⟨rfl, rfl, rfl, by decide +kernel, rfl, by decide +kernel, by decide +kernel⟩
def m_law (p0 : (List Int)) : Option (Out Unit Unit Bool) := ((f_L_cell p0 (0 : Int)).bind fun d1 => ((f_L_digits d1 [(8 : Int), (4 : Int), (8 : Int), (20 : Int), (4 : Int), (2 : Int)]).bind fun d3 => ((atI d3 (1 : Int)).bind fun d5 => ((atI [[(2 : Int), (2 : Int), (3 : Int), (2 : Int), (3 : Int), (2 : Int)], [(2 : Int), (2 : Int), (2 : Int), (2 : Int), (2 : Int), (2 : Int)], [(3 : Int), (2 : Int), (3 : Int), (4 : Int), (2 : Int), (3 : Int)], [(2 : Int), (5 : Int), (2 : Int), (9 : Int), (3 : Int), (2 : Int)]] d5).bind fun d7 => ((atI d3 (0 : Int)).bind fun d9 => (thenO (if (decide (d9 = (1 : Int))) = true then some (.nx ([(9 : Int), (2 : Int), (6 : Int), (3 : Int), (7 : Int), (4 : Int)], (18 : Int))) else some (.nx (d7, (10 : Int)))) fun s12 : ((List Int) × Int) => ((f_L_town p0 (1 : Int) s12.1 [(0 : Int), (1 : Int), (2 : Int), (3 : Int), (4 : Int), (5 : Int), (5 : Int), (5 : Int), (5 : Int), (6 : Int), (7 : Int), (7 : Int), (7 : Int), (7 : Int), (7 : Int), (7 : Int)] s12.2).bind fun d13 => ((atI d3 (0 : Int)).bind fun d15 => (thenO (if (decide (d15 = (0 : Int))) = true then ((f_L_town p0 (13 : Int) s12.1 [(0 : Int), (1 : Int), (2 : Int), (3 : Int), (4 : Int), (5 : Int), (5 : Int), (5 : Int), (5 : Int), (6 : Int), (7 : Int), (7 : Int), (7 : Int), (7 : Int), (7 : Int), (7 : Int)] (10 : Int)).bind fun d19 => ((f_L_beside d13 d19).bind fun d21 => some (.nx d21))) else some (.nx d13)) fun s18 : (((List Int) × (List (Int × Int × Unit)) × Unit) × (List (List Int)) × Unit) => ((atI d3 (2 : Int)).bind fun d23 => (thenO (if ((decide (d23 = (0 : Int))) && (decide ((0 : Int) < (s18.2.1.length : Int)))) = true then ((atI d3 (3 : Int)).bind fun d27 => ((modO d27 (s18.2.1.length : Int)).bind fun d29 => ((atI s18.2.1 d29).bind fun d31 => ((atI d3 (4 : Int)).bind fun d33 => ((atI [(40 : Int), (40 : Int), (23 : Int), (9 : Int)] d33).bind fun d35 => ((f_L_cell p0 (25 : Int)).bind fun d37 => ((f_L_digits d37 (List.replicate 37 [(6 : Int)]).flatten).bind fun d39 => ((f_L_longer s18.1 d31 d35 d39).bind fun d41 => ((catO (cutD s18.2.1 none (some d29)) [d41]).bind fun d43 => ((catO d43 (cutD s18.2.1 (some (d29 + (1 : Int))) none)).bind fun d45 => some (.nx d45))))))))))) else some (.nx s18.2.1)) fun s26 : (List (List Int)) => ((f_L_home s26).bind fun d47 => ((f_L_lot s18.1 s26 d47).bind fun d49 => (thenO (if (decide (d49 = ([] : (List Int)))) = true then ((f_L_row s18.1 s26 d47).bind fun d53 => ((some d53).bind fun d55 => ((f_L_mirror s26 d55).bind fun d57 => some (.nx ((some d53), (some d57)))))) else some (.nx (none, none))) fun s52 : ((Option (List Int)) × (Option (List (Int × Int × Unit)))) => ((atI d3 (5 : Int)).bind fun d59 => ((f_L_build s18.1 s26 d59).bind fun d61 => ((f_pastN d61).bind fun d63 => ((f_L_told d63 s52.2 d49).bind fun d65 => (if (!d65) = true then some (.ret false) else ((f_L_product s26).bind fun d68 => ((if (decide (d68 ≤ (200 : Int))) = true then ((f_L_lent_from s18.1 s26 d47).bind fun d70 => ((f_Past_possible d63).bind fun d72 => some (!decide ((decide (d47 ∈ d70)) = d72)))) else some false).bind fun d74 => (if d74 = true then some (.ret false) else ((mapO (fun (x77 : (List Int)) => ((atI x77 (0 : Int)).bind fun d78 => some d78)) s26).bind fun d80 => ((f_Standing_home () d61.street d80).bind fun d82 => (thenO (if (!s52.2.isNone) = true then (d63.row.bind fun d87 => ((f_L_lendings s18.1 (s26.map fun (x86 : (List Int)) => (cutD x86 none (some (1 : Int)))) d87).bind fun d89 => (if (!decide (d89 = (some s26))) = true then some (.ret false) else (d63.row.bind fun d92 => ((f_is_pastN d61 d92).bind fun d94 => ((if (!decide (d94 = true)) = true then some true else (d63.row.bind fun d96 => ((f_lending_deeds d96).bind fun d98 => ((f_run d82 d98).bind fun d100 => ((f_Standing_eq d100 d61).bind fun d102 => some (!d102)))))).bind fun d104 => (if d104 = true then some (.ret false) else some (.nx ())))))))) else some (.nx ())) fun s85 : Unit => ((f_home_coming d61).bind fun d107 => ((if (!decide (d107.row = s52.1)) = true then some true else (if (!decide (d107.lot = d49)) = true then some true else ((f_Coming_reached d107).bind fun d109 => ((f_Past_possible d63).bind fun d111 => some (!decide (d109 = d111)))))).bind fun d113 => (if d113 = true then some (.ret false) else ((atI d3 (4 : Int)).bind fun d116 => ((f_Street_init_l [((1 : Int) + d116)] ([] : (List (Int × Int × Unit)))).bind fun d118 => ((atI d3 (1 : Int)).bind fun d120 => ((repO [(0 : Int)] d120).bind fun d122 => ((f_Standing_home () d118 d122).bind fun d124 => ((f_pastN d82).bind fun d126 => ((f_L_told d126 (some ([] : (List (Int × Int × Unit)))) ([] : (List Int))).bind fun d128 => ((if (!d128) = true then some true else ((f_pastN d124).bind fun d130 => ((f_L_told d130 (some ([] : (List (Int × Int × Unit)))) ([] : (List Int))).bind fun d132 => some (!d132)))).bind fun d134 => (if d134 = true then some (.ret false) else ((f_pastN d61).bind fun d137 => ((f_L_told d137 s52.2 d49).bind fun d139 => (if (!d139) = true then some (.ret false) else ((f_L_told d63 s52.2 d49).bind fun d142 => (if (!d142) = true then some (.ret false) else some (.ret ((decide (d61.ways = s26)) && (decide (d61.street.pegs = s18.1.1))))))))))))))))))))))))))))))))))))))))))))))
def f_law (p0 : (List Int)) : Option Bool := retO (m_law p0)
theorem fn_law {P : Program} {w : World} {K : PySem.W.Frag} {mg : Str → Option Value} {base : Heap} {cS cT cP cC : Addr} (T : Tx P w K mg base cS cT cP cC) {f : Addr} {fd : FuncData} (F : FunD K "law" "law" (defArgs s_law) (defBody s_law) (defScope s_law) [] [] f fd) : FnOk P w K mg base CX0 14 f fd ["_law_script"] (SpF (ysC (tScr K) ysN) tBool fun d => f_law d.1) :=
  fnok_def (A := (ysC (tScr K) ysN)) (R := tBool) (k := 13) (Gn := fun _ : Unit => ⟨[], mu0⟩) (Gb := fun _ : Unit => ⟨[], mu0⟩) F sc_law (prm_cons prm_nil) rfl (m := fun d => m_law d.1) (fun cdv Ar outer s H E ⟨p0, ()⟩ hr => (xs_let fun d1 h2 => (xs_let fun d3 h4 => (xs_set 1 sc_law.nd (x_got h4 (x_eq (x_call (has_L_digits T) (hr.mono (by decide)) (xa_cons (x_got h2 (x_eq (x_call (has_L_cell T) (hr.mono (by decide)) (xa_cons (x_var (d := p0) 0) (xa_cons x_int xa_nil))) rfl)) (xa_cons (x_lst (xa_hc x_int (xa_hc x_int (xa_hc x_int (xa_hc x_int (xa_hc x_int (xa_hc x_int xa_hn))))))) xa_nil))) rfl)) (xs_cn (Γ' := (⟨[.val (tScr K) p0, .val (tLst tInt) d3, .non, .non, .non, .non, .non, .non, .non, .non, .non, .non, .non, .non, .non, .non, .non, .non, .non, .non], mu0⟩ : Cn)) rfl (xs_let fun d5 h6 => (xs_let fun d7 h8 => (xs_set 2 sc_law.nd (x_got h8 (x_ixL (x_lst (xa_hc (x_lst (xa_hc x_int (xa_hc x_int (xa_hc x_int (xa_hc x_int (xa_hc x_int (xa_hc x_int xa_hn))))))) (xa_hc (x_lst (xa_hc x_int (xa_hc x_int (xa_hc x_int (xa_hc x_int (xa_hc x_int (xa_hc x_int xa_hn))))))) (xa_hc (x_lst (xa_hc x_int (xa_hc x_int (xa_hc x_int (xa_hc x_int (xa_hc x_int (xa_hc x_int xa_hn))))))) (xa_hc (x_lst (xa_hc x_int (xa_hc x_int (xa_hc x_int (xa_hc x_int (xa_hc x_int (xa_hc x_int xa_hn))))))) xa_hn))))) (x_got h6 (x_ixL (x_var (d := d3) 1) x_int)))) (xs_cn (Γ' := (⟨[.val (tScr K) p0, .val (tLst tInt) d3, .val (tLst tInt) d7, .non, .non, .non, .non, .non, .non, .non, .non, .non, .non, .non, .non, .non, .non, .non, .non, .non], mu0⟩ : Cn)) rfl (xs_set 3 sc_law.nd x_int (xs_cn (Γ' := (⟨[.val (tScr K) p0, .val (tLst tInt) d3, .val (tLst tInt) d7, .val tInt (10 : Int), .non, .non, .non, .non, .non, .non, .non, .non, .non, .non, .non, .non, .non, .non, .non, .non], mu0⟩ : Cn)) rfl (xs_let fun d9 h10 => (xs_seq (G1 := (fun s12 : ((List Int) × Int) => (⟨[.val (tScr K) p0, .val (tLst tInt) d3, .val (tLst tInt) s12.1, .val tInt s12.2, .non, .non, .non, .non, .non, .non, .non, .non, .non, .non, .non, .non, .non, .non, .non, .non], mu0⟩ : Cn))) (xs_if (xt_eqm (xt_eqs es_int (x_got h10 (x_ixL (x_var (d := d3) 1) x_int)) x_int) rfl) (fun g11 => (xs_set 2 sc_law.nd (x_lst (xa_hc x_int (xa_hc x_int (xa_hc x_int (xa_hc x_int (xa_hc x_int (xa_hc x_int xa_hn))))))) (xs_cn (Γ' := (⟨[.val (tScr K) p0, .val (tLst tInt) d3, .val (tLst tInt) [(9 : Int), (2 : Int), (6 : Int), (3 : Int), (7 : Int), (4 : Int)], .val tInt (10 : Int), .non, .non, .non, .non, .non, .non, .non, .non, .non, .non, .non, .non, .non, .non, .non, .non], mu0⟩ : Cn)) rfl (xs_set 3 sc_law.nd x_int (xs_cn (Γ' := (⟨[.val (tScr K) p0, .val (tLst tInt) d3, .val (tLst tInt) [(9 : Int), (2 : Int), (6 : Int), (3 : Int), (7 : Int), (4 : Int)], .val tInt (18 : Int), .non, .non, .non, .non, .non, .non, .non, .non, .non, .non, .non, .non, .non, .non, .non, .non], mu0⟩ : Cn)) rfl (xs_nil ([(9 : Int), (2 : Int), (6 : Int), (3 : Int), (7 : Int), (4 : Int)], (18 : Int)) (wk_of (.same (.same (.same (.same (.non (.non (.non (.non (.non (.non (.non (.non (.non (.non (.non (.non (.non (.non (.non (.non .nil))))))))))))))))))))))))))) (fun g11 => (xs_nil (d7, (10 : Int)) (wk_of (.same (.same (.same (.same (.non (.non (.non (.non (.non (.non (.non (.non (.non (.non (.non (.non (.non (.non (.non (.non .nil)))))))))))))))))))))))) (fun s12 => (xs_set 4 sc_law.nd (x_lst (xa_hc x_int (xa_hc x_int (xa_hc x_int (xa_hc x_int (xa_hc x_int (xa_hc x_int (xa_hc x_int (xa_hc x_int (xa_hc x_int (xa_hc x_int (xa_hc x_int (xa_hc x_int (xa_hc x_int (xa_hc x_int (xa_hc x_int (xa_hc x_int xa_hn))))))))))))))))) (xs_cn (Γ' := (⟨[.val (tScr K) p0, .val (tLst tInt) d3, .val (tLst tInt) s12.1, .val tInt s12.2, .val (tLst tInt) [(0 : Int), (1 : Int), (2 : Int), (3 : Int), (4 : Int), (5 : Int), (5 : Int), (5 : Int), (5 : Int), (6 : Int), (7 : Int), (7 : Int), (7 : Int), (7 : Int), (7 : Int), (7 : Int)], .non, .non, .non, .non, .non, .non, .non, .non, .non, .non, .non, .non, .non, .non, .non], mu0⟩ : Cn)) rfl (xs_let fun d13 h14 => (xs_set 5 sc_law.nd (x_got h14 (x_eq (x_call (has_L_town T) (hr.mono (by decide)) (xa_cons (x_var (d := p0) 0) (xa_cons x_int (xa_cons (x_var (d := s12.1) 2) (xa_cons (x_var (d := [(0 : Int), (1 : Int), (2 : Int), (3 : Int), (4 : Int), (5 : Int), (5 : Int), (5 : Int), (5 : Int), (6 : Int), (7 : Int), (7 : Int), (7 : Int), (7 : Int), (7 : Int), (7 : Int)]) 4) (xa_cons (x_var (d := s12.2) 3) xa_nil)))))) rfl)) (xs_cn (Γ' := (⟨[.val (tScr K) p0, .val (tLst tInt) d3, .val (tLst tInt) s12.1, .val tInt s12.2, .val (tLst tInt) [(0 : Int), (1 : Int), (2 : Int), (3 : Int), (4 : Int), (5 : Int), (5 : Int), (5 : Int), (5 : Int), (6 : Int), (7 : Int), (7 : Int), (7 : Int), (7 : Int), (7 : Int), (7 : Int)], .val (tLstN (ysC (tLstN (ysC (tLst tInt) (ysC (tLst P2T) ysN))) (ysC (tLst (tTup tInt)) ysN))) d13, .non, .non, .non, .non, .non, .non, .non, .non, .non, .non, .non, .non, .non, .non], mu0⟩ : Cn)) rfl (xs_let fun d15 h16 => (xs_seq (G1 := (fun s18 : (((List Int) × (List (Int × Int × Unit)) × Unit) × (List (List Int)) × Unit) => (⟨[.val (tScr K) p0, .val (tLst tInt) d3, .val (tLst tInt) s12.1, .val tInt s12.2, .val (tLst tInt) [(0 : Int), (1 : Int), (2 : Int), (3 : Int), (4 : Int), (5 : Int), (5 : Int), (5 : Int), (5 : Int), (6 : Int), (7 : Int), (7 : Int), (7 : Int), (7 : Int), (7 : Int), (7 : Int)], .val (tLstN (ysC (tLstN (ysC (tLst tInt) (ysC (tLst P2T) ysN))) (ysC (tLst (tTup tInt)) ysN))) s18, .non, .non, .non, .non, .non, .non, .non, .non, .non, .non, .non, .non, .non, .non], mu0⟩ : Cn))) (xs_if (xt_eqm (xt_eqs es_int (x_got h16 (x_ixL (x_var (d := d3) 1) x_int)) x_int) rfl) (fun g17 => (xs_let fun d19 h20 => (xs_let fun d21 h22 => (xs_set 5 sc_law.nd (x_got h22 (x_eq (x_call (has_L_beside T) (hr.mono (by decide)) (xa_cons (x_var (d := d13) 5) (xa_cons (x_got h20 (x_eq (x_call (has_L_town T) (hr.mono (by decide)) (xa_cons (x_var (d := p0) 0) (xa_cons x_int (xa_cons (x_var (d := s12.1) 2) (xa_cons (x_var (d := [(0 : Int), (1 : Int), (2 : Int), (3 : Int), (4 : Int), (5 : Int), (5 : Int), (5 : Int), (5 : Int), (6 : Int), (7 : Int), (7 : Int), (7 : Int), (7 : Int), (7 : Int), (7 : Int)]) 4) (xa_cons x_int xa_nil)))))) rfl)) xa_nil))) rfl)) (xs_cn (Γ' := (⟨[.val (tScr K) p0, .val (tLst tInt) d3, .val (tLst tInt) s12.1, .val tInt s12.2, .val (tLst tInt) [(0 : Int), (1 : Int), (2 : Int), (3 : Int), (4 : Int), (5 : Int), (5 : Int), (5 : Int), (5 : Int), (6 : Int), (7 : Int), (7 : Int), (7 : Int), (7 : Int), (7 : Int), (7 : Int)], .val (tLstN (ysC (tLstN (ysC (tLst tInt) (ysC (tLst P2T) ysN))) (ysC (tLst (tTup tInt)) ysN))) d21, .non, .non, .non, .non, .non, .non, .non, .non, .non, .non, .non, .non, .non, .non], mu0⟩ : Cn)) rfl (xs_nil d21 (wk_of (.same (.same (.same (.same (.same (.same (.non (.non (.non (.non (.non (.non (.non (.non (.non (.non (.non (.non (.non (.non .nil))))))))))))))))))))))))))) (fun g17 => (xs_nil d13 (wk_of (.same (.same (.same (.same (.same (.same (.non (.non (.non (.non (.non (.non (.non (.non (.non (.non (.non (.non (.non (.non .nil)))))))))))))))))))))))) (fun s18 => (xs_set 6 sc_law.nd (x_eq (x_nthL nth0 (x_var (d := s18) 5) x_int) rfl) (xs_cn (Γ' := (⟨[.val (tScr K) p0, .val (tLst tInt) d3, .val (tLst tInt) s12.1, .val tInt s12.2, .val (tLst tInt) [(0 : Int), (1 : Int), (2 : Int), (3 : Int), (4 : Int), (5 : Int), (5 : Int), (5 : Int), (5 : Int), (6 : Int), (7 : Int), (7 : Int), (7 : Int), (7 : Int), (7 : Int), (7 : Int)], .val (tLstN (ysC (tLstN (ysC (tLst tInt) (ysC (tLst P2T) ysN))) (ysC (tLst (tTup tInt)) ysN))) s18, .val (tLstN (ysC (tLst tInt) (ysC (tLst P2T) ysN))) s18.1, .non, .non, .non, .non, .non, .non, .non, .non, .non, .non, .non, .non, .non], mu0⟩ : Cn)) rfl (xs_set 7 sc_law.nd (x_eq (x_nthL (nthS nth0) (x_var (d := s18) 5) x_int) rfl) (xs_cn (Γ' := (⟨[.val (tScr K) p0, .val (tLst tInt) d3, .val (tLst tInt) s12.1, .val tInt s12.2, .val (tLst tInt) [(0 : Int), (1 : Int), (2 : Int), (3 : Int), (4 : Int), (5 : Int), (5 : Int), (5 : Int), (5 : Int), (6 : Int), (7 : Int), (7 : Int), (7 : Int), (7 : Int), (7 : Int), (7 : Int)], .val (tLstN (ysC (tLstN (ysC (tLst tInt) (ysC (tLst P2T) ysN))) (ysC (tLst (tTup tInt)) ysN))) s18, .val (tLstN (ysC (tLst tInt) (ysC (tLst P2T) ysN))) s18.1, .val (tLst (tTup tInt)) s18.2.1, .non, .non, .non, .non, .non, .non, .non, .non, .non, .non, .non, .non], mu0⟩ : Cn)) rfl (xs_let fun d23 h24 => (xs_seq (G1 := (fun s26 : (List (List Int)) => (⟨[.val (tScr K) p0, .val (tLst tInt) d3, .val (tLst tInt) s12.1, .val tInt s12.2, .val (tLst tInt) [(0 : Int), (1 : Int), (2 : Int), (3 : Int), (4 : Int), (5 : Int), (5 : Int), (5 : Int), (5 : Int), (6 : Int), (7 : Int), (7 : Int), (7 : Int), (7 : Int), (7 : Int), (7 : Int)], .val (tLstN (ysC (tLstN (ysC (tLst tInt) (ysC (tLst P2T) ysN))) (ysC (tLst (tTup tInt)) ysN))) s18, .val (tLstN (ysC (tLst tInt) (ysC (tLst P2T) ysN))) s18.1, .val (tLst (tTup tInt)) s26, .non, .non, .non, .non, .non, .non, .non, .non, .non, .non, .non, .non], mu0⟩ : Cn))) (xs_if (XW.t (xw_eqm (xw_and (xt_eqm (xt_eqs es_int (x_got h24 (x_ixL (x_var (d := d3) 1) x_int)) x_int) rfl) (fun _ => (xw_and1 (xt_gt (x_lenL T.b_len (x_var (d := s18.2.1) 7)) x_int)))) and_p)) (fun g25 => (xs_let fun d27 h28 => (xs_let fun d29 h30 => (xs_set 8 sc_law.nd (x_got h30 (x_mod (x_toint T.b_int (x_got h28 (x_ixL (x_var (d := d3) 1) x_int))) (x_lenL T.b_len (x_var (d := s18.2.1) 7)))) (xs_cn (Γ' := (⟨[.val (tScr K) p0, .val (tLst tInt) d3, .val (tLst tInt) s12.1, .val tInt s12.2, .val (tLst tInt) [(0 : Int), (1 : Int), (2 : Int), (3 : Int), (4 : Int), (5 : Int), (5 : Int), (5 : Int), (5 : Int), (6 : Int), (7 : Int), (7 : Int), (7 : Int), (7 : Int), (7 : Int), (7 : Int)], .val (tLstN (ysC (tLstN (ysC (tLst tInt) (ysC (tLst P2T) ysN))) (ysC (tLst (tTup tInt)) ysN))) s18, .val (tLstN (ysC (tLst tInt) (ysC (tLst P2T) ysN))) s18.1, .val (tLst (tTup tInt)) s18.2.1, .val tInt d29, .non, .non, .non, .non, .non, .non, .non, .non, .non, .non, .non], mu0⟩ : Cn)) rfl (xs_let fun d31 h32 => (xs_let fun d33 h34 => (xs_let fun d35 h36 => (xs_let fun d37 h38 => (xs_let fun d39 h40 => (xs_let fun d41 h42 => (xs_set 9 sc_law.nd (x_got h42 (x_eq (x_call (has_L_longer T) (hr.mono (by decide)) (xa_cons (x_var (d := s18.1) 6) (xa_cons (x_got h32 (x_ixL (x_var (d := s18.2.1) 7) (x_var (d := d29) 8))) (xa_cons (x_got h36 (x_ixL (x_lst (xa_hc x_int (xa_hc x_int (xa_hc x_int (xa_hc x_int xa_hn))))) (x_got h34 (x_ixL (x_var (d := d3) 1) x_int)))) (xa_cons (x_got h40 (x_eq (x_call (has_L_digits T) (hr.mono (by decide)) (xa_cons (x_got h38 (x_eq (x_call (has_L_cell T) (hr.mono (by decide)) (xa_cons (x_var (d := p0) 0) (xa_cons x_int xa_nil))) rfl)) (xa_cons (x_eq (x_rep (x_lst (xa_hc x_int xa_hn)) x_int) rfl) xa_nil))) rfl)) xa_nil))))) rfl)) (xs_cn (Γ' := (⟨[.val (tScr K) p0, .val (tLst tInt) d3, .val (tLst tInt) s12.1, .val tInt s12.2, .val (tLst tInt) [(0 : Int), (1 : Int), (2 : Int), (3 : Int), (4 : Int), (5 : Int), (5 : Int), (5 : Int), (5 : Int), (6 : Int), (7 : Int), (7 : Int), (7 : Int), (7 : Int), (7 : Int), (7 : Int)], .val (tLstN (ysC (tLstN (ysC (tLst tInt) (ysC (tLst P2T) ysN))) (ysC (tLst (tTup tInt)) ysN))) s18, .val (tLstN (ysC (tLst tInt) (ysC (tLst P2T) ysN))) s18.1, .val (tLst (tTup tInt)) s18.2.1, .val tInt d29, .val (tTup tInt) d41, .non, .non, .non, .non, .non, .non, .non, .non, .non, .non], mu0⟩ : Cn)) rfl (xs_let fun d43 h44 => (xs_let fun d45 h46 => (xs_set 7 sc_law.nd (x_got h46 (x_catL (x_got h44 (x_catL (x_slL (x_var (d := s18.2.1) 7) xo_none (xo_some (x_var (d := d29) 8))) (x_lst (xa_hc (x_var (d := d41) 9) xa_hn)))) (x_slL (x_var (d := s18.2.1) 7) (xo_some (x_add (x_var (d := d29) 8) x_int)) xo_none))) (xs_cn (Γ' := (⟨[.val (tScr K) p0, .val (tLst tInt) d3, .val (tLst tInt) s12.1, .val tInt s12.2, .val (tLst tInt) [(0 : Int), (1 : Int), (2 : Int), (3 : Int), (4 : Int), (5 : Int), (5 : Int), (5 : Int), (5 : Int), (6 : Int), (7 : Int), (7 : Int), (7 : Int), (7 : Int), (7 : Int), (7 : Int)], .val (tLstN (ysC (tLstN (ysC (tLst tInt) (ysC (tLst P2T) ysN))) (ysC (tLst (tTup tInt)) ysN))) s18, .val (tLstN (ysC (tLst tInt) (ysC (tLst P2T) ysN))) s18.1, .val (tLst (tTup tInt)) d45, .val tInt d29, .val (tTup tInt) d41, .non, .non, .non, .non, .non, .non, .non, .non, .non, .non], mu0⟩ : Cn)) rfl (xs_nil d45 (wk_of (.same (.same (.same (.same (.same (.same (.same (.same (.non (.non (.non (.non (.non (.non (.non (.non (.non (.non (.non (.non .nil))))))))))))))))))))))))))))))))))))))) (fun g25 => (xs_nil s18.2.1 (wk_of (.same (.same (.same (.same (.same (.same (.same (.same (.non (.non (.non (.non (.non (.non (.non (.non (.non (.non (.non (.non .nil)))))))))))))))))))))))) (fun s26 => (xs_let fun d47 h48 => (xs_set 10 sc_law.nd (x_got h48 (x_eq (x_call (has_L_home T) (hr.mono (by decide)) (xa_cons (x_var (d := s26) 7) xa_nil)) rfl)) (xs_cn (Γ' := (⟨[.val (tScr K) p0, .val (tLst tInt) d3, .val (tLst tInt) s12.1, .val tInt s12.2, .val (tLst tInt) [(0 : Int), (1 : Int), (2 : Int), (3 : Int), (4 : Int), (5 : Int), (5 : Int), (5 : Int), (5 : Int), (6 : Int), (7 : Int), (7 : Int), (7 : Int), (7 : Int), (7 : Int), (7 : Int)], .val (tLstN (ysC (tLstN (ysC (tLst tInt) (ysC (tLst P2T) ysN))) (ysC (tLst (tTup tInt)) ysN))) s18, .val (tLstN (ysC (tLst tInt) (ysC (tLst P2T) ysN))) s18.1, .val (tLst (tTup tInt)) s26, .non, .non, .val (tLst tInt) d47, .non, .non, .non, .non, .non, .non, .non, .non, .non], mu0⟩ : Cn)) rfl (xs_let fun d49 h50 => (xs_set 11 sc_law.nd (x_got h50 (x_eq (x_call (has_L_lot T) (hr.mono (by decide)) (xa_cons (x_var (d := s18.1) 6) (xa_cons (x_var (d := s26) 7) (xa_cons (x_var (d := d47) 10) xa_nil)))) rfl)) (xs_cn (Γ' := (⟨[.val (tScr K) p0, .val (tLst tInt) d3, .val (tLst tInt) s12.1, .val tInt s12.2, .val (tLst tInt) [(0 : Int), (1 : Int), (2 : Int), (3 : Int), (4 : Int), (5 : Int), (5 : Int), (5 : Int), (5 : Int), (6 : Int), (7 : Int), (7 : Int), (7 : Int), (7 : Int), (7 : Int), (7 : Int)], .val (tLstN (ysC (tLstN (ysC (tLst tInt) (ysC (tLst P2T) ysN))) (ysC (tLst (tTup tInt)) ysN))) s18, .val (tLstN (ysC (tLst tInt) (ysC (tLst P2T) ysN))) s18.1, .val (tLst (tTup tInt)) s26, .non, .non, .val (tLst tInt) d47, .val (tTup tInt) d49, .non, .non, .non, .non, .non, .non, .non, .non], mu0⟩ : Cn)) rfl (xs_set 12 sc_law.nd x_none (xs_cn (Γ' := (⟨[.val (tScr K) p0, .val (tLst tInt) d3, .val (tLst tInt) s12.1, .val tInt s12.2, .val (tLst tInt) [(0 : Int), (1 : Int), (2 : Int), (3 : Int), (4 : Int), (5 : Int), (5 : Int), (5 : Int), (5 : Int), (6 : Int), (7 : Int), (7 : Int), (7 : Int), (7 : Int), (7 : Int), (7 : Int)], .val (tLstN (ysC (tLstN (ysC (tLst tInt) (ysC (tLst P2T) ysN))) (ysC (tLst (tTup tInt)) ysN))) s18, .val (tLstN (ysC (tLst tInt) (ysC (tLst P2T) ysN))) s18.1, .val (tLst (tTup tInt)) s26, .non, .non, .val (tLst tInt) d47, .val (tTup tInt) d49, .val (tOpt (tTup tInt)) none, .non, .non, .non, .non, .non, .non, .non], mu0⟩ : Cn)) rfl (xs_set 13 sc_law.nd x_none (xs_cn (Γ' := (⟨[.val (tScr K) p0, .val (tLst tInt) d3, .val (tLst tInt) s12.1, .val tInt s12.2, .val (tLst tInt) [(0 : Int), (1 : Int), (2 : Int), (3 : Int), (4 : Int), (5 : Int), (5 : Int), (5 : Int), (5 : Int), (6 : Int), (7 : Int), (7 : Int), (7 : Int), (7 : Int), (7 : Int), (7 : Int)], .val (tLstN (ysC (tLstN (ysC (tLst tInt) (ysC (tLst P2T) ysN))) (ysC (tLst (tTup tInt)) ysN))) s18, .val (tLstN (ysC (tLst tInt) (ysC (tLst P2T) ysN))) s18.1, .val (tLst (tTup tInt)) s26, .non, .non, .val (tLst tInt) d47, .val (tTup tInt) d49, .val (tOpt (tTup tInt)) none, .val (tOpt (tTup P2T)) none, .non, .non, .non, .non, .non, .non], mu0⟩ : Cn)) rfl (xs_seq (G1 := (fun s52 : ((Option (List Int)) × (Option (List (Int × Int × Unit)))) => (⟨[.val (tScr K) p0, .val (tLst tInt) d3, .val (tLst tInt) s12.1, .val tInt s12.2, .val (tLst tInt) [(0 : Int), (1 : Int), (2 : Int), (3 : Int), (4 : Int), (5 : Int), (5 : Int), (5 : Int), (5 : Int), (6 : Int), (7 : Int), (7 : Int), (7 : Int), (7 : Int), (7 : Int), (7 : Int)], .val (tLstN (ysC (tLstN (ysC (tLst tInt) (ysC (tLst P2T) ysN))) (ysC (tLst (tTup tInt)) ysN))) s18, .val (tLstN (ysC (tLst tInt) (ysC (tLst P2T) ysN))) s18.1, .val (tLst (tTup tInt)) s26, .non, .non, .val (tLst tInt) d47, .val (tTup tInt) d49, .val (tOpt (tTup tInt)) s52.1, .val (tOpt (tTup P2T)) s52.2, .non, .non, .non, .non, .non, .non], mu0⟩ : Cn))) (xs_if (xt_eqD (de_tup de_int) hr.units (x_var (d := d49) 11) (x_tup xa_hn)) (fun g51 => (xs_let fun d53 h54 => (xs_set 12 sc_law.nd (x_some nn_tup (x_tuple T.b_tuple (x_got h54 (x_eq (x_call (has_L_row T) (hr.mono (by decide)) (xa_cons (x_var (d := s18.1) 6) (xa_cons (x_var (d := s26) 7) (xa_cons (x_var (d := d47) 10) xa_nil)))) rfl)))) (xs_cn (Γ' := (⟨[.val (tScr K) p0, .val (tLst tInt) d3, .val (tLst tInt) s12.1, .val tInt s12.2, .val (tLst tInt) [(0 : Int), (1 : Int), (2 : Int), (3 : Int), (4 : Int), (5 : Int), (5 : Int), (5 : Int), (5 : Int), (6 : Int), (7 : Int), (7 : Int), (7 : Int), (7 : Int), (7 : Int), (7 : Int)], .val (tLstN (ysC (tLstN (ysC (tLst tInt) (ysC (tLst P2T) ysN))) (ysC (tLst (tTup tInt)) ysN))) s18, .val (tLstN (ysC (tLst tInt) (ysC (tLst P2T) ysN))) s18.1, .val (tLst (tTup tInt)) s26, .non, .non, .val (tLst tInt) d47, .val (tTup tInt) d49, .val (tOpt (tTup tInt)) (some d53), .val (tOpt (tTup P2T)) none, .non, .non, .non, .non, .non, .non], mu0⟩ : Cn)) rfl (xs_let fun d55 h56 => (xs_let fun d57 h58 => (xs_set 13 sc_law.nd (x_some nn_tup (x_got h58 (x_eq (x_call (has_L_mirror T) (hr.mono (by decide)) (xa_cons (x_var (d := s26) 7) (xa_cons (x_got h56 (x_un (x_var (d := (some d53)) 12))) xa_nil))) rfl))) (xs_cn (Γ' := (⟨[.val (tScr K) p0, .val (tLst tInt) d3, .val (tLst tInt) s12.1, .val tInt s12.2, .val (tLst tInt) [(0 : Int), (1 : Int), (2 : Int), (3 : Int), (4 : Int), (5 : Int), (5 : Int), (5 : Int), (5 : Int), (6 : Int), (7 : Int), (7 : Int), (7 : Int), (7 : Int), (7 : Int), (7 : Int)], .val (tLstN (ysC (tLstN (ysC (tLst tInt) (ysC (tLst P2T) ysN))) (ysC (tLst (tTup tInt)) ysN))) s18, .val (tLstN (ysC (tLst tInt) (ysC (tLst P2T) ysN))) s18.1, .val (tLst (tTup tInt)) s26, .non, .non, .val (tLst tInt) d47, .val (tTup tInt) d49, .val (tOpt (tTup tInt)) (some d53), .val (tOpt (tTup P2T)) (some d57), .non, .non, .non, .non, .non, .non], mu0⟩ : Cn)) rfl (xs_nil ((some d53), (some d57)) (wk_of (.same (.same (.same (.same (.same (.same (.same (.same (.non (.non (.same (.same (.same (.same (.non (.non (.non (.non (.non (.non .nil)))))))))))))))))))))))))))))) (fun g51 => (xs_nil (none, none) (wk_of (.same (.same (.same (.same (.same (.same (.same (.same (.non (.non (.same (.same (.same (.same (.non (.non (.non (.non (.non (.non .nil)))))))))))))))))))))))) (fun s52 => (xs_let fun d59 h60 => (xs_let fun d61 h62 => (xs_set 14 sc_law.nd (x_got h62 (x_eq (x_call (has_L_build T) (hr.mono (by decide)) (xa_cons (x_var (d := s18.1) 6) (xa_cons (x_var (d := s26) 7) (xa_cons (x_got h60 (x_ixL (x_var (d := d3) 1) x_int)) xa_nil)))) rfl)) (xs_cn (Γ' := (⟨[.val (tScr K) p0, .val (tLst tInt) d3, .val (tLst tInt) s12.1, .val tInt s12.2, .val (tLst tInt) [(0 : Int), (1 : Int), (2 : Int), (3 : Int), (4 : Int), (5 : Int), (5 : Int), (5 : Int), (5 : Int), (6 : Int), (7 : Int), (7 : Int), (7 : Int), (7 : Int), (7 : Int), (7 : Int)], .val (tLstN (ysC (tLstN (ysC (tLst tInt) (ysC (tLst P2T) ysN))) (ysC (tLst (tTup tInt)) ysN))) s18, .val (tLstN (ysC (tLst tInt) (ysC (tLst P2T) ysN))) s18.1, .val (tLst (tTup tInt)) s26, .non, .non, .val (tLst tInt) d47, .val (tTup tInt) d49, .val (tOpt (tTup tInt)) s52.1, .val (tOpt (tTup P2T)) s52.2, .val (tStand cS cT) d61, .non, .non, .non, .non, .non], mu0⟩ : Cn)) rfl (xs_let fun d63 h64 => (xs_set 15 sc_law.nd (x_got h64 (x_eq (x_callD (hasD_past T) (hr.mono (by decide)) (xa_cons (x_var (d := d61) 14) xa_nil) hA_p) rfl)) (xs_cn (Γ' := (⟨[.val (tScr K) p0, .val (tLst tInt) d3, .val (tLst tInt) s12.1, .val tInt s12.2, .val (tLst tInt) [(0 : Int), (1 : Int), (2 : Int), (3 : Int), (4 : Int), (5 : Int), (5 : Int), (5 : Int), (5 : Int), (6 : Int), (7 : Int), (7 : Int), (7 : Int), (7 : Int), (7 : Int), (7 : Int)], .val (tLstN (ysC (tLstN (ysC (tLst tInt) (ysC (tLst P2T) ysN))) (ysC (tLst (tTup tInt)) ysN))) s18, .val (tLstN (ysC (tLst tInt) (ysC (tLst P2T) ysN))) s18.1, .val (tLst (tTup tInt)) s26, .non, .non, .val (tLst tInt) d47, .val (tTup tInt) d49, .val (tOpt (tTup tInt)) s52.1, .val (tOpt (tTup P2T)) s52.2, .val (tStand cS cT) d61, .val (tPast cP) d63, .non, .non, .non, .non], mu0⟩ : Cn)) rfl (xs_let fun d65 h66 => (xs_ifx (xt_not (xt_val (x_got h66 (x_eq (x_call (has_L_told T) (hr.mono (by decide)) (xa_cons (x_var (d := d63) 15) (xa_cons (x_var (d := s52.2) 13) (xa_cons (x_var (d := d49) 11) xa_nil)))) rfl)))) (fun g67 => (xs_ret x_bl)) (fun g67 => (xs_let fun d68 h69 => (xs_let fun d74 h75 => (xs_ifx (xt_got h75 (XW.t (xw_and (xt_le (x_got h69 (x_eq (x_call (has_L_product T) (hr.mono (by decide)) (xa_cons (x_var (d := s26) 7) xa_nil)) rfl)) x_int) (fun _ => (xw_let fun d70 h71 => (xw_let fun d72 h73 => (xw_and1 (xt_eqm (xt_nes es_bl (x_inDK (Room.u1 hr) (x_tuple T.b_tuple (x_var (d := d47) 10)) (x_got h71 (x_eq (x_call (has_L_lent_from T) (hr.mono (by decide)) (xa_cons (x_var (d := s18.1) 6) (xa_cons (x_var (d := s26) 7) (xa_cons (x_var (d := d47) 10) xa_nil)))) rfl))) (x_got h73 (x_eq (x_prop T.cf_Past.cl (has_Past_possible T) (hr.mono (by decide)) (x_var (d := d63) 15)) rfl))) rfl)))))))) (fun g76 => (xs_ret x_bl)) (fun g76 => (xs_let fun d80 h81 => (xs_let fun d82 h83 => (xs_set 16 sc_law.nd (x_got h83 (x_eq (x_cmeth (hasC_Standing_home T) (hr.mono (by decide)) (xa_cons (x_fld T.cf_Standing (x_var (d := d61) 14)) (xa_cons (x_got h81 (x_eq (x_lc [("_law_way_here", 17)] sc_law.nd (xi_list (x_var (d := s26) 7)) (fun _ _ _ _ _ => (xg_name 17 sc_law.nd)) xf_no (fun _ _ _ _ _ x77 => (x_let fun d78 h79 => (x_got h79 (x_ixT (x_var (d := x77) 17) x_int))))) (lcM_mapO _ _))) xa_nil))) rfl)) (xs_cn (Γ' := (⟨[.val (tScr K) p0, .val (tLst tInt) d3, .val (tLst tInt) s12.1, .val tInt s12.2, .val (tLst tInt) [(0 : Int), (1 : Int), (2 : Int), (3 : Int), (4 : Int), (5 : Int), (5 : Int), (5 : Int), (5 : Int), (6 : Int), (7 : Int), (7 : Int), (7 : Int), (7 : Int), (7 : Int), (7 : Int)], .val (tLstN (ysC (tLstN (ysC (tLst tInt) (ysC (tLst P2T) ysN))) (ysC (tLst (tTup tInt)) ysN))) s18, .val (tLstN (ysC (tLst tInt) (ysC (tLst P2T) ysN))) s18.1, .val (tLst (tTup tInt)) s26, .non, .non, .val (tLst tInt) d47, .val (tTup tInt) d49, .val (tOpt (tTup tInt)) s52.1, .val (tOpt (tTup P2T)) s52.2, .val (tStand cS cT) d61, .val (tPast cP) d63, .val (tStand cS cT) d82, .non, .non, .non], mu0⟩ : Cn)) rfl (xs_seq (G1 := (fun s85 : Unit => (⟨[.val (tScr K) p0, .val (tLst tInt) d3, .val (tLst tInt) s12.1, .val tInt s12.2, .val (tLst tInt) [(0 : Int), (1 : Int), (2 : Int), (3 : Int), (4 : Int), (5 : Int), (5 : Int), (5 : Int), (5 : Int), (6 : Int), (7 : Int), (7 : Int), (7 : Int), (7 : Int), (7 : Int), (7 : Int)], .val (tLstN (ysC (tLstN (ysC (tLst tInt) (ysC (tLst P2T) ysN))) (ysC (tLst (tTup tInt)) ysN))) s18, .val (tLstN (ysC (tLst tInt) (ysC (tLst P2T) ysN))) s18.1, .val (tLst (tTup tInt)) s26, .non, .non, .val (tLst tInt) d47, .val (tTup tInt) d49, .val (tOpt (tTup tInt)) s52.1, .val (tOpt (tTup P2T)) s52.2, .val (tStand cS cT) d61, .val (tPast cP) d63, .val (tStand cS cT) d82, .non, .non, .non], mu0⟩ : Cn))) (xs_if (xt_notN (x_var (d := s52.2) 13)) (fun g84 => (xs_let fun d87 h88 => (xs_let fun d89 h90 => (xs_ifx (xt_neD (de_optL (de_lst (de_tup de_int)) fun d => ⟨_, rfl⟩) hr.units (x_got h90 (x_eq (x_call (has_L_lendings T) (hr.mono (by decide)) (xa_cons (x_var (d := s18.1) 6) (xa_cons (x_eq (x_lc [("_law_way_here", 17)] sc_law.nd (xi_list (x_var (d := s26) 7)) (fun _ _ _ _ _ => (xg_name 17 sc_law.nd)) xf_no (fun _ _ _ _ _ x86 => (x_slT (x_var (d := x86) 17) xo_none (xo_some x_int)))) (lcM_map _ _)) (xa_cons (x_got h88 (x_un (x_fld T.cf_Past (x_var (d := d63) 15)))) xa_nil)))) rfl)) (x_some nn_lst (x_var (d := s26) 7))) (fun g91 => (xs_ret x_bl)) (fun g91 => (xs_let fun d92 h93 => (xs_let fun d94 h95 => (xs_let fun d104 h105 => (xs_ifx (xt_got h105 (XW.t (xw_or (xt_isnotB (x_got h95 (x_eq (x_callD (hasD_is_past T) (hr.mono (by decide)) (xa_cons (x_var (d := d61) 14) (xa_cons (x_got h93 (x_un (x_fld T.cf_Past (x_var (d := d63) 15)))) xa_nil)) hA_i) rfl)) x_bl) (fun _ => (xw_let fun d96 h97 => (xw_let fun d98 h99 => (xw_let fun d100 h101 => (xw_let fun d102 h103 => (xw_or1 (xt_not (xt_got h103 (xt_eqm (xt_eqO (hasL_Standing_eq T) (hr.mono (by decide)) (x_got h101 (x_eq (x_call (has_run T) (hr.mono (by decide)) (xa_cons (x_var (d := d82) 16) (xa_cons (x_got h99 (x_eq (x_call (has_lending_deeds T) (hr.mono (by decide)) (xa_cons (x_got h97 (x_un (x_fld T.cf_Past (x_var (d := d63) 15)))) xa_nil)) rfl)) xa_nil))) rfl)) (x_var (d := d61) 14)) rfl)))))))))))) (fun g106 => (xs_ret x_bl)) (fun g106 => (xs_nil () (wk_of (.same (.same (.same (.same (.same (.same (.same (.same (.non (.non (.same (.same (.same (.same (.same (.same (.same (.non (.non (.non .nil)))))))))))))))))))))))))))))))) (fun g84 => (xs_nil () (wk_of (.same (.same (.same (.same (.same (.same (.same (.same (.non (.non (.same (.same (.same (.same (.same (.same (.same (.non (.non (.non .nil)))))))))))))))))))))))) (fun s85 => (xs_let fun d107 h108 => (xs_set 18 sc_law.nd (x_got h108 (x_eq (x_call (has_home_coming T) (hr.mono (by decide)) (xa_cons (x_var (d := d61) 14) xa_nil)) rfl)) (xs_cn (Γ' := (⟨[.val (tScr K) p0, .val (tLst tInt) d3, .val (tLst tInt) s12.1, .val tInt s12.2, .val (tLst tInt) [(0 : Int), (1 : Int), (2 : Int), (3 : Int), (4 : Int), (5 : Int), (5 : Int), (5 : Int), (5 : Int), (6 : Int), (7 : Int), (7 : Int), (7 : Int), (7 : Int), (7 : Int), (7 : Int)], .val (tLstN (ysC (tLstN (ysC (tLst tInt) (ysC (tLst P2T) ysN))) (ysC (tLst (tTup tInt)) ysN))) s18, .val (tLstN (ysC (tLst tInt) (ysC (tLst P2T) ysN))) s18.1, .val (tLst (tTup tInt)) s26, .non, .non, .val (tLst tInt) d47, .val (tTup tInt) d49, .val (tOpt (tTup tInt)) s52.1, .val (tOpt (tTup P2T)) s52.2, .val (tStand cS cT) d61, .val (tPast cP) d63, .val (tStand cS cT) d82, .non, .val (tCom cC) d107, .non], mu0⟩ : Cn)) rfl (xs_let fun d113 h114 => (xs_ifx (xt_got h114 (XW.t (xw_or (xt_neD (de_opt (S := (tTup tInt)) (de_tup de_int) fun d => ⟨_, rfl⟩) hr.units (x_fld T.cf_Coming (x_var (d := d107) 18)) (x_var (d := s52.1) 12)) (fun _ => (xw_or (xt_neD (de_tup de_int) hr.units (x_fld T.cf_Coming (x_var (d := d107) 18)) (x_var (d := d49) 11)) (fun _ => (xw_let fun d109 h110 => (xw_let fun d111 h112 => (xw_or1 (xt_eqm (xt_nes es_bl (x_got h110 (x_eq (x_prop T.cf_Coming.cl (has_Coming_reached T) (hr.mono (by decide)) (x_var (d := d107) 18)) rfl)) (x_got h112 (x_eq (x_prop T.cf_Past.cl (has_Past_possible T) (hr.mono (by decide)) (x_var (d := d63) 15)) rfl))) rfl)))))))))) (fun g115 => (xs_ret x_bl)) (fun g115 => (xs_let fun d116 h117 => (xs_let fun d118 h119 => (xs_let fun d120 h121 => (xs_let fun d122 h123 => (xs_let fun d124 h125 => (xs_set 19 sc_law.nd (x_got h125 (x_eq (x_cmeth (hasC_Standing_home T) (hr.mono (by decide)) (xa_cons (x_got h119 (x_eq (x_make (has_Street_init_l T) (hr.mono (by decide)) (xa_cons (x_lst (xa_hc (x_add x_int (x_got h117 (x_ixL (x_var (d := d3) 1) x_int))) xa_hn)) (xa_cons (x_lst xa_hn) xa_nil))) rfl)) (xa_cons (x_got h123 (x_rep (x_lst (xa_hc x_int xa_hn)) (x_got h121 (x_ixL (x_var (d := d3) 1) x_int)))) xa_nil))) rfl)) (xs_cn (Γ' := (⟨[.val (tScr K) p0, .val (tLst tInt) d3, .val (tLst tInt) s12.1, .val tInt s12.2, .val (tLst tInt) [(0 : Int), (1 : Int), (2 : Int), (3 : Int), (4 : Int), (5 : Int), (5 : Int), (5 : Int), (5 : Int), (6 : Int), (7 : Int), (7 : Int), (7 : Int), (7 : Int), (7 : Int), (7 : Int)], .val (tLstN (ysC (tLstN (ysC (tLst tInt) (ysC (tLst P2T) ysN))) (ysC (tLst (tTup tInt)) ysN))) s18, .val (tLstN (ysC (tLst tInt) (ysC (tLst P2T) ysN))) s18.1, .val (tLst (tTup tInt)) s26, .non, .non, .val (tLst tInt) d47, .val (tTup tInt) d49, .val (tOpt (tTup tInt)) s52.1, .val (tOpt (tTup P2T)) s52.2, .val (tStand cS cT) d61, .val (tPast cP) d63, .val (tStand cS cT) d82, .non, .val (tCom cC) d107, .val (tStand cS cT) d124], mu0⟩ : Cn)) rfl (xs_let fun d126 h127 => (xs_let fun d128 h129 => (xs_let fun d134 h135 => (xs_ifx (xt_got h135 (XW.t (xw_or (xt_not (xt_val (x_got h129 (x_eq (x_call (has_L_told T) (hr.mono (by decide)) (xa_cons (x_got h127 (x_eq (x_callD (hasD_past T) (hr.mono (by decide)) (xa_cons (x_var (d := d82) 16) xa_nil) hA_p) rfl)) (xa_cons (x_some nn_tup (x_tup xa_hn)) (xa_cons (x_tup xa_hn) xa_nil)))) rfl)))) (fun _ => (xw_let fun d130 h131 => (xw_let fun d132 h133 => (xw_or1 (xt_not (xt_val (x_got h133 (x_eq (x_call (has_L_told T) (hr.mono (by decide)) (xa_cons (x_got h131 (x_eq (x_callD (hasD_past T) (hr.mono (by decide)) (xa_cons (x_var (d := d124) 19) xa_nil) hA_p) rfl)) (xa_cons (x_some nn_tup (x_tup xa_hn)) (xa_cons (x_tup xa_hn) xa_nil)))) rfl))))))))))) (fun g136 => (xs_ret x_bl)) (fun g136 => (xs_let fun d137 h138 => (xs_let fun d139 h140 => (xs_ifx (xt_not (xt_val (x_got h140 (x_eq (x_call (has_L_told T) (hr.mono (by decide)) (xa_cons (x_got h138 (x_eq (x_callKw (hasK_past T) (hr.mono (by decide)) (xa_cons (x_var (d := d61) 14) xa_nil) x_unit hA_pK) rfl)) (xa_cons (x_var (d := s52.2) 13) (xa_cons (x_var (d := d49) 11) xa_nil)))) rfl)))) (fun g141 => (xs_ret x_bl)) (fun g141 => (xs_let fun d142 h143 => (xs_ifx (xt_not (xt_val (x_got h143 (x_eq (x_call (has_L_told T) (hr.mono (by decide)) (xa_cons (x_var (d := d63) 15) (xa_cons (x_var (d := s52.2) 13) (xa_cons (x_var (d := d49) 11) xa_nil)))) rfl)))) (fun g144 => (xs_ret x_bl)) (fun g144 => (xs_ret (x_eq (x_and (x_eqD (de_tup (de_tup de_int)) hr.units (x_fld T.cf_Standing (x_var (d := d61) 14)) (x_tuple T.b_tuple (x_var (d := s26) 7))) (fun _ => (x_one (x_eqD (de_tup de_int) hr.units (x_fld T.cf_Street (x_fld T.cf_Standing (x_var (d := d61) 14))) (x_tuple T.b_tuple (x_eq (x_nthL nth0 (x_var (d := s18.1) 6) x_int) rfl)))))) and_p))))))))))))))))))))))))))))))))))))))))))))))))))))))))))))))))))))))))))))))))))))))))
end Pg
set_option Elab.async false
set_option linter.all false
set_option maxRecDepth 100000
set_option maxHeartbeats 400000
namespace Pg

/-! ### ways of tools -/
/-- the house where a tool hangs, the house that it wants -/
def wtop (w : List Int) : Int := w.getD (w.length - 1) 0
def wsnd (w : List Int) : Int := w.getD (w.length - 2) 0
def isAt (h : Int) (w : List Int) : Bool := decide (1 < w.length) && decide (wtop w = h)
def load (ws : List (List Int)) (h : Int) : Nat := (ws.filter (isAt h)).length
def bk : List (List Int) → Nat → List (List Int)
  | [], _ => []
  | w :: ws, 0 => w.dropLast :: ws
  | w :: ws, k + 1 => w :: bk ws k
def ld : List (List Int) → Nat → Int → List (List Int)
  | [], _, _ => []
  | w :: ws, 0, h => (w ++ [h]) :: ws
  | w :: ws, k + 1, h => w :: ld ws k h
def b1 (b : Bool) : Nat := if b = true then 1 else 0
theorem load_nil (h : Int) : load [] h = 0 := rfl
theorem load_cons (w : List Int) (ws : List (List Int)) (h : Int) : load (w :: ws) h = b1 (isAt h w) + load ws h := by
  unfold load b1
  rw [List.filter_cons]
  by_cases e : isAt h w = true
  · rw [if_pos e, if_pos e, List.length_cons, Nat.add_comm]
  · rw [if_neg e, if_neg e, Nat.zero_add]
theorem getD_dropLast (w : List Int) (i : Nat) (h : i < w.length - 1) : w.dropLast.getD i 0 = w.getD i 0 := by
  rw [List.getD_eq_getElem?_getD, List.getD_eq_getElem?_getD, List.getElem?_dropLast, if_pos h]
theorem wtop_drop {w : List Int} (h : 1 < w.length) : wtop w.dropLast = wsnd w := by
  unfold wtop wsnd
  rw [List.length_dropLast, getD_dropLast w _ (by omega)]
  congr 1
theorem isAt_drop {w : List Int} (hw : 1 < w.length) (h : Int) : isAt h w.dropLast = (decide (2 < w.length) && decide (wsnd w = h)) := by
  unfold isAt
  rw [wtop_drop hw, List.length_dropLast]
  congr 1
  exact decide_eq_decide.mpr (by omega)
theorem load_bk {w : List Int} : ∀ {ws : List (List Int)} {k : Nat}, ws[k]? = some w → 1 < w.length → ∀ h, load (bk ws k) h + b1 (isAt h w) = load ws h + b1 (decide (2 < w.length) && decide (wsnd w = h))
  | [], k, e, _, _ => by simp at e
  | x :: ws, 0, e, hw, h => by
    simp at e
    subst e
    show load (x.dropLast :: ws) h + _ = _
    rw [load_cons, load_cons, isAt_drop hw]
    omega
  | x :: ws, k + 1, e, hw, h => by
    have ih := load_bk (ws := ws) (k := k) (by simpa using e) hw h
    show load (x :: bk ws k) h + _ = _
    rw [load_cons, load_cons]
    omega
theorem bk_mem {w : List Int} : ∀ {ws : List (List Int)} {k : Nat}, ws[k]? = some w → ∀ x ∈ bk ws k, x = w.dropLast ∨ x ∈ ws
  | [], k, e, _, _ => by simp at e
  | y :: ws, 0, e, x, hx => by
    simp at e
    subst e
    rcases List.mem_cons.mp (show x ∈ y.dropLast :: ws from hx) with h | h
    · exact .inl h
    · exact .inr (List.mem_cons_of_mem _ h)
  | y :: ws, k + 1, e, x, hx => by
    rcases List.mem_cons.mp (show x ∈ y :: bk ws k from hx) with h | h
    · exact .inr (by rw [h]; exact List.mem_cons_self)
    · exact (bk_mem (by simpa using e) x h).imp id (List.mem_cons_of_mem _)
theorem mem_bk {w : List Int} : ∀ {ws : List (List Int)} {k : Nat}, ws[k]? = some w → ∀ x ∈ ws, x = w ∨ x ∈ bk ws k
  | [], k, e, _, _ => by simp at e
  | y :: ws, 0, e, x, hx => by
    simp at e
    subst e
    rcases List.mem_cons.mp hx with h | h
    · exact .inl h
    · exact .inr (List.mem_cons_of_mem _ h)
  | y :: ws, k + 1, e, x, hx => by
    rcases List.mem_cons.mp hx with h | h
    · exact .inr (by rw [h]; exact List.mem_cons_self)
    · exact (mem_bk (by simpa using e) x h).imp id (List.mem_cons_of_mem _)
theorem bk_new {w : List Int} : ∀ {ws : List (List Int)} {k : Nat}, ws[k]? = some w → w.dropLast ∈ bk ws k
  | [], k, e => by simp at e
  | y :: ws, 0, e => by
    simp at e
    subst e
    exact List.mem_cons_self
  | y :: ws, k + 1, e => List.mem_cons_of_mem _ (bk_new (by simpa using e))
theorem bk_len : ∀ (ws : List (List Int)) (k : Nat), (bk ws k).length = ws.length
  | [], _ => rfl
  | _ :: _, 0 => rfl
  | _ :: ws, k + 1 => by
    show (bk ws k).length + 1 = _
    rw [bk_len ws k, List.length_cons]
theorem load_pos {ws : List (List Int)} {h : Int} (e : 0 < load ws h) : ∃ w ∈ ws, 1 < w.length ∧ wtop w = h := by
  unfold load at e
  obtain ⟨w, hw⟩ := List.exists_mem_of_length_pos e
  obtain ⟨h1, h2⟩ := List.mem_filter.mp hw
  unfold isAt at h2
  simp at h2
  exact ⟨w, h1, h2.1, h2.2⟩
theorem at_load {ws : List (List Int)} {w : List Int} (h : w ∈ ws) (hw : 1 < w.length) : 0 < load ws (wtop w) := by
  unfold load
  exact List.length_pos_of_mem (List.mem_filter.mpr ⟨h, by unfold isAt; simp [hw]⟩)

/-! ### the core: if no lot is stuck and a tool is out, a return keeps it so -/
section
variable {n : Nat} {pg : Int → Nat}
/-- A is a lot: its houses are full, its tools want its houses -/
structure IsLot (n : Nat) (pg : Int → Nat) (ws : List (List Int)) (A : Int → Bool) : Prop where
  full : ∀ h : Int, A h = true → 0 ≤ h ∧ h < (n : Int) ∧ load ws h = pg h
  want : ∀ w ∈ ws, 1 < w.length → A (wtop w) = true → 2 < w.length ∧ A (wsnd w) = true
def NoLot (n : Nat) (pg : Int → Nat) (ws : List (List Int)) : Prop := ∀ A, IsLot n pg ws A → ∀ h, A h = false
/-- what a standing must keep -/
structure Sane (n : Nat) (pg : Int → Nat) (ws : List (List Int)) : Prop where
  ok : ∀ h : Int, 0 ≤ h → h < (n : Int) → load ws h ≤ pg h
  rg : ∀ w ∈ ws, 1 < w.length → (0 ≤ wtop w ∧ wtop w < n) ∧ (0 ≤ wsnd w ∧ wsnd w < n) ∧ wsnd w ≠ wtop w
/-- the tool can return -/
def CanRet (pg : Int → Nat) (ws : List (List Int)) (w : List Int) : Prop := 1 < w.length ∧ (w.length = 2 ∨ load ws (wsnd w) < pg (wsnd w))
/-- .. and its return leaves no lot -/
def Wise (n : Nat) (pg : Int → Nat) (ws : List (List Int)) (k : Nat) : Prop := ∃ w, ws[k]? = some w ∧ CanRet pg ws w ∧ NoLot n pg (bk ws k)
variable {ws : List (List Int)}
theorem b1_t {b : Bool} (h : b = true) : b1 b = 1 := by
  unfold b1
  rw [if_pos h]
theorem b1_f {b : Bool} (h : b = false) : b1 b = 0 := by
  unfold b1
  rw [h]
  rfl
/-- after a return into u: a lot must hold u, not the house that was left -/
structure Near (n : Nat) (pg : Int → Nat) (ws : List (List Int)) (u : Int) (A : Int → Bool) : Prop where
  here : A u = true
  full : ∀ h : Int, A h = true → 0 ≤ h ∧ h < (n : Int) ∧ (h = u ∨ load ws h = pg h)
  want : ∀ w ∈ ws, 1 < w.length → A (wtop w) = true → 2 < w.length ∧ A (wsnd w) = true
theorem after_ret {w : List Int} {k : Nat} {A : Int → Bool} (S : Sane n pg ws) (hk : ws[k]? = some w) (hw : CanRet pg ws w) (L : IsLot n pg (bk ws k) A) : A (wtop w) = false ∧ (IsLot n pg ws A ∨ (2 < w.length ∧ Near n pg ws (wsnd w) A)) := by
  obtain ⟨h1, h2⟩ := hw
  have hm : w ∈ ws := List.mem_of_getElem? hk
  obtain ⟨⟨t0, t1⟩, ⟨s0, s1⟩, hne⟩ := S.rg w hm h1
  have lb := load_bk hk h1
  have atop : isAt (wtop w) w = true := by
    unfold isAt
    simp [h1]
  have ntop : A (wtop w) = false := by
    refine Bool.eq_false_iff.mpr fun e => ?_
    have f := (L.full _ e).2.2
    have z := lb (wtop w)
    rw [b1_t atop, b1_f (b := decide (2 < w.length) && decide (wsnd w = wtop w)) (by simp [hne])] at z
    have := S.ok _ t0 t1
    omega
  have same : ∀ h, h ≠ wtop w → h ≠ wsnd w → load (bk ws k) h = load ws h := fun h e1 e2 => by
    have z := lb h
    rw [b1_f (b := isAt h w) (by unfold isAt; simp; exact fun _ q => e1 q.symm), b1_f (b := decide (2 < w.length) && decide (wsnd w = h)) (by simp; exact fun _ q => e2 q.symm)] at z
    omega
  have want : ∀ x ∈ ws, 1 < x.length → A (wtop x) = true → 2 < x.length ∧ A (wsnd x) = true := fun x hx hx1 e => by
    rcases mem_bk hk x hx with q | q
    · rw [q, ntop] at e
      cases e
    · exact L.want x q hx1 e
  refine ⟨ntop, ?_⟩
  by_cases hu : A (wsnd w) = true ∧ 2 < w.length
  · refine .inr ⟨hu.2, hu.1, fun h e => ?_, want⟩
    obtain ⟨f1, f2, f3⟩ := L.full h e
    refine ⟨f1, f2, ?_⟩
    by_cases q : h = wsnd w
    · exact .inl q
    · refine .inr ?_
      rw [← same h (fun z => by rw [z, ntop] at e; cases e) q]
      exact f3
  · refine .inl ⟨fun h e => ?_, want⟩
    obtain ⟨f1, f2, f3⟩ := L.full h e
    refine ⟨f1, f2, ?_⟩
    have e1 : h ≠ wtop w := fun z => by
      rw [z, ntop] at e
      cases e
    have z := lb h
    rw [b1_f (b := isAt h w) (by unfold isAt; simp; exact fun _ q => e1 q.symm), b1_f (b := decide (2 < w.length) && decide (wsnd w = h)) (by
      refine Bool.eq_false_iff.mpr fun q => hu ?_
      simp at q
      rw [q.2]
      exact ⟨e, q.1⟩)] at z
    omega
/-- the number of a set's houses -/
def siz (n : Nat) (A : Int → Bool) : Nat := ((List.range n).filter fun i : Nat => A (i : Int)).length
theorem filter_le {p q : Nat → Bool} (h : ∀ i, p i = true → q i = true) : ∀ l : List Nat, (l.filter p).length ≤ (l.filter q).length
  | [] => Nat.le_refl _
  | x :: l => by
    have ih := filter_le h l
    rw [List.filter_cons, List.filter_cons]
    by_cases e : p x = true
    · rw [if_pos e, if_pos (h x e), List.length_cons, List.length_cons]
      omega
    · rw [if_neg e]
      split
      · rw [List.length_cons]
        omega
      · exact ih
theorem filter_lt {p q : Nat → Bool} (h : ∀ i, p i = true → q i = true) {y : Nat} (hp : p y = false) (hq : q y = true) : ∀ {l : List Nat}, y ∈ l → (l.filter p).length < (l.filter q).length
  | x :: l, hy => by
    rw [List.filter_cons, List.filter_cons]
    rcases List.mem_cons.mp hy with e | e
    · subst e
      rw [if_neg (by rw [hp]; exact fun z => nomatch z), if_pos hq, List.length_cons]
      have := filter_le h l
      omega
    · have ih := filter_lt h hp hq e
      by_cases e2 : p x = true
      · rw [if_pos e2, if_pos (h x e2), List.length_cons, List.length_cons]
        omega
      · rw [if_neg e2]
        split
        · rw [List.length_cons]
          omega
        · exact ih
theorem wise_near (S : Sane n pg ws) (P2 : ∀ h : Int, 0 ≤ h → h < n → 2 ≤ pg h) (N : NoLot n pg ws) {u : Int} (hu : load ws u + 1 = pg u) : ∀ (m : Nat) (A : Int → Bool), siz n A ≤ m → Near n pg ws u A → ∃ k, Wise n pg ws k := by
  intro m
  induction m with
  | zero =>
    intro A hA R
    obtain ⟨u0, u1, _⟩ := R.full u R.here
    have : u.toNat ∈ (List.range n).filter fun i : Nat => A (i : Int) := List.mem_filter.mpr ⟨List.mem_range.mpr (by omega), by rw [Int.toNat_of_nonneg u0]; exact R.here⟩
    have := List.length_pos_of_mem this
    unfold siz at hA
    omega
  | succ m ih =>
    intro A hA R
    obtain ⟨u0, u1, _⟩ := R.full u R.here
    have pu := P2 u u0 u1
    -- a tool at a house of A other than u wants u
    have key : ∃ x ∈ ws, 1 < x.length ∧ A (wtop x) = true ∧ wtop x ≠ u ∧ wsnd x = u := by
      refine Classical.byContradiction fun no => ?_
      have L : IsLot n pg ws (fun h => A h && decide (h ≠ u)) := by
        refine ⟨fun h e => ?_, fun x hx hx1 e => ?_⟩
        · simp at e
          obtain ⟨f1, f2, f3⟩ := R.full h e.1
          exact ⟨f1, f2, f3.resolve_left e.2⟩
        · simp at e
          obtain ⟨g1, g2⟩ := R.want x hx hx1 e.1
          refine ⟨g1, ?_⟩
          simp [g2]
          exact fun z => no ⟨x, hx, hx1, e.1, e.2, z⟩
      have emp := N _ L
      obtain ⟨x, hx, hx1, hxt⟩ := load_pos (ws := ws) (h := u) (by omega)
      obtain ⟨g1, g2⟩ := R.want x hx hx1 (by rw [hxt]; exact R.here)
      have ne := (S.rg x hx hx1).2.2
      have z := emp (wsnd x)
      simp [g2] at z
      exact ne (by rw [z, hxt])
    obtain ⟨x, hx, hx1, hxA, hxu, hxs⟩ := key
    obtain ⟨k, hk⟩ := List.mem_iff_getElem?.mp hx
    have cr : CanRet pg ws x := ⟨hx1, .inr (by rw [hxs]; omega)⟩
    by_cases wise : NoLot n pg (bk ws k)
    · exact ⟨k, x, hk, cr, wise⟩
    · have ⟨A2, L2, h2, e2⟩ : ∃ A2, IsLot n pg (bk ws k) A2 ∧ ∃ h, A2 h = true := by
        refine Classical.byContradiction fun no => wise fun A2 L2 h => Bool.eq_false_iff.mpr fun e => no ⟨A2, L2, h, e⟩
      obtain ⟨nt, q⟩ := after_ret S hk cr L2
      rcases q with q | ⟨_, q⟩
      · have := N _ q h2
        rw [e2] at this
        cases this
      · rw [hxs] at q
        refine ih (fun h => A h && A2 h) ?_ ⟨by simp [R.here, q.here], fun h e => ?_, fun y hy hy1 e => ?_⟩
        · obtain ⟨t0, t1, _⟩ := R.full _ hxA
          have lt : siz n (fun h => A h && A2 h) < siz n A := by
            unfold siz
            refine filter_lt (y := (wtop x).toNat) (fun i e => by simp at e; exact e.1) ?_ ?_ (List.mem_range.mpr (by omega))
            · rw [Int.toNat_of_nonneg t0]
              simp [nt]
            · rw [Int.toNat_of_nonneg t0]
              exact hxA
          omega
        · simp at e
          exact R.full h e.1
        · simp at e
          obtain ⟨g1, g2⟩ := R.want y hy hy1 e.1
          obtain ⟨g3, g4⟩ := q.want y hy hy1 e.2
          exact ⟨g1, by simp [g2, g4]⟩
theorem wise_exists (S : Sane n pg ws) (P2 : ∀ h : Int, 0 ≤ h → h < n → 2 ≤ pg h) (N : NoLot n pg ws) {w0 : List Int} (h0 : w0 ∈ ws) (hw0 : 1 < w0.length) : ∃ k, Wise n pg ws k := by
  by_cases c : ∃ x ∈ ws, x.length = 2
  · obtain ⟨x, hx, hx2⟩ := c
    obtain ⟨k, hk⟩ := List.mem_iff_getElem?.mp hx
    have cr : CanRet pg ws x := ⟨by omega, .inl hx2⟩
    refine ⟨k, x, hk, cr, fun A L h => ?_⟩
    obtain ⟨_, q⟩ := after_ret S hk cr L
    rcases q with q | ⟨q, _⟩
    · exact N A q h
    · omega
  · have l3 : ∀ x ∈ ws, 1 < x.length → 2 < x.length := fun x hx h1 => by
      have : x.length ≠ 2 := fun e => c ⟨x, hx, e⟩
      omega
    have ⟨x, hx, hx1, hxl⟩ : ∃ x ∈ ws, 1 < x.length ∧ load ws (wsnd x) < pg (wsnd x) := by
      refine Classical.byContradiction fun no => ?_
      have fullw : ∀ x ∈ ws, 1 < x.length → load ws (wsnd x) = pg (wsnd x) := fun x hx h1 => by
        obtain ⟨_, ⟨s0, s1⟩, _⟩ := S.rg x hx h1
        have a := S.ok _ s0 s1
        have b : ¬ load ws (wsnd x) < pg (wsnd x) := fun z => no ⟨x, hx, h1, z⟩
        omega
      have L : IsLot n pg ws (fun h => decide (0 ≤ h ∧ h < n ∧ load ws h = pg h)) := by
        refine ⟨fun h e => of_decide_eq_true e, fun x hx hx1 e => ⟨l3 x hx hx1, decide_eq_true ?_⟩⟩
        obtain ⟨_, ⟨s0, s1⟩, _⟩ := S.rg x hx hx1
        exact ⟨s0, s1, fullw x hx hx1⟩
      obtain ⟨_, ⟨s0, s1⟩, _⟩ := S.rg w0 h0 hw0
      have z := N _ L (wsnd w0)
      have z2 := of_decide_eq_false z
      exact z2 ⟨s0, s1, fullw w0 h0 hw0⟩
    obtain ⟨k, hk⟩ := List.mem_iff_getElem?.mp hx
    have cr : CanRet pg ws x := ⟨hx1, .inr hxl⟩
    by_cases wise : NoLot n pg (bk ws k)
    · exact ⟨k, x, hk, cr, wise⟩
    · have ⟨A, L, h2, e2⟩ : ∃ A, IsLot n pg (bk ws k) A ∧ ∃ h, A h = true := by
        refine Classical.byContradiction fun no => wise fun A2 L2 h => Bool.eq_false_iff.mpr fun e => no ⟨A2, L2, h, e⟩
      obtain ⟨nt, q⟩ := after_ret S hk cr L
      rcases q with q | ⟨g3, q⟩
      · have := N _ q h2
        rw [e2] at this
        cases this
      · have hu : load ws (wsnd x) + 1 = pg (wsnd x) := by
          have z := load_bk hk hx1 (wsnd x)
          have ne := (S.rg x hx hx1).2.2
          rw [b1_f (b := isAt (wsnd x) x) (by unfold isAt; simp; exact fun _ q => ne q.symm), b1_t (b := decide (2 < x.length) && decide (wsnd x = wsnd x)) (by simp [g3])] at z
          have f := (L.full _ q.here).2.2
          omega
        exact wise_near S P2 N hu _ A (Nat.le_refl _) q
end
end Pg
set_option Elab.async false
set_option linter.all false
set_option maxRecDepth 100000
set_option maxHeartbeats 400000
namespace Pg

/-! ### the greatest lot -/
def okH (ws : List (List Int)) (X : List Int) (h : Int) : Bool := ws.all fun w => !isAt h w || (decide (2 < w.length) && decide (wsnd w ∈ X))
def stepF (ws : List (List Int)) (X : List Int) : List Int := X.filter (okH ws X)
def iterF (ws : List (List Int)) : Nat → List Int → List Int
  | 0, X => X
  | k + 1, X => if (stepF ws X).length = X.length then X else iterF ws k (stepF ws X)
theorem okH_iff {ws : List (List Int)} {X : List Int} {h : Int} : okH ws X h = true ↔ ∀ w ∈ ws, isAt h w = true → 2 < w.length ∧ wsnd w ∈ X := by
  unfold okH
  rw [List.all_eq_true]
  refine ⟨fun a w hw e => ?_, fun a w hw => ?_⟩
  · have z := a w hw
    rw [e] at z
    simpa using z
  · by_cases e : isAt h w = true
    · obtain ⟨h1, h2⟩ := a w hw e
      simp [h1, h2]
    · simp [e]
theorem step_sub {ws : List (List Int)} {X : List Int} {h : Int} (e : h ∈ stepF ws X) : h ∈ X := (List.mem_filter.mp e).1
theorem step_len (ws : List (List Int)) (X : List Int) : (stepF ws X).length ≤ X.length := List.length_filter_le _ _
theorem step_eq {ws : List (List Int)} {X : List Int} (h : (stepF ws X).length = X.length) : stepF ws X = X := by
  unfold stepF at h ⊢
  exact List.filter_eq_self.mpr (List.length_filter_eq_length_iff.mp h)
theorem iter_succ (ws : List (List Int)) (k : Nat) (X : List Int) : iterF ws (k + 1) X = if (stepF ws X).length = X.length then X else iterF ws k (stepF ws X) := rfl
theorem iter_fix (ws : List (List Int)) : ∀ (k : Nat) (X : List Int), X.length ≤ k → stepF ws (iterF ws k X) = iterF ws k X
  | 0, X, h => by
    have e : X = [] := List.length_eq_zero_iff.mp (Nat.le_zero.mp h)
    subst e
    rfl
  | k + 1, X, h => by
    rw [iter_succ]
    by_cases e : (stepF ws X).length = X.length
    · rw [if_pos e]
      exact step_eq e
    · rw [if_neg e]
      have := step_len ws X
      exact iter_fix ws k _ (by omega)
theorem iter_sub (ws : List (List Int)) : ∀ (k : Nat) (X : List Int) (h : Int), h ∈ iterF ws k X → h ∈ X
  | 0, X, h, e => e
  | k + 1, X, h, e => by
    rw [iter_succ] at e
    by_cases q : (stepF ws X).length = X.length
    · rw [if_pos q] at e
      exact e
    · rw [if_neg q] at e
      exact step_sub (iter_sub ws k _ h e)
theorem iter_max (ws : List (List Int)) {S : List Int} (hS : ∀ h ∈ S, okH ws S h = true) : ∀ (k : Nat) (X : List Int), (∀ h ∈ S, h ∈ X) → ∀ h ∈ S, h ∈ iterF ws k X
  | 0, X, hX, h, e => hX h e
  | k + 1, X, hX, h, e => by
    rw [iter_succ]
    by_cases q : (stepF ws X).length = X.length
    · rw [if_pos q]
      exact hX h e
    · rw [if_neg q]
      refine iter_max ws hS k _ (fun g hg => List.mem_filter.mpr ⟨hX g hg, ?_⟩) h e
      refine okH_iff.mpr fun w hw a => ?_
      obtain ⟨h1, h2⟩ := okH_iff.mp (hS g hg) w hw a
      exact ⟨h1, hX _ h2⟩
theorem iter_any (ws : List (List Int)) : ∀ (k j : Nat) (X : List Int), X.length ≤ k → X.length ≤ j → iterF ws k X = iterF ws j X
  | 0, j, X, h, _ => by
    have e : X = [] := List.length_eq_zero_iff.mp (Nat.le_zero.mp h)
    subst e
    cases j with
    | zero => rfl
    | succ j => rfl
  | k + 1, 0, X, _, h => by
    have e : X = [] := List.length_eq_zero_iff.mp (Nat.le_zero.mp h)
    subst e
    rfl
  | k + 1, j + 1, X, h1, h2 => by
    rw [iter_succ, iter_succ]
    by_cases e : (stepF ws X).length = X.length
    · rw [if_pos e, if_pos e]
    · rw [if_neg e, if_neg e]
      have := step_len ws X
      exact iter_any ws k j _ (by omega) (by omega)
/-- 0, 1, .. below n -/
def upto (n : Nat) : List Int := (List.range n).map fun i : Nat => (i : Int)
theorem mem_upto {n : Nat} {h : Int} : h ∈ upto n ↔ 0 ≤ h ∧ h < (n : Int) := by
  unfold upto
  rw [List.mem_map]
  refine ⟨fun ⟨i, hi, e⟩ => ?_, fun ⟨h0, h1⟩ => ⟨h.toNat, List.mem_range.mpr (by omega), by omega⟩⟩
  have := List.mem_range.mp hi
  omega
theorem upto_len (n : Nat) : (upto n).length = n := by
  unfold upto
  rw [List.length_map, List.length_range]
section
variable {n : Nat} {pg : Int → Nat} {ws : List (List Int)}
def fullL (n : Nat) (pg : Int → Nat) (ws : List (List Int)) : List Int := (upto n).filter fun h => decide (load ws h = pg h)
theorem full_len (n : Nat) (pg : Int → Nat) (ws : List (List Int)) : (fullL n pg ws).length ≤ n := by
  unfold fullL
  exact Nat.le_trans (List.length_filter_le _ _) (Nat.le_of_eq (upto_len n))
def lotW (n : Nat) (pg : Int → Nat) (ws : List (List Int)) : List Int := iterF ws n (fullL n pg ws)
theorem lotW_full {h : Int} (e : h ∈ lotW n pg ws) : 0 ≤ h ∧ h < (n : Int) ∧ load ws h = pg h := by
  have z := iter_sub ws _ _ _ e
  obtain ⟨h1, h2⟩ := List.mem_filter.mp z
  obtain ⟨h3, h4⟩ := mem_upto.mp h1
  exact ⟨h3, h4, of_decide_eq_true h2⟩
theorem lotW_want {w : List Int} (hw : w ∈ ws) (h1 : 1 < w.length) (e : wtop w ∈ lotW n pg ws) : 2 < w.length ∧ wsnd w ∈ lotW n pg ws := by
  have f := iter_fix ws n _ (full_len n pg ws)
  have e2 : wtop w ∈ stepF ws (lotW n pg ws) := by
    show wtop w ∈ stepF ws (iterF ws n (fullL n pg ws))
    rw [f]
    exact e
  exact okH_iff.mp (List.mem_filter.mp e2).2 w hw (by unfold isAt; simp [h1])
theorem lot_is : IsLot n pg ws fun h => decide (h ∈ lotW n pg ws) :=
  ⟨fun h e => lotW_full (of_decide_eq_true e), fun w hw h1 e => by
    obtain ⟨a, b⟩ := lotW_want hw h1 (of_decide_eq_true e)
    exact ⟨a, decide_eq_true b⟩⟩
theorem lot_nil : lotW n pg ws = [] ↔ NoLot n pg ws := by
  refine ⟨fun e A L h => ?_, fun N => ?_⟩
  · refine Bool.eq_false_iff.mpr fun q => ?_
    have hS : ∀ g ∈ (upto n).filter A, okH ws ((upto n).filter A) g = true := fun g hg => by
      refine okH_iff.mpr fun w hw a => ?_
      unfold isAt at a
      simp at a
      obtain ⟨h1, h2⟩ := List.mem_filter.mp hg
      obtain ⟨g1, g2⟩ := L.want w hw a.1 (by rw [a.2]; exact h2)
      obtain ⟨f1, f2, _⟩ := L.full _ g2
      exact ⟨g1, List.mem_filter.mpr ⟨mem_upto.mpr ⟨f1, f2⟩, g2⟩⟩
    obtain ⟨f1, f2, f3⟩ := L.full h q
    have z := iter_max ws hS n (fullL n pg ws) (fun g hg => by
      obtain ⟨h1, h2⟩ := List.mem_filter.mp hg
      exact List.mem_filter.mpr ⟨h1, decide_eq_true (L.full g h2).2.2⟩) h (List.mem_filter.mpr ⟨mem_upto.mpr ⟨f1, f2⟩, q⟩)
    have e' : iterF ws n (fullL n pg ws) = [] := e
    rw [e'] at z
    cases z
  · refine List.eq_nil_iff_forall_not_mem.mpr fun h hh => ?_
    have z := N _ lot_is h
    exact of_decide_eq_false z hh
end
end Pg
set_option Elab.async false
set_option linter.all false
set_option maxRecDepth 100000
set_option maxHeartbeats 400000
namespace Pg
open L2

/-! ### what the mirrors are made of -/
theorem atI_cast {α : Type} (xs : List α) (k : Nat) : atI xs (k : Int) = xs[k]? := by
  unfold atI ixN
  rw [if_pos (by omega)]
  by_cases h : (k : Int) < xs.length
  · rw [if_pos h]
    rfl
  · rw [if_neg h, List.getElem?_eq_none (by omega)]
    rfl
theorem atI_nn {α : Type} (xs : List α) {i : Int} (h : 0 ≤ i) : atI xs i = xs[i.toNat]? := by
  have e : i = ((i.toNat : Nat) : Int) := by omega
  rw [e, atI_cast, Int.toNat_natCast]
theorem atI_neg {α : Type} (xs : List α) (k : Nat) (h0 : 0 < k) (h : k ≤ xs.length) : atI xs (-(k : Int)) = xs[xs.length - k]? := by
  unfold atI ixN
  rw [if_neg (by omega), if_pos (by omega)]
  show xs[(-(k : Int) + (xs.length : Int)).toNat]? = _
  congr 1
  omega
theorem getD_some {xs : List Int} {i : Nat} (h : i < xs.length) : xs[i]? = some (xs.getD i 0) := by
  rw [List.getD_eq_getElem?_getD, List.getElem?_eq_getElem h]
  rfl
theorem atI_m1 {w : List Int} (h : 0 < w.length) : atI w (-(1 : Int)) = some (wtop w) := by
  rw [show (-(1 : Int)) = -((1 : Nat) : Int) from rfl, atI_neg w 1 (by omega) (by omega)]
  exact getD_some (by omega)
theorem atI_m2 {w : List Int} (h : 2 ≤ w.length) : atI w (-(2 : Int)) = some (wsnd w) := by
  rw [show (-(2 : Int)) = -((2 : Nat) : Int) from rfl, atI_neg w 2 (by omega) (by omega)]
  exact getD_some (by omega)
theorem cut_take {α : Type} (xs : List α) (k : Nat) : cutD xs none (some (k : Int)) = xs.take k := by
  unfold cutD
  rw [HT.sIx_none, HT.sIx_nat, List.drop_zero, Nat.sub_zero]
  rcases Nat.le_total k xs.length with h | h
  · rw [Nat.min_eq_left h]
  · rw [Nat.min_eq_right h, List.take_length, List.take_of_length_le h]
theorem cut_drop {α : Type} (xs : List α) (k : Nat) : cutD xs (some (k : Int)) none = xs.drop k := by
  unfold cutD
  rw [HT.sIx_none, HT.sIx_nat]
  rcases Nat.le_total k xs.length with h | h
  · rw [Nat.min_eq_left h]
    exact List.take_of_length_le (by rw [List.length_drop]; exact Nat.le_refl _)
  · rw [Nat.min_eq_right h, List.drop_length, List.drop_of_length_le h, Nat.sub_self]
    rfl
theorem cut_mid {α : Type} (xs : List α) (k j : Nat) (h : k ≤ j) : cutD xs (some (k : Int)) (some (j : Int)) = (xs.drop k).take (j - k) := by
  unfold cutD
  rw [HT.sIx_nat, HT.sIx_nat]
  rcases Nat.le_total k xs.length with h1 | h1
  · rw [Nat.min_eq_left h1]
    rcases Nat.le_total j xs.length with h2 | h2
    · rw [Nat.min_eq_left h2]
    · rw [Nat.min_eq_right h2, List.take_of_length_le (by rw [List.length_drop]; exact Nat.le_refl _), List.take_of_length_le (by rw [List.length_drop]; omega)]
  · rw [Nat.min_eq_right h1, Nat.min_eq_right (by omega), List.drop_length, List.drop_of_length_le h1]
    simp
theorem cut_m1 {α : Type} (xs : List α) : cutD xs none (some (-(1 : Int))) = xs.dropLast := by
  unfold cutD
  rw [HT.sIx_none, List.drop_zero, Nat.sub_zero]
  show xs.take (if (-(1 : Int)) < 0 then (-(1 : Int) + (xs.length : Int)).toNat else min (-(1 : Int)).toNat xs.length) = _
  rw [if_pos (by omega), List.dropLast_eq_take]
  congr 1
  omega
theorem rng_upto (n : Nat) : rng 0 (n : Int) = upto n := by
  unfold rng upto
  rw [Int.sub_zero, Int.toNat_natCast]
  refine List.map_congr_left fun i _ => ?_
  omega
theorem rng_ok {n : Nat} (h : n ≤ 100000) : rngO 0 (n : Int) = some (upto n) := by
  unfold rngO
  rw [if_pos (by omega), rng_upto]
theorem mapO_ok {α β : Type} {f : α → Option β} {g : α → β} : ∀ {xs : List α}, (∀ x ∈ xs, f x = some (g x)) → mapO f xs = some (xs.map g)
  | [], _ => rfl
  | x :: xs, h => by
    rw [mapO_cons, h x List.mem_cons_self, Option.bind_some, mapO_ok fun y hy => h y (List.mem_cons_of_mem _ hy)]
    rfl
theorem filO_ok {α : Type} {p : α → Option Bool} {q : α → Bool} : ∀ {xs : List α}, (∀ x ∈ xs, p x = some (q x)) → filO p xs = some (xs.filter q)
  | [], _ => rfl
  | x :: xs, h => by
    rw [filO_cons, h x List.mem_cons_self, Option.bind_some, filO_ok fun y hy => h y (List.mem_cons_of_mem _ hy), List.filter_cons]
    rfl
theorem lcM_ok {α β : Type} {mt : α → Option Bool} {me : α → Option β} {t : α → Bool} {e : α → β} : ∀ {xs : List α}, (∀ x ∈ xs, mt x = some (t x)) → (∀ x ∈ xs, t x = true → me x = some (e x)) → lcM mt me xs = some ((xs.filter t).map e)
  | [], _, _ => rfl
  | x :: xs, h, h2 => by
    rw [lcM_cons, h x List.mem_cons_self, Option.bind_some, lcM_ok (fun y hy => h y (List.mem_cons_of_mem _ hy)) (fun y hy => h2 y (List.mem_cons_of_mem _ hy)), List.filter_cons]
    by_cases q : t x = true
    · rw [if_pos q, if_pos q, h2 x List.mem_cons_self q]
      rfl
    · rw [if_neg q, if_neg q]
theorem mapO_upto {β : Type} {f : Int → Option β} {g : Nat → β} {n : Nat} (h : ∀ i, i < n → f (i : Int) = some (g i)) : mapO f (upto n) = some ((List.range n).map g) := by
  rw [mapO_ok (g := fun x => g x.toNat) fun x hx => by
    obtain ⟨h0, h1⟩ := mem_upto.mp hx
    have e : x = ((x.toNat : Nat) : Int) := by omega
    have z := h x.toNat (by omega)
    rw [← e] at z
    exact z]
  unfold upto
  rw [List.map_map]
  rfl
section
variable {α S B R : Type}
theorem thenO_nx {S1 : Type} (s : S1) (f : S1 → Option (Out S B R)) : thenO (some (.nx s)) f = f s := rfl
theorem thenO_ret {S1 : Type} (r : R) (f : S1 → Option (Out S B R)) : thenO (some (.ret r)) f = some (.ret r) := rfl
theorem forO_nil (f : α → S → Option (Out S S R)) (s : S) : forO (B := B) f [] s = some (.nx s) := rfl
/-- an invariant by position -/
theorem forO_inv {f : α → S → Option (Out S S R)} (I : Nat → S → Prop) : ∀ {xs : List α} {j : Nat} {s : S}, (∀ (i : Nat) x s, xs[i]? = some x → I (j + i) s → ∃ s', f x s = some (.nx s') ∧ I (j + i + 1) s') → I j s → ∃ s', forO (B := B) f xs s = some (.nx s') ∧ I (j + xs.length) s'
  | [], j, s, _, h0 => ⟨s, rfl, h0⟩
  | x :: xs, j, s, h, h0 => by
    obtain ⟨s', e, h1⟩ := h 0 x s rfl h0
    rw [forO_cons, e]
    obtain ⟨s2, e2, h2⟩ := forO_inv I (xs := xs) (j := j + 1) (s := s') (fun i y t hy ht => by
      have z := h (i + 1) y t (by simpa using hy) (by rw [show j + (i + 1) = j + 1 + i by omega]; exact ht)
      rw [show j + (i + 1) + 1 = j + 1 + i + 1 by omega] at z
      exact z) h1
    refine ⟨s2, e2, ?_⟩
    rw [List.length_cons, show j + (xs.length + 1) = j + 1 + xs.length by omega]
    exact h2
/-- a fold -/
theorem forO_fold {f : α → S → Option (Out S S R)} {g : S → α → S} : ∀ {xs : List α} {s : S}, (∀ x ∈ xs, ∀ s, f x s = some (.nx (g s x))) → forO (B := B) f xs s = some (.nx (xs.foldl g s))
  | [], s, _ => rfl
  | x :: xs, s, h => by
    rw [forO_cons, h x List.mem_cons_self s]
    exact forO_fold fun y hy => h y (List.mem_cons_of_mem _ hy)
/-- nothing is changed -/
theorem forO_unit {f : α → Unit → Option (Out Unit Unit R)} : ∀ {xs : List α}, (∀ x ∈ xs, f x () = some (.nx ())) → forO (B := B) f xs () = some (.nx ())
  | [], _ => rfl
  | x :: xs, h => by
    rw [forO_cons, h x List.mem_cons_self]
    exact forO_unit fun y hy => h y (List.mem_cons_of_mem _ hy)
end
theorem enum_mem {α : Type} {xs : List α} {x : Int × α × Unit} (h : x ∈ enumL xs) : ∃ i : Nat, x.1 = (i : Int) ∧ xs[i]? = some x.2.1 := by
  obtain ⟨i, hi⟩ := List.mem_iff_getElem?.mp h
  exact ⟨i, enumL_get hi⟩
theorem bk_get : ∀ (ws : List (List Int)) (k i : Nat), (bk ws k)[i]? = if i = k then ws[i]?.map List.dropLast else ws[i]?
  | [], k, i => by
    show ([] : List (List Int))[i]? = _
    simp
  | w :: ws, 0, i => by
    show (w.dropLast :: ws)[i]? = _
    cases i with
    | zero => simp
    | succ i => simp
  | w :: ws, k + 1, i => by
    show (w :: bk ws k)[i]? = _
    cases i with
    | zero => simp
    | succ i =>
      rw [List.getElem?_cons_succ, bk_get ws k i, List.getElem?_cons_succ]
      by_cases e : i = k
      · rw [if_pos e, if_pos (by omega)]
      · rw [if_neg e, if_neg (by omega)]

/-! ### the law's small functions -/
theorem L_load_eq (ws : List (List Int)) (h : Int) : f_L_load ws h = some (load ws h : Int) := by
  unfold f_L_load m_L_load
  rw [filO_ok (q := isAt h) fun w _ => by
    unfold isAt
    by_cases e : 1 < w.length
    · rw [if_pos (decide_eq_true (by omega)), atI_m1 (by omega)]
      simp [e]
    · rw [if_neg (by simp; omega)]
      simp [e]]
  rfl
theorem L_wanted_eq (w : List Int) : f_L_wanted w = some (if w.length < 3 then none else some (wsnd w)) := by
  unfold f_L_wanted m_L_wanted
  by_cases e : w.length < 3
  · rw [if_pos (by simp; omega), if_pos e]
    rfl
  · rw [if_neg (by simp; omega), if_neg e, atI_m2 (by omega)]
    rfl
theorem L_back_eq {ws : List (List Int)} (h : ws.length ≤ 100000) (k : Nat) : f_L_back ws (k : Int) = some (bk ws k) := by
  unfold f_L_back m_L_back
  rw [rng_ok h, Option.bind_some, mapO_upto (g := fun i => if i = k then (ws.getD i []).dropLast else ws.getD i []) fun i hi => ?_]
  · rw [Option.bind_some]
    show some _ = some _
    congr 1
    refine List.ext_getElem? fun i => ?_
    rw [bk_get, List.getElem?_map]
    by_cases hi : i < ws.length
    · rw [List.getElem?_range hi, List.getElem?_eq_getElem hi]
      have e : ws.getD i [] = ws[i] := by rw [List.getD_eq_getElem?_getD, List.getElem?_eq_getElem hi] <;> rfl
      show some (if i = k then (ws.getD i []).dropLast else ws.getD i []) = _
      rw [e]
      by_cases q : i = k
      · rw [if_pos q, if_pos q]
        rfl
      · rw [if_neg q, if_neg q]
    · rw [List.getElem?_eq_none (by rw [List.length_range]; omega), List.getElem?_eq_none (by omega)]
      simp
  · rw [atI_cast, List.getElem?_eq_getElem hi]
    have e : ws.getD i [] = ws[i] := by rw [List.getD_eq_getElem?_getD, List.getElem?_eq_getElem hi] <;> rfl
    rw [Option.bind_some, Option.bind_some, e]
    by_cases q : i = k
    · rw [if_pos q, if_pos (by simp [q])]
      cases hw : ws[i].length with
      | zero =>
        have : ws[i] = [] := List.length_eq_zero_iff.mp hw
        rw [this]
        rfl
      | succ m =>
        rw [show ((m + 1 : Nat) : Int) - 1 = ((m : Nat) : Int) by omega, cut_take, List.dropLast_eq_take, hw]
        rfl
    · rw [if_neg q, if_neg (by simp; omega), Int.sub_zero, cut_take, List.take_length]
theorem L_home_eq (ws : List (List Int)) : f_L_home ws = some (ws.map fun _ => 1) := rfl
end Pg
set_option Elab.async false
set_option linter.all false
set_option maxRecDepth 100000
set_option maxHeartbeats 400000
namespace Pg
open L2

/-! ### the law's lot -/
def pgOf (pegs : List Int) (h : Int) : Nat := (pegs.getD h.toNat 0).toNat
def ones (ws : List (List Int)) : List Int := ws.map fun _ => 1
/-- sizes that keep every guard -/
structure Small (n : Nat) (pegs : List Int) (ws : List (List Int)) : Prop where
  pl : pegs.length = n
  nb : n ≤ 14
  pp : ∀ p ∈ pegs, 1 ≤ p
  wl : ws.length ≤ 100
  bl : ∀ w ∈ ws, w.length ≤ 100
theorem peg_at {n : Nat} {pegs : List Int} {ws : List (List Int)} (S : Small n pegs ws) {h : Int} (h0 : 0 ≤ h) (h1 : h < (n : Int)) : atI pegs h = some (pgOf pegs h : Int) ∧ 1 ≤ pgOf pegs h := by
  have hl := S.pl
  have hlt : h.toNat < pegs.length := by omega
  have e : pegs.getD h.toNat 0 = pegs[h.toNat] := by rw [List.getD_eq_getElem?_getD, List.getElem?_eq_getElem hlt] <;> rfl
  have p := S.pp _ (List.getElem_mem hlt)
  unfold pgOf
  rw [atI_nn _ h0, List.getElem?_eq_getElem hlt, e]
  refine ⟨?_, by omega⟩
  congr 1
  omega
def wat (ws : List (List Int)) (x : Int) : List Int := ws.getD x.toNat []
theorem wat_of {ws : List (List Int)} {i : Nat} {w : List Int} (h : ws[i]? = some w) : wat ws (i : Int) = w := by
  unfold wat
  rw [Int.toNat_natCast, List.getD_eq_getElem?_getD, h] <;> rfl
theorem way_at {ws : List (List Int)} {x : Int} (h0 : 0 ≤ x) (h : x < (ws.length : Int)) : atI ws x = some (wat ws x) ∧ wat ws x ∈ ws := by
  have hlt : x.toNat < ws.length := by omega
  have e : wat ws x = ws[x.toNat] := by
    unfold wat
    rw [List.getD_eq_getElem?_getD, List.getElem?_eq_getElem hlt] <;> rfl
  rw [atI_nn _ h0, List.getElem?_eq_getElem hlt, e]
  exact ⟨rfl, List.getElem_mem hlt⟩
theorem one_at {ws : List (List Int)} {x : Int} (h0 : 0 ≤ x) (h : x < (ws.length : Int)) : atI (ones ws) x = some 1 := by
  unfold ones
  have hlt : x.toNat < ws.length := by omega
  rw [atI_nn _ h0, List.getElem?_map, List.getElem?_eq_getElem hlt]
  rfl
def looseB (ws : List (List Int)) (s : List Int) (i : Int) : Bool := decide (1 < (wat ws i).length) && !s.any fun y => decide ((if (wat ws i).length < 3 then none else some (wsnd (wat ws i))) = some y)
theorem loose_eq (ws : List (List Int)) (s : List Int) : lcM (fun (x16 : Int) => ((atI ws x16).bind fun d17 => ((atI (ones ws) x16).bind fun d19 => ((if (decide ((if d19 > (1 : Int) then d19 else (1 : Int)) < (d17.length : Int))) = true then ((atI ws x16).bind fun d21 => ((f_L_wanted d21).bind fun d23 => some (!s.any (fun y => decide (d23 = some y))))) else some false).bind fun d25 => some d25)))) (fun (x16 : Int) => ((atI ws x16).bind fun d27 => ((atI d27 (-(1 : Int))).bind fun d29 => some d29))) (upto ws.length) = some (((upto ws.length).filter (looseB ws s)).map fun i => wtop (wat ws i)) := by
  refine lcM_ok (fun x hx => ?_) fun x hx ht => ?_
  · obtain ⟨h0, h1⟩ := mem_upto.mp hx
    have a := way_at (ws := ws) h0 h1
    have b := one_at (ws := ws) h0 h1
    rw [a.1, b, Option.bind_some, Option.bind_some]
    rw [if_neg (show ¬ (1 : Int) > 1 by omega)]
    unfold looseB
    by_cases q : 1 < (wat ws x).length
    · rw [if_pos (decide_eq_true (by omega)), Option.bind_some, L_wanted_eq, decide_eq_true q]
      rfl
    · rw [if_neg (by simp; omega), decide_eq_false q]
      rfl
  · obtain ⟨h0, h1⟩ := mem_upto.mp hx
    have a := way_at (ws := ws) h0 h1
    unfold looseB at ht
    simp at ht
    rw [a.1, Option.bind_some, atI_m1 (by omega)]
    rfl
theorem loose_ok (ws : List (List Int)) (s : List Int) (x : Int) : (!(((upto ws.length).filter (looseB ws s)).map fun i => wtop (wat ws i)).any fun y => decide (x = y)) = okH ws s x := by
  have key : ((((upto ws.length).filter (looseB ws s)).map fun i => wtop (wat ws i)).any fun y => decide (x = y)) = true ↔ ¬ okH ws s x = true := by
    rw [List.any_eq_true, okH_iff]
    constructor
    · rintro ⟨y, hy, hxy⟩ all
      obtain ⟨i, hi, e⟩ := List.mem_map.mp hy
      obtain ⟨h1, h2⟩ := List.mem_filter.mp hi
      obtain ⟨h0, h3⟩ := mem_upto.mp h1
      have a := way_at (ws := ws) h0 h3
      unfold looseB at h2
      have hx : x = y := of_decide_eq_true hxy
      obtain ⟨q1, q2⟩ := Bool.and_eq_true_iff.mp h2
      have q1' := of_decide_eq_true q1
      obtain ⟨g1, g2⟩ := all _ a.2 (by unfold isAt; rw [e, hx]; simp [q1'])
      rw [if_neg (by omega)] at q2
      have : (s.any fun y => decide (some (wsnd (wat ws i)) = some y)) = true := List.any_eq_true.mpr ⟨_, g2, by simp⟩
      rw [this] at q2
      cases q2
    · intro no
      have ⟨w, hw, hat, hno⟩ : ∃ w ∈ ws, isAt x w = true ∧ ¬ (2 < w.length ∧ wsnd w ∈ s) := by
        refine Classical.byContradiction fun c => no fun w hw hat => Classical.byContradiction fun d => c ⟨w, hw, hat, d⟩
      obtain ⟨i, hi⟩ := List.mem_iff_getElem?.mp hw
      have hlt := (List.getElem?_eq_some_iff.mp hi).1
      have eg : wat ws (i : Int) = w := wat_of hi
      unfold isAt at hat
      simp at hat
      refine ⟨wtop w, List.mem_map.mpr ⟨(i : Int), List.mem_filter.mpr ⟨mem_upto.mpr ⟨by omega, by omega⟩, ?_⟩, by rw [eg]⟩, by simp [hat.2]⟩
      unfold looseB
      rw [eg, decide_eq_true hat.1, Bool.true_and]
      by_cases l : w.length < 3
      · rw [if_pos l]
        simp
      · rw [if_neg l]
        have : ¬ wsnd w ∈ s := fun z => hno ⟨by omega, z⟩
        simp
        intro y hy e
        exact this (by rw [e]; exact hy)
  cases h : okH ws s x with
  | true =>
    have : ((((upto ws.length).filter (looseB ws s)).map fun i => wtop (wat ws i)).any fun y => decide (x = y)) = false := Bool.eq_false_iff.mpr fun z => key.mp z h
    rw [this]
    rfl
  | false =>
    rw [key.mpr (by rw [h]; exact fun z => nomatch z)]
    rfl
theorem forO_iter {α B R : Type} {ws : List (List Int)} {f : α → List Int → Option (Out (List Int) (List Int) R)} : ∀ {xs : List α} {X : List Int}, (∀ x ∈ xs, ∀ s, f x s = if decide (((stepF ws s).length : Int) = (s.length : Int)) = true then some (.brk s) else some (.nx (stepF ws s))) → forO (B := B) f xs X = some (.nx (iterF ws xs.length X))
  | [], X, _ => rfl
  | x :: xs, X, h => by
    rw [forO_cons, h x List.mem_cons_self X, List.length_cons, iter_succ]
    by_cases e : (stepF ws X).length = X.length
    · rw [if_pos (decide_eq_true (by omega)), if_pos e]
      rfl
    · rw [if_neg (by simp; omega), if_neg e]
      exact forO_iter fun y hy => h y (List.mem_cons_of_mem _ hy)
theorem L_held_eq {n : Nat} {pegs : List Int} {lanes : List (Int × Int × Unit)} {ws : List (List Int)} (S : Small n pegs ws) : f_L_held (pegs, lanes, ()) ws (ones ws) = some (lotW n (pgOf pegs) ws) := by
  have hw := S.wl
  unfold f_L_held m_L_held
  show retO ((rngO 0 (pegs.length : Int)).bind _) = _
  rw [S.pl, rng_ok (by have := S.nb; omega), Option.bind_some, filO_ok (q := fun h => decide (load ws h = pgOf pegs h)) fun h hh => ?_]
  · rw [Option.bind_some, forO_iter (ws := ws) fun x _ s => ?_]
    · rw [thenO_nx]
      show some (iterF ws _ (fullL n (pgOf pegs) ws)) = some (iterF ws n (fullL n (pgOf pegs) ws))
      congr 1
      refine iter_any ws _ _ _ ?_ (full_len _ _ _)
      have := full_len n (pgOf pegs) ws
      have := S.nb
      rw [rng_len]
      omega
    · rw [rng_ok (by omega), Option.bind_some, loose_eq, Option.bind_some]
      have e : (fun (x33 : Int) => !(((upto ws.length).filter (looseB ws s)).map fun i => wtop (wat ws i)).any fun y => decide (x33 = y)) = okH ws s := funext fun x => loose_ok ws s x
      show (if decide (((s.filter (fun (x33 : Int) => !(((upto ws.length).filter (looseB ws s)).map fun i => wtop (wat ws i)).any fun y => decide (x33 = y))).length : Int) = (s.length : Int)) = true then (some (Out.brk s) : Option (Out (List Int) (List Int) (List Int))) else some (Out.nx (s.filter (fun (x33 : Int) => !(((upto ws.length).filter (looseB ws s)).map fun i => wtop (wat ws i)).any fun y => decide (x33 = y))))) = _
      rw [e]
      rfl
  · obtain ⟨h0, h1⟩ := mem_upto.mp hh
    rw [L_load_eq, Option.bind_some]
    show (atI pegs h).bind _ = _
    rw [(peg_at S h0 h1).1, Option.bind_some]
    congr 1
    exact decide_eq_decide.mpr (by omega)
theorem L_lot_eq {n : Nat} {pegs : List Int} {lanes : List (Int × Int × Unit)} {ws : List (List Int)} (S : Small n pegs ws) : f_L_lot (pegs, lanes, ()) ws (ones ws) = some (lotW n (pgOf pegs) ws) := by
  have hw := S.wl
  unfold f_L_lot m_L_lot
  rw [L_held_eq S, Option.bind_some, rng_ok (by omega), Option.bind_some, filO_ok (q := fun i => decide (1 < (wat ws i).length) && decide (wtop (wat ws i) ∈ lotW n (pgOf pegs) ws)) fun x hx => ?_]
  · rw [Option.bind_some]
    cases hl : lotW n (pgOf pegs) ws with
    | nil =>
      rw [if_pos ?_]
      · rfl
      · refine decide_eq_true ?_
        have : ((upto ws.length).filter fun i => decide (1 < (wat ws i).length) && decide (wtop (wat ws i) ∈ ([] : List Int))) = [] := List.filter_eq_nil_iff.mpr fun i _ => by simp
        rw [this]
        rfl
    | cons h t =>
      have hm : h ∈ lotW n (pgOf pegs) ws := by
        rw [hl]
        exact List.mem_cons_self
      obtain ⟨h0, h1, h2⟩ := lotW_full hm
      have hp := (peg_at S h0 h1).2
      obtain ⟨w, hw, hw1, hwt⟩ := load_pos (ws := ws) (h := h) (by omega)
      obtain ⟨i, hi⟩ := List.mem_iff_getElem?.mp hw
      have hlt := (List.getElem?_eq_some_iff.mp hi).1
      have eg : wat ws (i : Int) = w := wat_of hi
      rw [if_neg ?_]
      · rfl
      · intro z
        have z2 : ((((upto ws.length).filter fun i => decide (1 < (wat ws i).length) && decide (wtop (wat ws i) ∈ h :: t)).length : Nat) : Int) = 0 := of_decide_eq_true z
        have m : (i : Int) ∈ (upto ws.length).filter fun i => decide (1 < (wat ws i).length) && decide (wtop (wat ws i) ∈ h :: t) := List.mem_filter.mpr ⟨mem_upto.mpr ⟨by omega, by omega⟩, by
          rw [eg, hwt]
          simp [hw1]⟩
        have := List.length_pos_of_mem m
        omega
  · obtain ⟨h0, h1⟩ := mem_upto.mp hx
    have a := way_at (ws := ws) h0 h1
    have b := one_at (ws := ws) h0 h1
    rw [a.1, b, Option.bind_some, Option.bind_some, if_neg (show ¬ (1 : Int) > 1 by omega)]
    by_cases q : 1 < (wat ws x).length
    · rw [if_pos (decide_eq_true (by omega)), Option.bind_some, atI_m1 (by omega), decide_eq_true q, Bool.true_and]
      show some _ = some _
      congr 1
      rw [Bool.eq_iff_iff, List.any_eq_true]
      simp
    · rw [if_neg (by simp; omega), decide_eq_false q]
      rfl
end Pg
set_option Elab.async false
set_option linter.all false
set_option maxRecDepth 100000
set_option maxHeartbeats 400000
namespace Pg
open L2

/-! ### a standing that is kept -/
structure Ok (n : Nat) (pegs : List Int) (lanes : List (Int × Int × Unit)) (ws : List (List Int)) : Prop where
  sm : Small n pegs ws
  lo : ∀ h : Int, 0 ≤ h → h < (n : Int) → load ws h ≤ pgOf pegs h
  ne : ∀ w ∈ ws, 0 < w.length
  rg : ∀ w ∈ ws, ∀ h ∈ w, 0 ≤ h ∧ h < (n : Int)
  st : ∀ w ∈ ws, ∀ i, i + 1 < w.length → (w.getD i 0, w.getD (i + 1) 0, ()) ∈ lanes
  la : ∀ p ∈ lanes, p.1 ≠ p.2.1
section
variable {n : Nat} {pegs : List Int} {lanes : List (Int × Int × Unit)} {ws : List (List Int)}
theorem getD_mem {w : List Int} {i : Nat} (h : i < w.length) : w.getD i 0 ∈ w := by
  rw [List.getD_eq_getElem?_getD, List.getElem?_eq_getElem h]
  exact List.getElem_mem h
theorem Ok.top (O : Ok n pegs lanes ws) {w : List Int} (h : w ∈ ws) : 0 ≤ wtop w ∧ wtop w < (n : Int) := O.rg w h _ (getD_mem (by have := O.ne w h; omega))
theorem Ok.snd (O : Ok n pegs lanes ws) {w : List Int} (h : w ∈ ws) (h1 : 1 < w.length) : 0 ≤ wsnd w ∧ wsnd w < (n : Int) := O.rg w h _ (getD_mem (by omega))
theorem Ok.lane (O : Ok n pegs lanes ws) {w : List Int} (h : w ∈ ws) (h1 : 1 < w.length) : (wsnd w, wtop w, ()) ∈ lanes := by
  have z := O.st w h (w.length - 2) (by omega)
  rw [show w.length - 2 + 1 = w.length - 1 by omega] at z
  exact z
theorem Ok.sane (O : Ok n pegs lanes ws) : Sane n (pgOf pegs) ws := ⟨O.lo, fun w hw h1 => ⟨O.top hw, O.snd hw h1, O.la _ (O.lane hw h1)⟩⟩
theorem Small.back (S : Small n pegs ws) (k : Nat) {w : List Int} (hk : ws[k]? = some w) : Small n pegs (bk ws k) := ⟨S.pl, S.nb, S.pp, by rw [bk_len]; exact S.wl, fun x hx => by
  rcases bk_mem hk x hx with e | e
  · rw [e, List.length_dropLast]
    have := S.bl w (List.mem_of_getElem? hk)
    omega
  · exact S.bl x e⟩
theorem mem_dropLast' {w : List Int} {h : Int} (e : h ∈ w.dropLast) : h ∈ w := (List.dropLast_sublist w).subset e
theorem Ok.back (O : Ok n pegs lanes ws) {k : Nat} {w : List Int} (hk : ws[k]? = some w) (c : CanRet (pgOf pegs) ws w) : Ok n pegs lanes (bk ws k) := by
  have hm := List.mem_of_getElem? hk
  refine ⟨O.sm.back k hk, fun h h0 h1 => ?_, fun x hx => ?_, fun x hx h hh => ?_, fun x hx i hi => ?_, O.la⟩
  · have z := load_bk hk c.1 h
    have q := O.lo h h0 h1
    by_cases e : (decide (2 < w.length) && decide (wsnd w = h)) = true
    · rw [b1_t e] at z
      simp at e
      rcases c.2 with c2 | c2
      · omega
      · rw [e.2] at c2
        omega
    · rw [b1_f (Bool.eq_false_iff.mpr e)] at z
      omega
  · rcases bk_mem hk x hx with e | e
    · rw [e, List.length_dropLast]
      have := c.1
      omega
    · exact O.ne x e
  · rcases bk_mem hk x hx with e | e
    · rw [e] at hh
      exact O.rg w hm h (mem_dropLast' hh)
    · exact O.rg x e h hh
  · rcases bk_mem hk x hx with e | e
    · rw [e] at hi ⊢
      rw [List.length_dropLast] at hi
      rw [getD_dropLast w _ (by omega), getD_dropLast w _ (by omega)]
      exact O.st w hm i (by omega)
    · exact O.st x e i hi
theorem ones_bk (k : Nat) : ones (bk ws k) = ones ws := by
  unfold ones
  rw [List.map_const', List.map_const', bk_len]

/-! ### the least wise return, the row of returns -/
def canB (pg : Int → Nat) (ws : List (List Int)) (x : Int) : Bool := decide (1 < (wat ws x).length) && (decide ((wat ws x).length = 2) || decide (load ws (wsnd (wat ws x)) < pg (wsnd (wat ws x))))
def wiseB (n : Nat) (pg : Int → Nat) (ws : List (List Int)) (x : Int) : Bool := canB pg ws x && decide (lotW n pg (bk ws x.toNat) = [])
def firstW (n : Nat) (pg : Int → Nat) (ws : List (List Int)) : Option Int := (upto ws.length).find? (wiseB n pg ws)
def outs (ws : List (List Int)) : Nat := (ws.map fun w => w.length - 1).sum
def rowOf (n : Nat) (pg : Int → Nat) : Nat → List (List Int) → List Int
  | 0, _ => []
  | m + 1, ws => match firstW n pg ws with
    | none => []
    | some k => k :: rowOf n pg m (bk ws k.toNat)
theorem canB_iff {pg : Int → Nat} {k : Nat} {w : List Int} (hk : ws[k]? = some w) : canB pg ws (k : Int) = true ↔ CanRet pg ws w := by
  unfold canB CanRet
  rw [wat_of hk]
  simp
theorem firstW_some {x : Int} (h : firstW n (pgOf pegs) ws = some x) : ∃ (k : Nat) (w : List Int), x = (k : Int) ∧ ws[k]? = some w ∧ CanRet (pgOf pegs) ws w ∧ NoLot n (pgOf pegs) (bk ws k) := by
  unfold firstW at h
  have h1 := List.find?_some h
  have h2 := List.mem_of_find?_eq_some h
  obtain ⟨h3, h4⟩ := mem_upto.mp h2
  have hlt : x.toNat < ws.length := by omega
  have hk : ws[x.toNat]? = some ws[x.toNat] := List.getElem?_eq_getElem hlt
  have e : x = ((x.toNat : Nat) : Int) := by omega
  unfold wiseB at h1
  obtain ⟨a, b⟩ := Bool.and_eq_true_iff.mp h1
  rw [e] at a
  exact ⟨x.toNat, _, e, hk, (canB_iff hk).mp a, lot_nil.mp (of_decide_eq_true b)⟩
theorem outs_bk {w : List Int} : ∀ {ws : List (List Int)} {k : Nat}, ws[k]? = some w → 1 < w.length → outs (bk ws k) + 1 = outs ws
  | [], k, e, _ => by simp at e
  | x :: ws, 0, e, h => by
    simp at e
    subst e
    show ((x.dropLast.length - 1) + outs ws) + 1 = (x.length - 1) + outs ws
    rw [List.length_dropLast]
    omega
  | x :: ws, k + 1, e, h => by
    have ih := outs_bk (ws := ws) (k := k) (by simpa using e) h
    show ((x.length - 1) + outs (bk ws k)) + 1 = (x.length - 1) + outs ws
    omega
theorem outs_pos : ∀ {ws : List (List Int)}, 0 < outs ws → ∃ w ∈ ws, 1 < w.length
  | [], h => by
    simp [outs] at h
  | x :: ws, h => by
    have e : outs (x :: ws) = (x.length - 1) + outs ws := rfl
    by_cases q : 1 < x.length
    · exact ⟨x, List.mem_cons_self, q⟩
    · obtain ⟨w, h1, h2⟩ := outs_pos (ws := ws) (by omega)
      exact ⟨w, List.mem_cons_of_mem _ h1, h2⟩
theorem pg2_of (P2 : ∀ p ∈ pegs, 2 ≤ p) (S : Small n pegs ws) : ∀ h : Int, 0 ≤ h → h < (n : Int) → 2 ≤ pgOf pegs h := fun h h0 h1 => by
  have hl := S.pl
  have hlt : h.toNat < pegs.length := by omega
  have e : pegs.getD h.toNat 0 = pegs[h.toNat] := by rw [List.getD_eq_getElem?_getD, List.getElem?_eq_getElem hlt] <;> rfl
  have p := P2 _ (List.getElem_mem hlt)
  unfold pgOf
  rw [e]
  omega
theorem firstW_there (O : Ok n pegs lanes ws) (P2 : ∀ p ∈ pegs, 2 ≤ p) (N : NoLot n (pgOf pegs) ws) (h : 0 < outs ws) : ∃ x, firstW n (pgOf pegs) ws = some x := by
  obtain ⟨w0, h0, h1⟩ := outs_pos h
  obtain ⟨k, w, hk, c, N2⟩ := wise_exists O.sane (pg2_of P2 O.sm) N h0 h1
  have hlt := (List.getElem?_eq_some_iff.mp hk).1
  cases e : firstW n (pgOf pegs) ws with
  | some x => exact ⟨x, rfl⟩
  | none =>
    unfold firstW at e
    have z := List.find?_eq_none.mp e (k : Int) (mem_upto.mpr ⟨by omega, by omega⟩)
    refine absurd ?_ z
    unfold wiseB
    rw [(canB_iff hk).mpr c, Int.toNat_natCast, Bool.true_and]
    exact decide_eq_true (lot_nil.mpr N2)
end
theorem forO_first {S B R : Type} {f : Int → S → Option (Out S S R)} {p : Int → Bool} {g : Int → S} {s : S} : ∀ {xs : List Int}, (∀ x ∈ xs, f x s = if p x = true then some (.brk (g x)) else some (.nx s)) → forO (B := B) f xs s = some (.nx (match xs.find? p with
    | some x => g x
    | none => s))
  | [], _ => rfl
  | x :: xs, h => by
    rw [forO_cons, h x List.mem_cons_self, List.find?_cons]
    cases q : p x with
    | true => rfl
    | false => exact forO_first fun y hy => h y (List.mem_cons_of_mem _ hy)
section
variable {n : Nat} {pegs : List Int} {lanes : List (Int × Int × Unit)} {ws : List (List Int)}
theorem L_can_back_eq (O : Ok n pegs lanes ws) {x : Int} (h0 : 0 ≤ x) (h1 : x < (ws.length : Int)) : f_L_can_back (pegs, lanes, ()) ws x = some (canB (pgOf pegs) ws x) := by
  have a := way_at h0 h1
  unfold f_L_can_back m_L_can_back canB
  rw [a.1, Option.bind_some]
  by_cases l2 : (wat ws x).length < 2
  · rw [if_pos (decide_eq_true (by omega)), decide_eq_false (show ¬ 1 < (wat ws x).length by omega)]
    rfl
  · rw [if_neg (by simp; omega), decide_eq_true (show 1 < (wat ws x).length by omega), Bool.true_and]
    by_cases e2 : (wat ws x).length = 2
    · rw [if_pos (decide_eq_true (by omega)), decide_eq_true e2]
      rfl
    · obtain ⟨s0, s1⟩ := O.snd a.2 (by omega)
      rw [if_neg (by simp; omega), decide_eq_false e2, Bool.false_or, atI_m2 (by omega), Option.bind_some, L_load_eq, Option.bind_some, Option.bind_some]
      show retO ((((atI pegs (wsnd (wat ws x))).bind _)).bind _) = _
      rw [(peg_at O.sm s0 s1).1]
      show some _ = some _
      congr 1
      exact decide_eq_decide.mpr (by omega)
end
end Pg
set_option Elab.async false
set_option linter.all false
set_option maxRecDepth 100000
set_option maxHeartbeats 400000
namespace Pg
open L2

section
variable {n : Nat} {pegs : List Int} {lanes : List (Int × Int × Unit)} {ws : List (List Int)}
/-- a row of least wise returns -/
inductive Rets (n : Nat) (pg : Int → Nat) : List (List Int) → List Int → List (List Int) → Prop where
  | nil {ws : List (List Int)} : Rets n pg ws [] ws
  | cons {ws : List (List Int)} {k : Nat} {w : List Int} {xs : List Int} {v : List (List Int)} (hk : ws[k]? = some w) (c : CanRet pg ws w) (N : NoLot n pg (bk ws k)) (f : firstW n pg ws = some (k : Int)) (t : Rets n pg (bk ws k) xs v) : Rets n pg ws ((k : Int) :: xs) v
theorem row_some {pg : Int → Nat} {x : Int} {m : Nat} (h : firstW n pg ws = some x) : rowOf n pg (m + 1) ws = x :: rowOf n pg m (bk ws x.toNat) := by
  show (match firstW n pg ws with
    | none => []
    | some k => k :: rowOf n pg m (bk ws k.toNat)) = _
  rw [h]
theorem rets_of (P2 : ∀ p ∈ pegs, 2 ≤ p) : ∀ (m : Nat) {ws : List (List Int)}, Ok n pegs lanes ws → NoLot n (pgOf pegs) ws → outs ws = m → ∃ v, Rets n (pgOf pegs) ws (rowOf n (pgOf pegs) m ws) v ∧ outs v = 0
  | 0, ws, _, _, h => ⟨ws, .nil, h⟩
  | m + 1, ws, O, N, h => by
    obtain ⟨x, hx⟩ := firstW_there O P2 N (by omega)
    obtain ⟨k, w, e, hk, c, N2⟩ := firstW_some hx
    subst e
    have o := outs_bk hk c.1
    obtain ⟨v, hv, h0⟩ := rets_of P2 m (O.back hk c) N2 (by omega)
    refine ⟨v, ?_, h0⟩
    show Rets n (pgOf pegs) ws (match firstW n (pgOf pegs) ws with
      | none => []
      | some k => k :: rowOf n (pgOf pegs) m (bk ws k.toNat)) v
    rw [hx]
    show Rets n (pgOf pegs) ws ((k : Int) :: rowOf n (pgOf pegs) m (bk ws (k : Int).toNat)) v
    rw [Int.toNat_natCast]
    exact .cons hk c N2 hx hv
theorem row_len (P2 : ∀ p ∈ pegs, 2 ≤ p) : ∀ (m : Nat) {ws : List (List Int)}, (rowOf n (pgOf pegs) m ws).length ≤ m
  | 0, ws => Nat.le_refl _
  | m + 1, ws => by
    show (match firstW n (pgOf pegs) ws with
      | none => []
      | some k => k :: rowOf n (pgOf pegs) m (bk ws k.toNat)).length ≤ m + 1
    cases firstW n (pgOf pegs) ws with
    | none => exact Nat.zero_le _
    | some k =>
      have := row_len P2 m (ws := bk ws k.toNat)
      show (rowOf n (pgOf pegs) m (bk ws k.toNat)).length + 1 ≤ m + 1
      omega
theorem outs_le : ∀ {ws : List (List Int)}, (∀ w ∈ ws, w.length ≤ 100) → outs ws ≤ 100 * ws.length
  | [], _ => Nat.le_refl _
  | w :: ws, h => by
    have a := outs_le (ws := ws) fun x hx => h x (List.mem_cons_of_mem _ hx)
    have b := h w List.mem_cons_self
    show (w.length - 1) + outs ws ≤ 100 * (ws.length + 1)
    omega
theorem Ok.outs_le (O : Ok n pegs lanes ws) : outs ws ≤ 10000 := by
  have a := Pg.outs_le O.sm.bl
  have b := O.sm.wl
  omega
theorem sum_outs : ∀ {ws : List (List Int)}, (∀ w ∈ ws, 0 < w.length) → (ws.map fun w => (w.length : Int) - 1).sum = (outs ws : Int)
  | [], _ => rfl
  | w :: ws, h => by
    have a := sum_outs (ws := ws) fun x hx => h x (List.mem_cons_of_mem _ hx)
    have b := h w List.mem_cons_self
    rw [List.map_cons, List.sum_cons, a]
    show _ = (((w.length - 1) + outs ws : Nat) : Int)
    omega
theorem range_map_wat {β : Type} (g : List Int → β) (ws : List (List Int)) : ((List.range ws.length).map fun i : Nat => g (wat ws (i : Int))) = ws.map g := by
  refine List.ext_getElem? fun i => ?_
  rw [List.getElem?_map, List.getElem?_map]
  by_cases h : i < ws.length
  · rw [List.getElem?_range h, List.getElem?_eq_getElem h]
    show some (g (wat ws (i : Int))) = some (g ws[i])
    rw [wat_of (List.getElem?_eq_getElem h)]
  · rw [List.getElem?_eq_none (by rw [List.length_range]; omega), List.getElem?_eq_none (by omega)]
    rfl
def rowStep (pegs : List Int) (lanes : List (Int × Int × Unit)) (gl : List Int) : Int → (List (List Int) × List Int) → Option (Out (List (List Int) × List Int) (List (List Int) × List Int) (List Int)) := fun (x13 : Int) (s12 : (List (List Int) × List Int)) => ((rngO 0 (s12.1.length : Int)).bind fun d14 => (thenO (forO (fun (x17 : Int) (s16 : (List (List Int) × List Int)) => ((atI s16.1 x17).bind fun d18 => ((atI gl x17).bind fun d20 => ((if (decide (d20 < (d18.length : Int))) = true then ((f_L_can_back (pegs, lanes, ()) s16.1 x17).bind fun d22 => (if d22 = true then ((f_L_back s16.1 x17).bind fun d24 => ((f_L_lot (pegs, lanes, ()) d24 gl).bind fun d26 => some (decide (d26 = ([] : List Int))))) else some false)) else some false).bind fun d28 => (if d28 = true then ((appO s16.2 x17).bind fun d31 => ((f_L_back s16.1 x17).bind fun d33 => some (.brk (d33, d31)))) else some (.nx (s16.1, s16.2))))))) d14 (s12.1, s12.2)) fun s16 : (List (List Int) × List Int) => some (.nx (s16.1, s16.2))))
theorem L_row_eq (O : Ok n pegs lanes ws) (P2 : ∀ p ∈ pegs, 2 ≤ p) (N : NoLot n (pgOf pegs) ws) : f_L_row (pegs, lanes, ()) ws (ones ws) = some (rowOf n (pgOf pegs) (outs ws) ws) := by
  have hw := O.sm.wl
  have ho := O.outs_le
  have step : ∀ (i : Nat) (x : Int) (s : List (List Int) × List Int), (upto (outs ws))[i]? = some x → ((fun i s => Ok n pegs lanes s.1 ∧ NoLot n (pgOf pegs) s.1 ∧ outs s.1 + i = outs ws ∧ s.1.length = ws.length ∧ s.2 ++ rowOf n (pgOf pegs) (outs s.1) s.1 = rowOf n (pgOf pegs) (outs ws) ws ∧ s.2.length = i ∧ i ≤ outs ws)) (0 + i) s → ∃ s', rowStep pegs lanes (ones ws) x s = some (.nx s') ∧ ((fun i s => Ok n pegs lanes s.1 ∧ NoLot n (pgOf pegs) s.1 ∧ outs s.1 + i = outs ws ∧ s.1.length = ws.length ∧ s.2 ++ rowOf n (pgOf pegs) (outs s.1) s.1 = rowOf n (pgOf pegs) (outs ws) ws ∧ s.2.length = i ∧ i ≤ outs ws)) (0 + i + 1) s' := by
    rintro i x s hx ⟨h1, h2, h3, h4, h5, h6, h7⟩
    have hlt : i < outs ws := by
      have := (List.getElem?_eq_some_iff.mp hx).1
      rw [upto_len] at this
      exact this
    rw [Nat.zero_add] at h3 h6 h7 ⊢
    obtain ⟨y, hy⟩ := firstW_there h1 P2 h2 (by omega)
    obtain ⟨k, w, ey, hk, c, N2⟩ := firstW_some hy
    subst ey
    have hlen : s.1.length ≤ 100 := h1.sm.wl
    have ob := outs_bk hk c.1
    refine ⟨(bk s.1 k, s.2 ++ [(k : Int)]), ?_, h1.back hk c, N2, by show outs (bk s.1 k) + (i + 1) = _; omega, by show (bk s.1 k).length = _; rw [bk_len]; exact h4, ?_, by show (s.2 ++ [(k : Int)]).length = _; rw [List.length_append, h6]; rfl, by omega⟩
    · show ((rngO 0 (s.1.length : Int)).bind _) = _
      rw [rng_ok (by omega), Option.bind_some, forO_first (p := wiseB n (pgOf pegs) s.1) (g := fun x => (bk s.1 x.toNat, s.2 ++ [x])) fun x hx => ?_, thenO_nx]
      · have hy' : (upto s.1.length).find? (wiseB n (pgOf pegs) s.1) = some (k : Int) := hy
        rw [hy']
        rfl
      · obtain ⟨g0, g1⟩ := mem_upto.mp hx
        have a := way_at (ws := s.1) g0 g1
        have ex : x = ((x.toNat : Nat) : Int) := by omega
        show ((atI s.1 x).bind _) = _
        rw [a.1, Option.bind_some, one_at (ws := ws) g0 (by omega), Option.bind_some]
        unfold wiseB
        by_cases l : 1 < (wat s.1 x).length
        · rw [if_pos (decide_eq_true (by omega)), L_can_back_eq h1 g0 g1, Option.bind_some]
          cases hc : canB (pgOf pegs) s.1 x with
          | false => rfl
          | true =>
            have hk2 : s.1[x.toNat]? = some (wat s.1 x) := by
              have z := a.1
              rw [atI_nn _ g0] at z
              exact z
            have hb : f_L_back s.1 x = some (bk s.1 x.toNat) := by
              have z := L_back_eq (ws := s.1) (by omega) x.toNat
              rw [← ex] at z
              exact z
            have on : ones ws = ones (bk s.1 x.toNat) := by
              rw [ones_bk]
              unfold ones
              rw [List.map_const', List.map_const', h4]
            rw [if_pos rfl, hb, Option.bind_some, on, L_lot_eq (h1.sm.back _ hk2), Option.bind_some, Option.bind_some, Bool.true_and]
            cases hd : decide (lotW n (pgOf pegs) (bk s.1 x.toNat) = []) with
            | false => rfl
            | true =>
              rw [if_pos rfl, if_pos rfl]
              show ((appO s.2 x).bind _) = _
              unfold appO
              rw [if_pos (by omega)]
              rfl
        · rw [if_neg (by simp; omega)]
          have : canB (pgOf pegs) s.1 x = false := by
            unfold canB
            rw [decide_eq_false l]
            rfl
          rw [this]
          rfl
    · have e1 : outs s.1 = outs (bk s.1 k) + 1 := by omega
      rw [e1] at h5
      have e2 : rowOf n (pgOf pegs) (outs (bk s.1 k) + 1) s.1 = (k : Int) :: rowOf n (pgOf pegs) (outs (bk s.1 k)) (bk s.1 k) := by
        rw [row_some hy, Int.toNat_natCast]
      rw [e2] at h5
      show (s.2 ++ [(k : Int)]) ++ rowOf n (pgOf pegs) (outs (bk s.1 k)) (bk s.1 k) = _
      rw [← h5, List.append_assoc]
      rfl
  obtain ⟨s, e, h1, h2, h3, h4, h5, h6, h7⟩ := forO_inv (B := Unit) (f := rowStep pegs lanes (ones ws)) ((fun i s => Ok n pegs lanes s.1 ∧ NoLot n (pgOf pegs) s.1 ∧ outs s.1 + i = outs ws ∧ s.1.length = ws.length ∧ s.2 ++ rowOf n (pgOf pegs) (outs s.1) s.1 = rowOf n (pgOf pegs) (outs ws) ws ∧ s.2.length = i ∧ i ≤ outs ws)) (xs := upto (outs ws)) (j := 0) (s := (ws, [])) step ⟨O, N, rfl, rfl, rfl, rfl, Nat.zero_le _⟩
  unfold f_L_row m_L_row
  rw [rng_ok (by omega), Option.bind_some, mapO_upto (g := fun i => ((wat ws (i : Int)).length : Int) - 1) fun i hi => by
    rw [(way_at (by omega) (by omega)).1, one_at (by omega) (by omega)]
    rfl, Option.bind_some, range_map_wat (fun w => (w.length : Int) - 1) ws, sum_outs O.ne, rng_ok (by omega), Option.bind_some]
  show retO (thenO (forO (rowStep pegs lanes (ones ws)) (upto (outs ws)) (ws, [])) _) = _
  rw [e, thenO_nx]
  show some s.2 = _
  rw [upto_len] at h3
  have : outs s.1 = 0 := by omega
  rw [this] at h5
  rw [← h5]
  show some s.2 = some (s.2 ++ [])
  rw [List.append_nil]
end
end Pg
set_option Elab.async false
set_option linter.all false
set_option maxRecDepth 100000
set_option maxHeartbeats 400000
namespace Pg
open L2

section
variable {n : Nat} {pegs : List Int} {lanes : List (Int × Int × Unit)} {ws : List (List Int)}
/-- the returns with the houses that are left -/
def prs : List (List Int) → List Int → List (Int × Int × Unit)
  | _, [] => []
  | ws, x :: xs => (x, wtop (wat ws x), ()) :: prs (bk ws x.toNat) xs
theorem prs_len : ∀ (xs : List Int) (ws : List (List Int)), (prs ws xs).length = xs.length
  | [], _ => rfl
  | x :: xs, ws => by
    show (prs (bk ws x.toNat) xs).length + 1 = _
    rw [prs_len xs, List.length_cons]
theorem rets_ok {xs : List Int} {v : List (List Int)} (R : Rets n (pgOf pegs) ws xs v) : Ok n pegs lanes ws → Ok n pegs lanes v ∧ v.length = ws.length ∧ outs v + xs.length = outs ws := by
  induction R with
  | nil => exact fun O => ⟨O, rfl, rfl⟩
  | cons hk c N f t ih =>
    intro O
    obtain ⟨h1, h2, h3⟩ := ih (O.back hk c)
    refine ⟨h1, by rw [h2, bk_len], ?_⟩
    have := outs_bk hk c.1
    rw [List.length_cons]
    omega
/-- the ends that stay: each way's first house -/
theorem bk_heads : ∀ (ws : List (List Int)) (k : Nat) {w : List Int}, ws[k]? = some w → 1 < w.length → (bk ws k).map (fun w => w.take 1) = ws.map fun w => w.take 1
  | [], k, w, e, _ => rfl
  | x :: ws, 0, w, e, h => by
    simp at e
    subst e
    show x.dropLast.take 1 :: _ = x.take 1 :: _
    congr 1
    rw [List.dropLast_eq_take, List.take_take, Nat.min_eq_left (by omega)]
  | x :: ws, k + 1, w, e, h => by
    show x.take 1 :: _ = x.take 1 :: _
    congr 1
    exact bk_heads ws k (by simpa using e) h
theorem rets_heads {xs : List Int} {v : List (List Int)} (R : Rets n (pgOf pegs) ws xs v) : v.map (fun w => w.take 1) = ws.map fun w => w.take 1 := by
  induction R with
  | nil => rfl
  | cons hk c N f t ih => rw [ih, bk_heads _ _ hk c.1]
theorem home_of : ∀ {ws : List (List Int)}, outs ws = 0 → ws.map (fun w => w.take 1) = ws
  | [], _ => rfl
  | w :: ws, h => by
    have e : outs (w :: ws) = (w.length - 1) + outs ws := rfl
    rw [List.map_cons, home_of (ws := ws) (by omega), List.take_of_length_le (by omega)]
theorem catO_ok {α : Type} {xs ys : List α} (h : xs.length + ys.length ≤ 100000) : catO xs ys = some (xs ++ ys) := if_pos h
theorem forO_app {α S B R : Type} {f : α → S → Option (Out S S R)} : ∀ {xs ys : List α} {s t : S}, forO (B := S) f xs s = some (.nx t) → (∀ x s b, f x s ≠ some (.brk b)) → forO (B := B) f (xs ++ ys) s = forO f ys t
  | [], ys, s, t, h, _ => by
    cases h
    rfl
  | x :: xs, ys, s, t, h, hb => by
    rw [forO_cons] at h
    rw [List.cons_append, forO_cons]
    cases e : f x s with
    | none =>
      rw [e] at h
      cases h
    | some o =>
      rw [e] at h
      cases o with
      | nx s' => exact forO_app (xs := xs) h hb
      | ret r => cases h
      | brk b => exact absurd e (hb x s b)
theorem L_mirror_for (O : Ok n pegs lanes ws) {xs : List Int} {v : List (List Int)} (R : Rets n (pgOf pegs) ws xs v) : ∀ (acc : List (Int × Int × Unit)), acc.length + xs.length ≤ 90000 →
    forO (B := Unit) (R := List (Int × Int × Unit)) (fun (x2 : Int) (s1 : (List (List Int) × List (Int × Int × Unit))) => ((atI s1.1 x2).bind fun d3 => ((atI d3 (-(1 : Int))).bind fun d5 => ((catO [(x2, d5, ())] s1.2).bind fun d7 => ((f_L_back s1.1 x2).bind fun d9 => some (.nx (d9, d7))))))) xs (ws, acc) = some (.nx (v, (prs ws xs).reverse ++ acc)) := by
  induction R with
  | nil => exact fun acc _ => rfl
  | @cons ws k w xs v hk c N f t ih =>
    intro acc hl
    have hm := List.mem_of_getElem? hk
    have hlt := (List.getElem?_eq_some_iff.mp hk).1
    have hwl := O.sm.wl
    rw [List.length_cons] at hl
    rw [forO_cons]
    show ((atI ws (k : Int)).bind _).bind _ = _
    rw [atI_cast, hk, Option.bind_some, atI_m1 (by have := c.1; omega), Option.bind_some, catO_ok (by show 1 + acc.length ≤ _; omega), Option.bind_some, L_back_eq (by show ws.length ≤ _; omega), Option.bind_some, Option.bind_some]
    show forO _ xs (bk ws k, [((k : Int), wtop w, ())] ++ acc) = _
    rw [ih (O.back hk c) _ (by show acc.length + 1 + xs.length ≤ _; omega)]
    congr 2
    show (_, _) = (_, _)
    congr 1
    show _ = ((((k : Int), wtop (wat ws (k : Int)), ()) :: prs (bk ws ((k : Int)).toNat) xs).reverse ++ acc)
    rw [wat_of hk, Int.toNat_natCast, List.reverse_cons, List.append_assoc]
theorem L_mirror_eq (O : Ok n pegs lanes ws) {xs : List Int} {v : List (List Int)} (R : Rets n (pgOf pegs) ws xs v) (hl : xs.length ≤ 10000) : f_L_mirror ws xs = some (prs ws xs).reverse := by
  unfold f_L_mirror m_L_mirror
  rw [L_mirror_for O R [] (by show 0 + _ ≤ _; omega), thenO_nx]
  show some ((prs ws xs).reverse ++ []) = _
  rw [List.append_nil]
theorem ld_get : ∀ (ws : List (List Int)) (k : Nat) (h : Int) (i : Nat), (ld ws k h)[i]? = if i = k then ws[i]?.map (· ++ [h]) else ws[i]?
  | [], k, h, i => by
    show ([] : List (List Int))[i]? = _
    simp
  | w :: ws, 0, h, i => by
    show ((w ++ [h]) :: ws)[i]? = _
    cases i with
    | zero => simp
    | succ i => simp
  | w :: ws, k + 1, h, i => by
    show (w :: ld ws k h)[i]? = _
    cases i with
    | zero => simp
    | succ i =>
      rw [List.getElem?_cons_succ, ld_get ws k h i, List.getElem?_cons_succ]
      by_cases e : i = k
      · rw [if_pos e, if_pos (by omega)]
      · rw [if_neg e, if_neg (by omega)]
theorem drop_top {w : List Int} (h : 0 < w.length) : w.dropLast ++ [wtop w] = w := by
  have e : w.take (w.length - 1) ++ w.drop (w.length - 1) = w := List.take_append_drop _ _
  rw [List.dropLast_eq_take]
  rw [List.drop_eq_getElem_cons (by omega), List.drop_of_length_le (by omega)] at e
  have e2 : wtop w = w[w.length - 1] := by
    unfold wtop
    rw [List.getD_eq_getElem?_getD, List.getElem?_eq_getElem (by omega)]
    rfl
  rw [e2]
  exact e
theorem ld_bk {w : List Int} {k : Nat} (hk : ws[k]? = some w) (h : 0 < w.length) : ld (bk ws k) k (wtop w) = ws := by
  refine List.ext_getElem? fun i => ?_
  rw [ld_get, bk_get]
  by_cases e : i = k
  · subst e
    rw [if_pos rfl, if_pos rfl, hk]
    show some (w.dropLast ++ [wtop w]) = some w
    rw [drop_top h]
  · rw [if_neg e, if_neg e]
theorem L_lend_eq {ws : List (List Int)} (h1 : ws.length ≤ 100000) (h2 : ∀ w ∈ ws, w.length ≤ 1000) (k : Nat) (h : Int) : f_L_lend ws (k : Int) h = some (ld ws k h) := by
  unfold f_L_lend m_L_lend
  rw [rng_ok h1, Option.bind_some, mapO_upto (g := fun i => if i = k then wat ws (i : Int) ++ [h] else wat ws (i : Int)) fun i hi => ?_]
  · rw [Option.bind_some]
    show some _ = some _
    congr 1
    refine List.ext_getElem? fun i => ?_
    rw [ld_get, List.getElem?_map]
    by_cases hi : i < ws.length
    · rw [List.getElem?_range hi, List.getElem?_eq_getElem hi]
      show some (if i = k then wat ws (i : Int) ++ [h] else wat ws (i : Int)) = _
      rw [wat_of (List.getElem?_eq_getElem hi)]
      by_cases q : i = k
      · rw [if_pos q, if_pos q]
        rfl
      · rw [if_neg q, if_neg q]
    · rw [List.getElem?_eq_none (by rw [List.length_range]; omega), List.getElem?_eq_none (by omega)]
      simp
  · have a := way_at (ws := ws) (x := (i : Int)) (by omega) (by omega)
    rw [a.1]
    have b := h2 _ a.2
    by_cases q : i = k
    · rw [if_pos q, if_pos (decide_eq_true (by omega)), Option.bind_some, catO_ok (by show _ + 1 ≤ _; omega)]
      rfl
    · rw [if_neg q, if_neg (by simp; omega)]
      rfl
end
end Pg
set_option Elab.async false
set_option linter.all false
set_option maxRecDepth 100000
set_option maxHeartbeats 400000
namespace Pg
open L2

theorem memD_iff {α : Type} [DecidableEq α] {x : α} {l : List α} : memD x l = true ↔ x ∈ l := by
  unfold memD
  exact decide_eq_true_iff
theorem memD_t {α : Type} [DecidableEq α] {x : α} {l : List α} (h : x ∈ l) : memD x l = true := memD_iff.mpr h
/-! ### a loop that only goes on -/
def Runs {α S B R : Type} (f : α → S → Option (Out S B R)) : List α → S → S → Prop
  | [], s, t => s = t
  | x :: xs, s, t => ∃ s', f x s = some (.nx s') ∧ Runs f xs s' t
theorem Runs.forO {α S B R : Type} {f : α → S → Option (Out S S R)} : ∀ {xs : List α} {s t : S}, Runs f xs s t → forO (B := B) f xs s = some (.nx t)
  | [], s, t, h => by
    have e : s = t := h
    rw [e]
    rfl
  | x :: xs, s, t, ⟨s', e, h⟩ => by
    rw [forO_cons, e]
    exact Runs.forO h
theorem Runs.app {α S B R : Type} {f : α → S → Option (Out S B R)} : ∀ {xs ys : List α} {s t u : S}, Runs f xs s t → Runs f ys t u → Runs f (xs ++ ys) s u
  | [], ys, s, t, u, h, h2 => by
    have e : s = t := h
    rw [e]
    exact h2
  | x :: xs, ys, s, t, u, ⟨s', e, h⟩, h2 => ⟨s', e, Runs.app h h2⟩
theorem Runs.one {α S B R : Type} {f : α → S → Option (Out S B R)} {x : α} {s t : S} (h : f x s = some (.nx t)) : Runs f [x] s t := ⟨t, h, rfl⟩
section
variable {n : Nat} {pegs : List Int} {lanes : List (Int × Int × Unit)} {ws : List (List Int)}
/-- what a return leaves can be lent again -/
theorem relend (O : Ok n pegs lanes ws) {k : Nat} {w : List Int} (hk : ws[k]? = some w) (c : CanRet (pgOf pegs) ws w) :
    atI (bk ws k) (k : Int) = some w.dropLast ∧ 0 < w.dropLast.length ∧ wtop w.dropLast = wsnd w ∧ (wsnd w, wtop w, ()) ∈ lanes ∧ (0 ≤ wtop w ∧ wtop w < (n : Int)) ∧ load (bk ws k) (wtop w) < pgOf pegs (wtop w) := by
  have hm := List.mem_of_getElem? hk
  have h1 := c.1
  have t := O.top hm
  refine ⟨by rw [atI_cast, bk_get, if_pos rfl, hk] <;> rfl, by rw [List.length_dropLast]; omega, wtop_drop h1, O.lane hm h1, t, ?_⟩
  have z := load_bk hk h1 (wtop w)
  have q := O.lo _ t.1 t.2
  have ne := O.la _ (O.lane hm h1)
  rw [b1_t (b := isAt (wtop w) w) (by unfold isAt; simp [h1]), b1_f (b := decide (2 < w.length) && decide (wsnd w = wtop w)) (by simp; exact fun _ => ne)] at z
  omega
def lendF (p0 : (List Int × List (Int × Int × Unit) × Unit)) : (Int × Int × Unit) → List (List Int) → Option (Out (List (List Int)) (List (List Int)) (Option (List (List Int)))) := fun x2 s1 => ((if (decide (x2.1 < (0 : Int))) = true then some true else (if (decide ((s1.length : Int) ≤ x2.1)) = true then some true else ((f_L_can_lend p0 s1 x2.1 x2.2.1).bind fun d3 => some (!d3)))).bind fun d5 => (if d5 = true then some (.ret none) else ((f_L_lend s1 x2.1 x2.2.1).bind fun d8 => some (.nx d8))))
theorem L_can_lend_at (O : Ok n pegs lanes ws) {k : Nat} {w : List Int} (hk : ws[k]? = some w) (c : CanRet (pgOf pegs) ws w) : f_L_can_lend (pegs, lanes, ()) (bk ws k) (k : Int) (wtop w) = some true := by
  obtain ⟨a1, a2, a3, a4, a5, a6⟩ := relend O hk c
  unfold f_L_can_lend m_L_can_lend
  rw [a1, Option.bind_some, atI_m1 a2, Option.bind_some, a3, if_pos (show memD (wsnd w, wtop w, ()) (pegs, lanes, ()).2.1 = true from memD_t a4), L_load_eq, Option.bind_some]
  show retO ((((atI pegs (wtop w)).bind _)).bind _) = _
  rw [(peg_at O.sm a5.1 a5.2).1]
  show some (decide ((load (bk ws k) (wtop w) : Int) < (pgOf pegs (wtop w) : Int))) = some true
  rw [decide_eq_true (by omega)]
theorem lend_step (O : Ok n pegs lanes ws) {k : Nat} {w : List Int} (hk : ws[k]? = some w) (c : CanRet (pgOf pegs) ws w) : lendF (pegs, lanes, ()) ((k : Int), wtop w, ()) (bk ws k) = some (.nx ws) := by
  have hlt := (List.getElem?_eq_some_iff.mp hk).1
  have O2 := O.back hk c
  have hwl := O2.sm.wl
  unfold lendF
  show ((if (decide ((k : Int) < (0 : Int))) = true then some true else (if (decide (((bk ws k).length : Int) ≤ (k : Int))) = true then some true else ((f_L_can_lend (pegs, lanes, ()) (bk ws k) (k : Int) (wtop w)).bind fun d3 => some (!d3)))).bind _) = _
  rw [if_neg (by rw [decide_eq_true_eq]; omega), if_neg (by rw [decide_eq_true_eq, bk_len]; omega), L_can_lend_at O hk c, Option.bind_some, Option.bind_some, if_neg (by simp)]
  show ((f_L_lend (bk ws k) (k : Int) (wtop w)).bind _) = _
  rw [L_lend_eq (by omega) (fun x hx => by have := O2.sm.bl x hx; omega), ld_bk hk (by have := c.1; omega)]
  rfl
theorem lend_runs {xs : List Int} {v : List (List Int)} (R : Rets n (pgOf pegs) ws xs v) : Ok n pegs lanes ws → Runs (lendF (pegs, lanes, ())) (prs ws xs).reverse v ws := by
  induction R with
  | nil => exact fun _ => rfl
  | @cons ws k w xs v hk c N f t ih =>
    intro O
    show Runs _ ((((k : Int), wtop (wat ws (k : Int)), ()) :: prs (bk ws ((k : Int)).toNat) xs).reverse) v ws
    rw [List.reverse_cons, wat_of hk, Int.toNat_natCast]
    exact (ih (O.back hk c)).app (Runs.one (lend_step O hk c))
theorem L_lendings_eq (O : Ok n pegs lanes ws) {xs : List Int} {v : List (List Int)} (R : Rets n (pgOf pegs) ws xs v) : f_L_lendings (pegs, lanes, ()) v (prs ws xs).reverse = some (some ws) := by
  unfold f_L_lendings m_L_lendings
  show retO (thenO (forO (lendF (pegs, lanes, ())) (prs ws xs).reverse v) _) = _
  rw [(lend_runs R O).forO]
  rfl
end
end Pg
set_option Elab.async false
set_option linter.all false
set_option maxRecDepth 100000
set_option maxHeartbeats 400000
namespace Pg
open L2

/-! ### the program's standing, from its street and ways -/
def holdL (ws : List (List Int)) : List (Option Int) := ws.map fun w => if 1 < w.length then some (wtop w) else none
def wantL (ws : List (List Int)) : List (Option Int) := ws.map fun w => if 2 < w.length then some (wsnd w) else none
def toolsAt (ws : List (List Int)) (h : Int) : List Int := ((enumL (holdL ws)).filter fun x => decide (x.2.1 = some h)).map fun x => x.1
def hungL (n : Nat) (ws : List (List Int)) : List (List Int) := (upto n).map (toolsAt ws)
def mkS (st : StreetD) (ws : List (List Int)) : StandD := ⟨st, ws, hungL st.pegs.length ws, wantL ws⟩
theorem at_up {β : Type} (g : Int → β) {n : Nat} {h : Int} (h0 : 0 ≤ h) (h1 : h < (n : Int)) : atI ((upto n).map g) h = some (g h) := by
  rw [atI_nn _ h0, List.getElem?_map]
  unfold upto
  rw [List.getElem?_map, List.getElem?_range (by omega)]
  show some (g ((h.toNat : Nat) : Int)) = some (g h)
  congr 2
  omega
theorem zip_filter {α : Type} (p : α → Bool) : ∀ (xs : List α) (k : Nat), ((xs.zipIdx k).filter fun q => p q.1).length = (xs.filter p).length
  | [], _ => rfl
  | x :: xs, k => by
    rw [List.zipIdx_cons, List.filter_cons, List.filter_cons]
    have ih := zip_filter p xs (k + 1)
    by_cases e : p x = true
    · rw [if_pos e, if_pos e, List.length_cons, List.length_cons, ih]
    · rw [if_neg e, if_neg e, ih]
theorem filter_map_len {α β : Type} (f : α → β) (p : β → Bool) (xs : List α) : ((xs.map f).filter p).length = (xs.filter fun x => p (f x)).length := by
  rw [List.filter_map, List.length_map]
  rfl
theorem toolsAt_len (ws : List (List Int)) (h : Int) : (toolsAt ws h).length = load ws h := by
  unfold toolsAt enumL holdL load
  rw [List.length_map, filter_map_len]
  show (((ws.map _).zipIdx 0).filter fun q => decide (q.1 = some h)).length = _
  rw [zip_filter (fun o => decide (o = some h)), filter_map_len]
  congr 2
  funext w
  unfold isAt
  by_cases e : 1 < w.length
  · rw [if_pos e, decide_eq_true e, Bool.true_and]
    exact decide_eq_decide.mpr ⟨fun z => Option.some.inj z, fun z => by rw [z]⟩
  · rw [if_neg e, decide_eq_false e]
    rfl
theorem enumL_at {α : Type} {xs : List α} {i : Nat} {x : α} (h : xs[i]? = some x) : ((i : Int), x, ()) ∈ enumL xs := by
  unfold enumL
  refine List.mem_map.mpr ⟨(x, i), ?_, rfl⟩
  rw [List.mem_zipIdx_iff_getElem?]
  exact h
theorem toolsAt_mem {ws : List (List Int)} {h x : Int} : x ∈ toolsAt ws h ↔ ∃ (i : Nat) (w : List Int), x = (i : Int) ∧ ws[i]? = some w ∧ isAt h w = true := by
  unfold toolsAt
  rw [List.mem_map]
  constructor
  · rintro ⟨y, hy, e⟩
    obtain ⟨h1, h2⟩ := List.mem_filter.mp hy
    obtain ⟨i, e1, e2⟩ := enum_mem h1
    unfold holdL at e2
    rw [List.getElem?_map] at e2
    cases hw : ws[i]? with
    | none =>
      rw [hw] at e2
      cases e2
    | some w =>
      rw [hw] at e2
      have e3 : (if 1 < w.length then some (wtop w) else none) = y.2.1 := Option.some.inj e2
      have e4 : y.2.1 = some h := of_decide_eq_true h2
      refine ⟨i, w, by rw [← e, e1], hw, ?_⟩
      rw [← e3] at e4
      unfold isAt
      by_cases q : 1 < w.length
      · rw [if_pos q] at e4
        rw [decide_eq_true q, decide_eq_true (Option.some.inj e4)]
        rfl
      · rw [if_neg q] at e4
        cases e4
  · rintro ⟨i, w, e, hw, a⟩
    unfold isAt at a
    obtain ⟨a1, a2⟩ := Bool.and_eq_true_iff.mp a
    have a1' := of_decide_eq_true a1
    have a2' := of_decide_eq_true a2
    refine ⟨((i : Int), some (wtop w), ()), List.mem_filter.mpr ⟨enumL_at ?_, decide_eq_true (by rw [a2'])⟩, e.symm⟩
    unfold holdL
    rw [List.getElem?_map, hw]
    show some (if 1 < w.length then some (wtop w) else none) = _
    rw [if_pos a1']
theorem hanging_eq {st : StreetD} (hn : st.pegs.length ≤ 100000) (ws : List (List Int)) : f_hanging st ws = some (hungL st.pegs.length ws) := by
  unfold f_hanging m_hanging
  rw [mapO_ok (g := fun w => if 1 < w.length then some (wtop w) else none) fun w _ => by
    by_cases e : 1 < w.length
    · rw [if_pos (decide_eq_true (by omega)), atI_m1 (by omega), if_pos e]
      rfl
    · rw [if_neg (by rw [decide_eq_true_eq]; omega), if_neg e]
      rfl, Option.bind_some]
  show retO ((rngO 0 (st.pegs.length : Int)).bind _) = _
  rw [rng_ok hn]
  rfl
theorem wants_eq (ws : List (List Int)) : mapO (fun (x7 : List Int) => ((if (decide ((2 : Int) < (x7.length : Int))) = true then ((atI x7 (-(2 : Int))).bind fun d8 => some (some d8)) else some none).bind fun d10 => some d10)) ws = some (wantL ws) := mapO_ok fun w _ => by
  by_cases e : 2 < w.length
  · rw [if_pos (decide_eq_true (by omega)), atI_m2 (by omega), if_pos e]
    rfl
  · rw [if_neg (by rw [decide_eq_true_eq]; omega), if_neg e]
    rfl
theorem StandK_eq {st : StreetD} (hn : st.pegs.length ≤ 100000) (ws : List (List Int)) : f_StandingK_lt st ws = some (mkS st ws) := by
  unfold f_StandingK_lt f_Standing_init_lt m_Standing_init_lt
  rw [if_pos rfl, Option.bind_some, hanging_eq hn, Option.bind_some, wants_eq]
  rfl
section
variable {n : Nat} {pegs : List Int} {lanes : List (Int × Int × Unit)} {ws : List (List Int)} {st : StreetD}
theorem is_full_eq (S : Small n pegs ws) (hp : st.pegs = pegs) {h : Int} (h0 : 0 ≤ h) (h1 : h < (n : Int)) : f_Standing_is_full (mkS st ws) h = some (decide (pgOf pegs h ≤ load ws h)) := by
  unfold f_Standing_is_full m_Standing_is_full
  show retO ((atI (hungL st.pegs.length ws) h).bind fun d1 => ((atI st.pegs h).bind fun d3 => some (.ret (decide (d3 ≤ (d1.length : Int)))))) = _
  rw [hp, S.pl]
  unfold hungL
  rw [at_up _ h0 h1, Option.bind_some, (peg_at S h0 h1).1, Option.bind_some, toolsAt_len]
  show some _ = some _
  congr 1
  exact decide_eq_decide.mpr (by omega)
theorem can_return_eq (O : Ok n pegs lanes ws) (hp : st.pegs = pegs) {x : Int} (h0 : 0 ≤ x) (h1 : x < (ws.length : Int)) : f_Standing_can_return (mkS st ws) x = some (canB (pgOf pegs) ws x) := by
  have a := way_at h0 h1
  have hne := O.ne _ a.2
  unfold f_Standing_can_return m_Standing_can_return canB
  show retO ((atI ws x).bind _) = _
  rw [a.1, Option.bind_some]
  by_cases e1 : (wat ws x).length = 1
  · rw [if_pos (decide_eq_true (by omega)), decide_eq_false (show ¬ 1 < (wat ws x).length by omega)]
    rfl
  · rw [if_neg (by rw [decide_eq_true_eq]; omega), decide_eq_true (show 1 < (wat ws x).length by omega), Bool.true_and]
    have hw : atI (mkS st ws).wants x = some (if 2 < (wat ws x).length then some (wsnd (wat ws x)) else none) := by
      show atI (wantL ws) x = _
      unfold wantL
      have z := a.1
      rw [atI_nn _ h0] at z ⊢
      rw [List.getElem?_map, z]
      rfl
    rw [hw, Option.bind_some]
    by_cases e2 : (wat ws x).length = 2
    · rw [if_neg (show ¬ 2 < (wat ws x).length by omega), decide_eq_true e2]
      rfl
    · obtain ⟨s0, s1⟩ := O.snd a.2 (by omega)
      rw [if_pos (show 2 < (wat ws x).length by omega), decide_eq_false e2, Bool.false_or]
      show retO ((((some (wsnd (wat ws x))).bind fun d6 => ((f_Standing_is_full (mkS st ws) d6).bind fun d8 => some (!d8)))).bind _) = _
      rw [Option.bind_some, is_full_eq O.sm hp s0 s1]
      show some (!decide (pgOf pegs (wsnd (wat ws x)) ≤ load ws (wsnd (wat ws x)))) = some _
      congr 1
      rw [← decide_not]
      exact decide_eq_decide.mpr (by omega)
theorem given_back_eq (hn : st.pegs.length ≤ 100000) (k : Nat) : f_Standing_given_back (mkS st ws) (k : Int) = some (mkS st (bk ws k)) := by
  unfold f_Standing_given_back m_Standing_given_back
  show retO ((f_StandingK_lt st ((enumL ws).map fun (x1 : (Int × List Int × Unit)) => (if (decide (x1.1 = (k : Int))) = true then (cutD x1.2.1 none (some (-(1 : Int)))) else x1.2.1))).bind _) = _
  have e : ((enumL ws).map fun (x1 : (Int × List Int × Unit)) => (if (decide (x1.1 = (k : Int))) = true then (cutD x1.2.1 none (some (-(1 : Int)))) else x1.2.1)) = bk ws k := by
    refine List.ext_getElem? fun i => ?_
    rw [bk_get, List.getElem?_map]
    unfold enumL
    rw [List.getElem?_map, List.getElem?_zipIdx]
    cases hw : ws[i]? with
    | none =>
      by_cases q : i = k <;> simp [q]
    | some w =>
      show some (if (decide (((0 + i : Nat) : Int) = (k : Int))) = true then (cutD w none (some (-(1 : Int)))) else w) = _
      rw [Nat.zero_add, cut_m1]
      by_cases q : i = k
      · rw [if_pos (decide_eq_true (by omega)), if_pos q]
        rfl
      · rw [if_neg (by rw [decide_eq_true_eq]; omega), if_neg q]
  rw [e, StandK_eq hn]
  rfl
end
end Pg
set_option Elab.async false
set_option linter.all false
set_option maxRecDepth 100000
set_option maxHeartbeats 400000
namespace Pg
open L2

/-- the first bad one ends it -/
theorem forO_all {α : Type} {f : α → Unit → Option (Out Unit Unit Bool)} {bad : α → Bool} : ∀ {xs : List α}, (∀ x ∈ xs, f x () = if bad x = true then some (.ret false) else some (.nx ())) → (thenO (forO f xs ()) fun _ : Unit => (some (.ret true) : Option (Out Unit Unit Bool))) = some (.ret (xs.all fun x => !bad x))
  | [], _ => rfl
  | x :: xs, h => by
    rw [forO_cons, h x List.mem_cons_self, List.all_cons]
    cases e : bad x with
    | true => rfl
    | false => exact forO_all fun y hy => h y (List.mem_cons_of_mem _ hy)
theorem lcM2_ok {α β γ : Type} {mi : α → Option (List β)} {me : α → β → Option γ} {zs : α → List β} {e : α → β → γ} : ∀ {xs : List α}, (∀ x ∈ xs, mi x = some (zs x)) → (∀ x ∈ xs, ∀ y ∈ zs x, me x y = some (e x y)) → lcM2 mi me xs = some (xs.flatMap fun x => (zs x).map (e x))
  | [], _, _ => rfl
  | x :: xs, h1, h2 => by
    rw [lcM2_cons, h1 x List.mem_cons_self, Option.bind_some, mapO_ok (h2 x List.mem_cons_self), Option.bind_some, lcM2_ok (fun y hy => h1 y (List.mem_cons_of_mem _ hy)) (fun y hy => h2 y (List.mem_cons_of_mem _ hy))]
    rfl
theorem whl_iter {B R : Type} {ws : List (List Int)} {c : (List Int × List Int) → Option Bool} {f : (List Int × List Int) → Option (Out (List Int × List Int) (List Int × List Int) R)} (G : List Int → Prop) (hG : ∀ X, G X → G (stepF ws X)) (hc : ∀ s, c s = some (decide ((s.2.length : Int) < (s.1.length : Int))))
    (hf : ∀ X Y, G Y → f (X, Y) = some (.nx (Y, stepF ws Y))) : ∀ (k : Nat) (X : List Int), G X → X.length < k → ∃ Y, whlO (B := B) c f k (X, stepF ws X) = some (.nx (iterF ws k X, Y))
  | 0, X, _, h => by omega
  | k + 1, X, g, h => by
    rw [whlO_succ, hc, Option.bind_some, iter_succ]
    have sl := step_len ws X
    by_cases e : (stepF ws X).length = X.length
    · rw [if_neg (by rw [decide_eq_true_eq]; show ¬ ((stepF ws X).length : Int) < (X.length : Int); omega), if_pos e]
      exact ⟨_, rfl⟩
    · rw [if_pos (decide_eq_true (by show ((stepF ws X).length : Int) < (X.length : Int); omega)), if_neg e, hf X _ (hG _ g)]
      exact whl_iter G hG hc hf k _ (hG _ g) (by omega)
theorem zip_ones (ws : List (List Int)) : zipL ws (ones ws) = ws.map fun w => (w, 1, ()) := by
  unfold zipL ones
  induction ws with
  | nil => rfl
  | cons w ws ih =>
    rw [List.map_cons, List.zip_cons_cons, List.map_cons, ih, List.map_cons]
def setL (ws : List (List Int)) : List Bool := ws.map fun w => decide ((w.length : Int) = 1)
section
variable {n : Nat} {pegs : List Int} {lanes : List (Int × Int × Unit)} {ws : List (List Int)} {st : StreetD}
theorem stays_eq (ws : List (List Int)) (X : List Int) (h : Int) : f_stays_held (toolsAt ws h) (wantL ws) (setL ws) X = some (okH ws X h) := by
  unfold f_stays_held m_stays_held
  rw [forO_all (bad := fun x => !(decide (2 < (wat ws x).length) && decide (wsnd (wat ws x) ∈ X))) fun x hx => ?_]
  · show some _ = some _
    congr 1
    rw [Bool.eq_iff_iff, okH_iff, List.all_eq_true]
    constructor
    · intro a w hw hat
      obtain ⟨i, hi⟩ := List.mem_iff_getElem?.mp hw
      have z := a (i : Int) (toolsAt_mem.mpr ⟨i, w, rfl, hi, hat⟩)
      rw [wat_of hi] at z
      simpa using z
    · intro a x hx
      obtain ⟨i, w, e, hi, hat⟩ := toolsAt_mem.mp hx
      subst e
      obtain ⟨g1, g2⟩ := a w (List.mem_of_getElem? hi) hat
      rw [wat_of hi]
      simp [g1, g2]
  · obtain ⟨i, w, e, hi, hat⟩ := toolsAt_mem.mp hx
    subst e
    have hl : 1 < w.length := by
      unfold isAt at hat
      exact of_decide_eq_true (Bool.and_eq_true_iff.mp hat).1
    have s1 : atI (setL ws) (i : Int) = some false := by
      unfold setL
      rw [atI_cast, List.getElem?_map, hi]
      show some (decide ((w.length : Int) = 1)) = _
      rw [decide_eq_false (by omega)]
    have s2 : atI (wantL ws) (i : Int) = some (if 2 < w.length then some (wsnd w) else none) := by
      unfold wantL
      rw [atI_cast, List.getElem?_map, hi]
      rfl
    rw [s1, Option.bind_some, if_pos (show (!false) = true from rfl), s2, Option.bind_some, Option.bind_some]
    show (if (!X.any fun y => decide ((if 2 < w.length then some (wsnd w) else none) = some y)) = true then _ else _) = _
    rw [wat_of hi]
    by_cases q : 2 < w.length
    · rw [if_pos q, decide_eq_true q, Bool.true_and]
      have : (X.any fun y => decide (some (wsnd w) = some y)) = decide (wsnd w ∈ X) := by
        rw [Bool.eq_iff_iff, List.any_eq_true]
        simp
      rw [this]
    · rw [if_neg q, decide_eq_false q, Bool.false_and]
      have : (X.any fun y => decide ((none : Option Int) = some y)) = false := Bool.eq_false_iff.mpr fun z => by
        obtain ⟨y, _, h⟩ := List.any_eq_true.mp z
        simp at h
      rw [this]
theorem held_eq (O : Ok n pegs lanes ws) : f_held_houses ((upto n).map fun h => decide (pgOf pegs h ≤ load ws h)) (hungL n ws) (wantL ws) (setL ws) = some (lotW n (pgOf pegs) ws) := by
  have hn := O.sm.nb
  have stp : ∀ X : List Int, (∀ h ∈ X, h ∈ upto n) → filO (fun (x8 : Int) => ((atI (hungL n ws) x8).bind fun d9 => ((f_stays_held d9 (wantL ws) (setL ws) X).bind fun d11 => some d11))) X = some (stepF ws X) := fun X hX => filO_ok (q := okH ws X) fun h hh => by
    obtain ⟨h0, h1⟩ := mem_upto.mp (hX h hh)
    unfold hungL
    rw [at_up _ h0 h1, Option.bind_some, stays_eq]
    rfl
  unfold f_held_houses m_held_houses
  rw [List.length_map, upto_len, rng_ok (by omega), Option.bind_some, filO_ok (q := fun h => decide (load ws h = pgOf pegs h)) fun h hh => by
    obtain ⟨h0, h1⟩ := mem_upto.mp hh
    rw [at_up _ h0 h1]
    show some _ = some _
    congr 1
    have := O.lo h h0 h1
    exact decide_eq_decide.mpr (by omega), Option.bind_some]
  rw [show ((upto n).filter fun h => decide (load ws h = pgOf pegs h)) = fullL n (pgOf pegs) ws from rfl]
  have fs : ∀ h ∈ fullL n (pgOf pegs) ws, h ∈ upto n := fun h hh => (List.mem_filter.mp hh).1
  rw [stp _ fs, Option.bind_some]
  have fl := full_len n (pgOf pegs) ws
  obtain ⟨Y, hY⟩ := whl_iter (B := Unit) (R := List Int) (ws := ws) (c := fun s15 : (List Int × List Int) => some (decide ((s15.2.length : Int) < (s15.1.length : Int)))) (f := fun s15 : (List Int × List Int) => ((filO (fun (x16 : Int) => ((atI (hungL n ws) x16).bind fun d17 => ((f_stays_held d17 (wantL ws) (setL ws) s15.2).bind fun d19 => some d19))) s15.2).bind fun d21 => some (.nx (s15.2, d21))))
    (fun X => ∀ h ∈ X, h ∈ upto n) (fun X g h hh => g h (step_sub hh)) (fun _ => rfl) (fun X Y g => by
      show ((filO _ Y).bind _) = _
      rw [stp Y g]
      rfl) 100 (fullL n (pgOf pegs) ws) fs (by omega)
  rw [hY, thenO_nx]
  show some (iterF ws 100 _) = some (iterF ws n _)
  rw [iter_any ws 100 n _ (by omega) fl]
end
end Pg
set_option Elab.async false
set_option linter.all false
set_option maxRecDepth 100000
set_option maxHeartbeats 400000
namespace Pg
open L2

theorem flat_len {β : Type} {f : Int → List β} {m : Nat} : ∀ {xs : List Int}, (∀ x ∈ xs, (f x).length ≤ m) → (xs.flatMap f).length ≤ m * xs.length
  | [], _ => Nat.le_refl _
  | x :: xs, h => by
    have a := flat_len (xs := xs) fun y hy => h y (List.mem_cons_of_mem _ hy)
    have b := h x List.mem_cons_self
    rw [List.flatMap_cons, List.length_append, List.length_cons, Nat.mul_add, Nat.mul_one]
    omega
theorem load_le (ws : List (List Int)) (h : Int) : load ws h ≤ ws.length := List.length_filter_le _ _
section
variable {n : Nat} {pegs : List Int} {lanes : List (Int × Int × Unit)} {ws : List (List Int)} {st : StreetD}
theorem lotW_len : (lotW n (pgOf pegs) ws).length ≤ n := by
  have : ∀ (k : Nat) (X : List Int), (iterF ws k X).length ≤ X.length := by
    intro k
    induction k with
    | zero => exact fun X => Nat.le_refl _
    | succ k ih =>
      intro X
      rw [iter_succ]
      split
      · exact Nat.le_refl _
      · exact Nat.le_trans (ih _) (step_len ws X)
  exact Nat.le_trans (this _ _) (full_len _ _ _)
theorem lot_against_eq (O : Ok n pegs lanes ws) (hp : st.pegs = pegs) : f_lot_against (mkS st ws) (ones ws) = some (lotW n (pgOf pegs) ws) := by
  have hnb := O.sm.nb
  have hwl := O.sm.wl
  have hset : f_settled_tools (mkS st ws) (ones ws) = some (setL ws) := by
    unfold f_settled_tools m_settled_tools
    show some ((zipL ws (ones ws)).map fun (x1 : (List Int × Int × Unit)) => (decide ((x1.1.length : Int) = x1.2.1))) = _
    rw [zip_ones, List.map_map]
    rfl
  unfold f_lot_against m_lot_against
  rw [hset, Option.bind_some]
  show retO ((some (st.pegs.length : Int)).bind _) = _
  rw [hp, Option.bind_some, O.sm.pl, rng_ok (by omega), Option.bind_some, mapO_ok (g := fun h => decide (pgOf pegs h ≤ load ws h)) fun h hh => by
    obtain ⟨h0, h1⟩ := mem_upto.mp hh
    rw [is_full_eq O.sm hp h0 h1]
    rfl, Option.bind_some]
  show retO ((f_held_houses _ (hungL st.pegs.length ws) (wantL ws) (setL ws)).bind _) = _
  rw [hp, O.sm.pl, held_eq O, Option.bind_some]
  have hz : lcG2 (fun x14 => (atI (mkS st ws).hung x14)) (fun x14 y17 => ((atI (setL ws) y17).bind fun d18 => some d18)) (lotW n (pgOf pegs) ws) = some ((lotW n (pgOf pegs) ws).flatMap fun x => (toolsAt ws x).map fun _ => false) := by
    unfold lcG2
    rw [lcM2_ok (zs := toolsAt ws) (e := fun _ _ => false) (fun x hx => by
      obtain ⟨h0, h1, _⟩ := lotW_full hx
      show atI (hungL st.pegs.length ws) x = _
      rw [hp, O.sm.pl]
      unfold hungL
      exact at_up _ h0 h1) (fun x hx y hy => by
      obtain ⟨i, w, e, hi, hat⟩ := toolsAt_mem.mp hy
      subst e
      have hl : 1 < w.length := by
        unfold isAt at hat
        exact of_decide_eq_true (Bool.and_eq_true_iff.mp hat).1
      unfold setL
      rw [atI_cast, List.getElem?_map, hi]
      show some (decide ((w.length : Int) = 1)) = _
      rw [decide_eq_false (by omega)]), Option.bind_some, if_pos]
    have a := flat_len (f := fun x => (toolsAt ws x).map fun _ => false) (m := 100) (xs := lotW n (pgOf pegs) ws) fun x _ => by
      rw [List.length_map, toolsAt_len]
      have := load_le ws x
      omega
    have b := lotW_len (n := n) (pegs := pegs) (ws := ws)
    omega
  rw [hz, Option.bind_some]
  cases hl : lotW n (pgOf pegs) ws with
  | nil => rfl
  | cons h t =>
    have hm : h ∈ lotW n (pgOf pegs) ws := by
      rw [hl]
      exact List.mem_cons_self
    obtain ⟨h0, h1, h2⟩ := lotW_full hm
    have hp1 := (peg_at O.sm h0 h1).2
    have hpos : 0 < (toolsAt ws h).length := by
      rw [toolsAt_len]
      omega
    obtain ⟨x, hx⟩ := List.exists_mem_of_length_pos hpos
    rw [if_neg ?_]
    · rfl
    · intro z
      have z2 := List.all_eq_true.mp z false (List.mem_flatMap.mpr ⟨h, List.mem_cons_self, List.mem_map.mpr ⟨x, hx, rfl⟩⟩)
      cases z2
theorem is_wise_eq (O : Ok n pegs lanes ws) (hp : st.pegs = pegs) {x : Int} (h0 : 0 ≤ x) (h1 : x < (ws.length : Int)) : f_is_wise (mkS st ws) (ones ws) x = some (wiseB n (pgOf pegs) ws x) := by
  have a := way_at h0 h1
  have hne := O.ne _ a.2
  have hn : st.pegs.length ≤ 100000 := by
    have := O.sm.nb
    have := O.sm.pl
    rw [hp]
    omega
  have ex : x = ((x.toNat : Nat) : Int) := by omega
  unfold f_is_wise m_is_wise wiseB
  show retO ((atI ws x).bind _) = _
  rw [a.1, Option.bind_some, one_at h0 h1, Option.bind_some]
  by_cases e1 : (wat ws x).length = 1
  · rw [if_pos (decide_eq_true (by omega))]
    have : canB (pgOf pegs) ws x = false := by
      unfold canB
      rw [decide_eq_false (show ¬ 1 < (wat ws x).length by omega)]
      rfl
    rw [this]
    rfl
  · rw [if_neg (by rw [decide_eq_true_eq]; omega), can_return_eq O hp h0 h1, Option.bind_some, Option.bind_some]
    cases hc : canB (pgOf pegs) ws x with
    | false => rfl
    | true =>
      have hk : ws[x.toNat]? = some (wat ws x) := by
        have z := a.1
        rw [atI_nn _ h0] at z
        exact z
      have cr : CanRet (pgOf pegs) ws (wat ws x) := (canB_iff hk).mp (by rw [← ex]; exact hc)
      have gb : f_Standing_given_back (mkS st ws) x = some (mkS st (bk ws x.toNat)) := by
        have z := given_back_eq (st := st) (ws := ws) hn x.toNat
        rw [← ex] at z
        exact z
      rw [if_neg (by decide), gb, Option.bind_some, ← ones_bk x.toNat, lot_against_eq (O.back hk cr) hp, Option.bind_some, Bool.true_and]
      show some _ = some _
      congr 1
      refine decide_eq_decide.mpr ⟨fun e => List.length_eq_zero_iff.mp (by omega), fun e => by rw [e]; rfl⟩
theorem forO_find {f : Int → Unit → Option (Out Unit Unit (Option Int))} {p : Int → Bool} : ∀ {xs : List Int}, (∀ x ∈ xs, f x () = if p x = true then some (.ret (some x)) else some (.nx ())) → (thenO (forO f xs ()) fun _ : Unit => (some (.ret none) : Option (Out Unit Unit (Option Int)))) = some (.ret (xs.find? p))
  | [], _ => rfl
  | x :: xs, h => by
    rw [forO_cons, h x List.mem_cons_self, List.find?_cons]
    cases e : p x with
    | true => rfl
    | false => exact forO_find fun y hy => h y (List.mem_cons_of_mem _ hy)
theorem least_wise_eq (O : Ok n pegs lanes ws) (hp : st.pegs = pegs) : f_least_wise (mkS st ws) (ones ws) = some (firstW n (pgOf pegs) ws) := by
  have hwl := O.sm.wl
  unfold f_least_wise m_least_wise
  have hs : smallO (mkS st ws).ways = some () := if_pos (show ws.length < 100000 by omega)
  rw [hs, Option.bind_some]
  show retO ((rngO 0 (ws.length : Int)).bind _) = _
  rw [rng_ok (by omega), Option.bind_some, forO_find (p := wiseB n (pgOf pegs) ws) fun x hx => ?_]
  · rfl
  · obtain ⟨h0, h1⟩ := mem_upto.mp hx
    rw [is_wise_eq O hp h0 h1]
    rfl
end
end Pg
set_option Elab.async false
set_option linter.all false
set_option maxRecDepth 100000
set_option maxHeartbeats 400000
namespace Pg
open L2

section
variable {n : Nat} {pegs : List Int} {lanes : List (Int × Int × Unit)} {ws : List (List Int)} {st : StreetD}
theorem Ok.pn (O : Ok n pegs lanes ws) (hp : st.pegs = pegs) : st.pegs.length ≤ 100000 := by
  have := O.sm.nb
  have := O.sm.pl
  rw [hp]
  omega
def comStep (gl : List Int) : Int → (StandD × List Int) → Option (Out (StandD × List Int) (StandD × List Int) (Option (List Int))) := fun x9 s8 => ((f_least_wise s8.1 gl).bind fun d10 => (if (d10.isNone) = true then some (.ret none) else (d10.bind fun d13 => ((appO s8.2 d13).bind fun d15 => (d10.bind fun d17 => ((f_Standing_given_back s8.1 d17).bind fun d19 => some (.nx (d19, d15))))))))
theorem coming_row_lot (O : Ok n pegs lanes ws) (hp : st.pegs = pegs) (h : lotW n (pgOf pegs) ws ≠ []) : f_coming_row (mkS st ws) (ones ws) = some none := by
  unfold f_coming_row m_coming_row
  rw [lot_against_eq O hp, Option.bind_some, if_pos (decide_eq_true (by
    have := List.length_pos_iff.mpr h
    omega))]
  rfl
theorem coming_row_eq (O : Ok n pegs lanes ws) (hp : st.pegs = pegs) (P2 : ∀ p ∈ pegs, 2 ≤ p) (N : lotW n (pgOf pegs) ws = []) : f_coming_row (mkS st ws) (ones ws) = some (some (rowOf n (pgOf pegs) (outs ws) ws)) := by
  have ho := O.outs_le
  have hpn := O.pn hp
  have inv0 : ∀ (i : Nat) (x : Int) (s : StandD × List Int), (upto (outs ws))[i]? = some x → (fun (i : Nat) (s : StandD × List Int) => ∃ v, s.1 = mkS st v ∧ Ok n pegs lanes v ∧ NoLot n (pgOf pegs) v ∧ outs v + i = outs ws ∧ v.length = ws.length ∧ s.2 ++ rowOf n (pgOf pegs) (outs v) v = rowOf n (pgOf pegs) (outs ws) ws ∧ s.2.length = i) (0 + i) s →
      ∃ s', comStep (ones ws) x s = some (.nx s') ∧ (fun (i : Nat) (s : StandD × List Int) => ∃ v, s.1 = mkS st v ∧ Ok n pegs lanes v ∧ NoLot n (pgOf pegs) v ∧ outs v + i = outs ws ∧ v.length = ws.length ∧ s.2 ++ rowOf n (pgOf pegs) (outs v) v = rowOf n (pgOf pegs) (outs ws) ws ∧ s.2.length = i) (0 + i + 1) s' := by
    rintro i x s hx ⟨v, h0, h1, h2, h3, h4, h5, h6⟩
    have hlt : i < outs ws := by
      have := (List.getElem?_eq_some_iff.mp hx).1
      rw [upto_len] at this
      exact this
    rw [Nat.zero_add] at h3 h6 ⊢
    obtain ⟨y, hy⟩ := firstW_there h1 P2 h2 (by omega)
    obtain ⟨k, w, ey, hk, c, N2⟩ := firstW_some hy
    subst ey
    have ob := outs_bk hk c.1
    have on : ones ws = ones v := by
      unfold ones
      rw [List.map_const', List.map_const', h4]
    have hap : appO s.2 (k : Int) = some (s.2 ++ [(k : Int)]) := if_pos (by omega)
    refine ⟨(mkS st (bk v k), s.2 ++ [(k : Int)]), ?_, bk v k, rfl, h1.back hk c, N2, by omega, by rw [bk_len]; exact h4, ?_, by show (s.2 ++ [(k : Int)]).length = _; rw [List.length_append, h6]; rfl⟩
    · unfold comStep
      rw [h0, on, least_wise_eq h1 hp, Option.bind_some, hy, if_neg (by simp), Option.bind_some, hap, Option.bind_some, Option.bind_some, given_back_eq hpn]
      rfl
    · have e1 : outs v = outs (bk v k) + 1 := by omega
      rw [e1, row_some hy, Int.toNat_natCast] at h5
      rw [← h5, List.append_assoc]
      rfl
  obtain ⟨s, e, v, h0, h1, h2, h3, h4, h5, h6⟩ := forO_inv (B := Unit) (f := comStep (ones ws)) (fun (i : Nat) (s : StandD × List Int) => ∃ v, s.1 = mkS st v ∧ Ok n pegs lanes v ∧ NoLot n (pgOf pegs) v ∧ outs v + i = outs ws ∧ v.length = ws.length ∧ s.2 ++ rowOf n (pgOf pegs) (outs v) v = rowOf n (pgOf pegs) (outs ws) ws ∧ s.2.length = i) (xs := upto (outs ws)) (j := 0) (s := (mkS st ws, [])) inv0 ⟨ws, rfl, O, lot_nil.mp N, rfl, rfl, rfl, rfl⟩
  have hsl : f_steps_left (mkS st ws) (ones ws) = some (outs ws : Int) := by
    unfold f_steps_left m_steps_left
    show some (((zipL ws (ones ws)).map fun (x1 : (List Int × Int × Unit)) => ((x1.1.length : Int) - x1.2.1)).sum) = _
    rw [zip_ones, List.map_map, ← sum_outs O.ne]
    rfl
  unfold f_coming_row m_coming_row
  rw [lot_against_eq O hp, Option.bind_some, N, if_neg (by decide), hsl, Option.bind_some, rng_ok (by omega), Option.bind_some]
  show retO (thenO (forO (comStep (ones ws)) (upto (outs ws)) (mkS st ws, [])) _) = _
  rw [e, thenO_nx]
  show some (some s.2) = _
  rw [upto_len] at h3
  have : outs v = 0 := by omega
  rw [this] at h5
  rw [← h5]
  show some (some s.2) = some (some (s.2 ++ []))
  rw [List.append_nil]

/-! ### no house is short: the goal is home -/
theorem end_loads_eq (O : Ok n pegs lanes ws) (hp : st.pegs = pegs) : f_end_loads (mkS st ws) (ones ws) = some (List.replicate n 0) := by
  have hnb := O.sm.nb
  unfold f_end_loads m_end_loads
  show retO ((some (st.pegs.length : Int)).bind _) = _
  rw [hp, Option.bind_some, O.sm.pl]
  have hr : repO [(0 : Int)] (n : Int) = some (List.replicate n 0) := by
    unfold repO
    rw [if_pos ⟨by omega, by omega, by decide⟩, Int.toNat_natCast]
    congr 1
    clear hnb O
    induction n with
    | zero => rfl
    | succ m ih => rw [List.replicate_succ, List.flatten_cons, ih, List.replicate_succ]; rfl
  rw [hr, Option.bind_some]
  show retO (thenO (forO _ (zipL ws (ones ws)) ()) _) = _
  rw [zip_ones, forO_unit fun x hx => ?_]
  · rfl
  · obtain ⟨w, _, e⟩ := List.mem_map.mp hx
    rw [← e]
    rfl
end
end Pg
set_option Elab.async false
set_option linter.all false
set_option maxRecDepth 100000
set_option maxHeartbeats 400000
namespace Pg
open L2

theorem cut_mem {α : Type} {xs : List α} {lo hi : Option Int} {x : α} (h : x ∈ cutD xs lo hi) : x ∈ xs := List.mem_of_mem_drop (List.mem_of_mem_take h)
theorem set_runs {n : Nat} {hs : List Int} : ∀ {s : List Bool}, (∀ h ∈ hs, 0 ≤ h ∧ h < (n : Int)) → s.length = n → ∃ t : List Bool, Runs (B := List Bool) (R := Option Int) (fun (x14 : Int) (s13 : (List Bool)) => ((setO s13 x14 true).bind fun d15 => some (.nx d15))) hs s t ∧ t.length = n := by
  induction hs with
  | nil => exact fun {s} _ h => ⟨s, rfl, h⟩
  | cons x hs ih =>
    intro s hr hl
    obtain ⟨x0, x1⟩ := hr x List.mem_cons_self
    have e : setO s x true = some (s.set x.toNat true) := by
      unfold setO ixN
      rw [if_pos x0, if_pos (by omega)]
      rfl
    obtain ⟨t, ht, hl2⟩ := ih (s := s.set x.toNat true) (fun h hh => hr h (List.mem_cons_of_mem _ hh)) (by rw [List.length_set]; exact hl)
    exact ⟨t, ⟨_, by show ((setO s x true).bind _) = _; rw [e]; rfl, ht⟩, hl2⟩
section
variable {n : Nat} {pegs : List Int} {lanes : List (Int × Int × Unit)} {ws : List (List Int)} {st : StreetD}
theorem house_short_eq (O : Ok n pegs lanes ws) (hp : st.pegs = pegs) (H : (∀ p ∈ pegs, 2 ≤ p) ∨ ∀ w ∈ ws, w.length = 1) : f_house_short (mkS st ws) (ones ws) = some none := by
  have hnb := O.sm.nb
  have hwl := O.sm.wl
  unfold f_house_short m_house_short
  show retO ((some (st.pegs.length : Int)).bind _) = _
  rw [hp, Option.bind_some, O.sm.pl]
  have hr : repO [false] (n : Int) = some (List.replicate n false) := by
    unfold repO
    rw [if_pos ⟨by omega, by omega, by decide⟩, Int.toNat_natCast]
    congr 1
    clear hnb O
    induction n with
    | zero => rfl
    | succ m ih => rw [List.replicate_succ, List.flatten_cons, ih, List.replicate_succ]; rfl
  rw [hr, Option.bind_some, show smallO (mkS st ws).ways = some () from if_pos (show ws.length < 100000 by omega), Option.bind_some]
  show retO ((rngO 0 (ws.length : Int)).bind _) = _
  rw [rng_ok (by omega), Option.bind_some]
  have stp : ∀ (i : Nat) (x : Int) (s : List Bool), (upto ws.length)[i]? = some x → (fun (_ : Nat) (s : List Bool) => s.length = n ∧ ((∀ p ∈ pegs, 2 ≤ p) ∨ s = List.replicate n false)) (0 + i) s →
      ∃ s', (fun (x10 : Int) (s9 : (List Bool)) => ((f_inner_stops (mkS st ws) (ones ws) x10).bind fun d11 => (thenO (forO (fun (x14 : Int) (s13 : (List Bool)) => ((setO s13 x14 true).bind fun d15 => some (.nx d15))) d11 s9) fun s13 : (List Bool) => (some (.nx s13) : Option (Out (List Bool) (List Bool) (Option Int)))))) x s = some (.nx s') ∧ (fun (_ : Nat) (s : List Bool) => s.length = n ∧ ((∀ p ∈ pegs, 2 ≤ p) ∨ s = List.replicate n false)) (0 + i + 1) s' := by
    rintro i x s hx ⟨h1, h2⟩
    obtain ⟨x0, x1⟩ := mem_upto.mp (List.mem_of_getElem? hx)
    have a := way_at x0 x1
    have hs : f_inner_stops (mkS st ws) (ones ws) x = some (cutD (wat ws x) (some 1) (some (((wat ws x).length : Int) - 1))) := by
      unfold f_inner_stops m_inner_stops
      show retO ((atI ws x).bind _) = _
      rw [a.1, Option.bind_some, one_at x0 x1]
      rfl
    obtain ⟨t, ht, hl⟩ := set_runs (n := n) (hs := cutD (wat ws x) (some 1) (some (((wat ws x).length : Int) - 1))) (s := s) (fun h hh => O.rg _ a.2 h (cut_mem hh)) h1
    refine ⟨t, ?_, hl, ?_⟩
    · show ((f_inner_stops (mkS st ws) (ones ws) x).bind _) = _
      rw [hs, Option.bind_some, ht.forO]
      rfl
    · rcases H with H | H
      · exact .inl H
      · have hw := H _ a.2
        have e : cutD (wat ws x) (some 1) (some (((wat ws x).length : Int) - 1)) = [] := by
          refine List.eq_nil_iff_forall_not_mem.mpr fun y hy => ?_
          unfold cutD at hy
          have z := List.mem_of_mem_take hy
          rw [show (some (1 : Int)) = some ((1 : Nat) : Int) from rfl, HT.sIx_nat, hw, List.drop_of_length_le (by omega)] at z
          cases z
        rw [e] at ht
        have e2 : s = t := ht
        rw [← e2]
        exact h2
  obtain ⟨s, e, h1, h2⟩ := forO_inv (B := Unit) (f := fun (x10 : Int) (s9 : (List Bool)) => ((f_inner_stops (mkS st ws) (ones ws) x10).bind fun d11 => (thenO (forO (fun (x14 : Int) (s13 : (List Bool)) => ((setO s13 x14 true).bind fun d15 => some (.nx d15))) d11 s9) fun s13 : (List Bool) => (some (.nx s13) : Option (Out (List Bool) (List Bool) (Option Int)))))) (fun (_ : Nat) (s : List Bool) => s.length = n ∧ ((∀ p ∈ pegs, 2 ≤ p) ∨ s = List.replicate n false)) (xs := upto ws.length) (j := 0) (s := List.replicate n false) stp ⟨List.length_replicate, .inr rfl⟩
  rw [e, thenO_nx, end_loads_eq O hp, Option.bind_some]
  have fin : forO (B := Unit) (R := Option Int) (fun (x20 : (Int × Int × Unit)) (s19 : Unit) => ((atI s x20.1).bind fun d21 => ((if d21 = true then ((atI (mkS st ws).street.pegs x20.1).bind fun d23 => some (decide (d23 < (x20.2.1 + (2 : Int))))) else some false).bind fun d25 => (if d25 = true then some (.ret (some x20.1)) else some (.nx ()))))) (enumL (List.replicate n (0 : Int))) () = some (.nx ()) := by
    refine forO_unit fun x hx => ?_
    obtain ⟨i, e1, e2⟩ := enum_mem hx
    have hi : i < n := by
      have := (List.getElem?_eq_some_iff.mp e2).1
      rw [List.length_replicate] at this
      exact this
    have e3 : x.2.1 = 0 := by
      rw [List.getElem?_replicate, if_pos hi] at e2
      exact (Option.some.inj e2).symm
    rw [e1, atI_cast, List.getElem?_eq_getElem (by omega), Option.bind_some]
    cases hb : s[i]'(by omega) with
    | false => rfl
    | true =>
      rcases h2 with h2 | h2
      · rw [if_pos rfl]
        show (((atI st.pegs (i : Int)).bind _).bind _) = _
        have p := pg2_of h2 O.sm (i : Int) (by omega) (by omega)
        rw [hp, (peg_at O.sm (by omega) (by omega)).1, Option.bind_some, Option.bind_some, e3, if_neg (by rw [decide_eq_true_eq]; omega)]
      · subst h2
        rw [List.getElem_replicate] at hb
        cases hb
  rw [fin]
  rfl
theorem goal_of_eq : f_goal_of (mkS st ws) () = some (ones ws) := rfl
theorem home_stage_eq : f_home_stage (mkS st ws) = some (ones ws) := rfl
/-! ### past, home_coming where a lot is stuck -/
theorem past_lot (O : Ok n pegs lanes ws) (hp : st.pegs = pegs) (P2 : ∀ p ∈ pegs, 2 ≤ p) (h : lotW n (pgOf pegs) ws ≠ []) : f_pastN (mkS st ws) = some ⟨none, lotW n (pgOf pegs) ws⟩ := by
  unfold f_pastN f_past m_past
  rw [goal_of_eq, Option.bind_some, house_short_eq O hp (.inl P2), Option.bind_some, if_neg (by simp), coming_row_lot O hp h, Option.bind_some, if_pos (show (none : Option (List Int)).isNone = true from rfl), lot_against_eq O hp]
  rfl
theorem checked_goal_eq (O : Ok n pegs lanes ws) (hp : st.pegs = pegs) : f_checked_goal (mkS st ws) (ones ws) = some (ones ws) := by
  unfold f_checked_goal m_checked_goal
  rw [forO_unit fun x hx => ?_, thenO_nx, end_loads_eq O hp, Option.bind_some, forO_unit fun x hx => ?_]
  · rfl
  · obtain ⟨i, e1, e2⟩ := enum_mem hx
    have hi : i < n := by
      have := (List.getElem?_eq_some_iff.mp e2).1
      rw [List.length_replicate] at this
      exact this
    have e3 : x.2.1 = 0 := by
      rw [List.getElem?_replicate, if_pos hi] at e2
      exact (Option.some.inj e2).symm
    show ((atI st.pegs x.1).bind _) = _
    rw [hp, e1, (peg_at O.sm (by omega) (by omega)).1, Option.bind_some, e3, if_neg (by rw [decide_eq_true_eq]; omega)]
  · obtain ⟨i, e1, e2⟩ := enum_mem hx
    unfold ones at e2
    rw [List.getElem?_map] at e2
    cases hw : ws[i]? with
    | none =>
      rw [hw] at e2
      cases e2
    | some w =>
      rw [hw] at e2
      have e3 : x.2.1 = 1 := (Option.some.inj e2).symm
      have hne := O.ne w (List.mem_of_getElem? hw)
      show ((some true).bind _) = _
      rw [Option.bind_some, if_neg (by decide), e3, if_neg (by decide)]
      show (((atI ws x.1).bind _).bind _) = _
      rw [e1, atI_cast, hw, Option.bind_some, Option.bind_some, if_neg (by rw [decide_eq_true_eq]; omega)]
theorem home_coming_eq (O : Ok n pegs lanes ws) (hp : st.pegs = pegs) (P2 : ∀ p ∈ pegs, 2 ≤ p) : f_home_coming (mkS st ws) = some (if lotW n (pgOf pegs) ws = [] then ⟨some (rowOf n (pgOf pegs) (outs ws) ws), []⟩ else ⟨none, lotW n (pgOf pegs) ws⟩) := by
  have hr : f_roomy_goal (mkS st ws) (ones ws) = some (ones ws) := by
    unfold f_roomy_goal m_roomy_goal
    rw [checked_goal_eq O hp, Option.bind_some, house_short_eq O hp (.inl P2)]
    rfl
  unfold f_home_coming m_home_coming
  rw [home_stage_eq, Option.bind_some]
  unfold f_coming m_coming
  rw [hr, Option.bind_some]
  by_cases e : lotW n (pgOf pegs) ws = []
  · rw [if_pos e, coming_row_eq O hp P2 e]
    rfl
  · rw [if_neg e, coming_row_lot O hp e, Option.bind_some, if_pos (show (none : Option (List Int)).isNone = true from rfl), lot_against_eq O hp]
    rfl
end
end Pg
set_option Elab.async false
set_option linter.all false
set_option maxRecDepth 100000
set_option maxHeartbeats 400000
namespace Pg
open L2

def enumK {α : Type} (k : Nat) (xs : List α) : List (Int × α × Unit) := (xs.zipIdx k).map fun p => ((p.2 : Int), p.1, ())
theorem enumK_cons {α : Type} (k : Nat) (x : α) (xs : List α) : enumK k (x :: xs) = ((k : Int), x, ()) :: enumK (k + 1) xs := by
  unfold enumK
  rw [List.zipIdx_cons, List.map_cons]
theorem enumL_K {α : Type} (xs : List α) : enumL xs = enumK 0 xs := rfl
section
variable {n : Nat} {pegs : List Int} {lanes : List (Int × Int × Unit)} {ws : List (List Int)} {st : StreetD}
theorem after_return_eq (O : Ok n pegs lanes ws) (hp : st.pegs = pegs) {k : Nat} {w : List Int} (hk : ws[k]? = some w) (c : CanRet (pgOf pegs) ws w) : f_Standing_after_return (mkS st ws) (k : Int) = some (mkS st (bk ws k)) := by
  have hlt := (List.getElem?_eq_some_iff.mp hk).1
  unfold f_Standing_after_return m_Standing_after_return
  show retO ((atI ws (k : Int)).bind _) = _
  have h1 := c.1
  rw [atI_cast, hk, Option.bind_some, if_neg (by rw [decide_eq_true_eq]; omega), can_return_eq O hp (by omega) (by omega), Option.bind_some, (canB_iff hk).mpr c, if_neg (by decide), given_back_eq (O.pn hp)]
  rfl
theorem row_step_back (O : Ok n pegs lanes ws) (hp : st.pegs = pegs) {k : Nat} {w : List Int} (hk : ws[k]? = some w) (c : CanRet (pgOf pegs) ws w) (j : Int) : f_row_step_d2 (mkS st ws) ("back", (k : Int), ()) j = some (mkS st (bk ws k)) := by
  have hlt := (List.getElem?_eq_some_iff.mp hk).1
  have h0 : ((decide ((k : Int) < (0 : Int))) || (decide (((mkS st ws).ways.length : Int) ≤ (k : Int)))) = false := by
    show ((decide ((k : Int) < (0 : Int))) || (decide ((ws.length : Int) ≤ (k : Int)))) = false
    rw [decide_eq_false (by omega), decide_eq_false (by omega)]
    rfl
  have h1 : f_Standing_rshift_d2 (mkS st ws) ("back", (k : Int), ()) = some (mkS st (bk ws k)) := by
    unfold f_Standing_rshift_d2 m_Standing_rshift_d2
    show retO (if ((decide ((k : Int) < (0 : Int))) || (decide (((mkS st ws).ways.length : Int) ≤ (k : Int)))) = true then _ else (if (decide (("back" : PySem.Str) = ("lend" : PySem.Str))) = true then _ else _)) = _
    rw [if_neg (by rw [h0]; decide), if_neg (by decide +kernel)]
    show retO ((f_Standing_after_return (mkS st ws) (k : Int)).bind _) = _
    rw [after_return_eq O hp hk c]
    rfl
  unfold f_row_step_d2 m_row_step_d2 f_after_d2 m_after_d2
  rw [h1]
  rfl
def mirF : (Int × (PySem.Str × Int × Unit) × Unit) → (StandD × List (Int × Int × Unit)) → Option (Out (StandD × List (Int × Int × Unit)) (StandD × List (Int × Int × Unit)) (List (Int × Int × Unit))) := fun x4 s3 => ((f_row_step_d2 s3.1 x4.2.1 x4.1).bind fun d5 => ((f_Standing_holder s3.1 x4.2.1.2.1).bind fun d7 => ((appO s3.2 (x4.2.1.2.1, d7, ())).bind fun d9 => some (.nx (d5, d9)))))
theorem mir_runs (hp : st.pegs = pegs) {xs : List Int} {v : List (List Int)} (R : Rets n (pgOf pegs) ws xs v) : Ok n pegs lanes ws → ∀ (j : Nat) (acc : List (Int × Int × Unit)), acc.length + xs.length ≤ 90000 → Runs mirF (enumK j (xs.map fun (x1 : Int) => (("back" : PySem.Str), x1, ()))) (mkS st ws, acc) (mkS st v, acc ++ prs ws xs) := by
  induction R with
  | nil =>
    intro _ j acc _
    show (_, _) = (_, _)
    rw [show prs _ [] = [] from rfl, List.append_nil]
  | @cons ws k w xs v hk c N f t ih =>
    intro O j acc hl
    have h1 := c.1
    rw [List.length_cons] at hl
    rw [List.map_cons, enumK_cons]
    have hh : f_Standing_holder (mkS st ws) (k : Int) = some (wtop w) := by
      unfold f_Standing_holder m_Standing_holder
      show retO ((atI ws (k : Int)).bind _) = _
      rw [atI_cast, hk, Option.bind_some, atI_m1 (by omega)]
      rfl
    have ha : appO acc ((k : Int), wtop w, ()) = some (acc ++ [((k : Int), wtop w, ())]) := if_pos (by omega)
    refine ⟨(mkS st (bk ws k), acc ++ [((k : Int), wtop w, ())]), ?_, ?_⟩
    · show ((f_row_step_d2 (mkS st ws) ("back", (k : Int), ()) (j : Int)).bind fun d5 => ((f_Standing_holder (mkS st ws) (k : Int)).bind fun d7 => ((appO acc ((k : Int), d7, ())).bind fun d9 => (some (Out.nx (d5, d9)) : Option (Out (StandD × List (Int × Int × Unit)) (StandD × List (Int × Int × Unit)) (List (Int × Int × Unit))))))) = _
      rw [row_step_back O hp hk c, Option.bind_some, hh, Option.bind_some, ha]
      rfl
    · have z := ih (O.back hk c) (j + 1) (acc ++ [((k : Int), wtop w, ())]) (by rw [List.length_append]; show acc.length + 1 + _ ≤ _; omega)
      rw [List.append_assoc] at z
      have e : prs ws ((k : Int) :: xs) = ((k : Int), wtop w, ()) :: prs (bk ws k) xs := by
        show ((k : Int), wtop (wat ws (k : Int)), ()) :: prs (bk ws ((k : Int)).toNat) xs = _
        rw [wat_of hk, Int.toNat_natCast]
      rw [e]
      exact z
theorem mirror_eq (O : Ok n pegs lanes ws) (hp : st.pegs = pegs) {xs : List Int} {v : List (List Int)} (R : Rets n (pgOf pegs) ws xs v) (hl : xs.length ≤ 10000) : f_mirror (mkS st ws) xs = some (prs ws xs).reverse := by
  unfold f_mirror m_mirror
  show retO ((some (xs.map fun (x1 : Int) => (("back" : PySem.Str), x1, ()))).bind _) = _
  rw [Option.bind_some]
  show retO (thenO (forO mirF (enumK 0 (xs.map fun (x1 : Int) => (("back" : PySem.Str), x1, ()))) (mkS st ws, [])) _) = _
  rw [(mir_runs hp R O 0 [] (by show 0 + _ ≤ _; omega)).forO]
  rfl
theorem past_ok (O : Ok n pegs lanes ws) (hp : st.pegs = pegs) (P2 : ∀ p ∈ pegs, 2 ≤ p) (N : lotW n (pgOf pegs) ws = []) {v : List (List Int)} (R : Rets n (pgOf pegs) ws (rowOf n (pgOf pegs) (outs ws) ws) v) : f_pastN (mkS st ws) = some ⟨some (prs ws (rowOf n (pgOf pegs) (outs ws) ws)).reverse, []⟩ := by
  have hl := row_len (n := n) P2 (outs ws) (ws := ws)
  have ho := O.outs_le
  unfold f_pastN f_past m_past
  rw [goal_of_eq, Option.bind_some, house_short_eq O hp (.inl P2), Option.bind_some, if_neg (by simp), coming_row_eq O hp P2 N, Option.bind_some, if_neg (by simp), Option.bind_some, mirror_eq O hp R (by omega)]
  rfl
end
end Pg
set_option Elab.async false
set_option linter.all false
set_option maxRecDepth 100000
set_option maxHeartbeats 400000
namespace Pg
open L2

/-- the street's table of lanes -/
structure StOk (n : Nat) (pegs : List Int) (lanes : List (Int × Int × Unit)) (st : StreetD) : Prop where
  pe : st.pegs = pegs
  to : ∀ a b : Int, (a, b, ()) ∈ lanes → ∃ r, atI st.to_lists a = some r ∧ b ∈ r
theorem any_mem {x : Int} {r : List Int} (h : x ∈ r) : (r.any fun y => decide (x = y)) = true := List.any_eq_true.mpr ⟨x, h, by simp⟩
section
variable {n : Nat} {pegs : List Int} {lanes : List (Int × Int × Unit)} {ws : List (List Int)} {st : StreetD}
theorem lent_eq {v : List (List Int)} (hn : st.pegs.length ≤ 100000) (hb : ∀ w ∈ v, w.length ≤ 1000) (k : Nat) (h : Int) : f_Standing_lent (mkS st v) (k : Int) h = some (mkS st (ld v k h)) := by
  unfold f_Standing_lent m_Standing_lent
  have e : mapO (fun (x1 : (Int × List Int × Unit)) => ((if (decide (x1.1 = (k : Int))) = true then ((catO x1.2.1 [h]).bind fun d4 => some d4) else some x1.2.1).bind fun d6 => some d6)) (enumL v) = some (ld v k h) := by
    rw [mapO_ok (g := fun x1 => if x1.1 = (k : Int) then x1.2.1 ++ [h] else x1.2.1) fun x hx => ?_]
    · congr 1
      refine List.ext_getElem? fun i => ?_
      rw [ld_get, List.getElem?_map]
      unfold enumL
      rw [List.getElem?_map, List.getElem?_zipIdx]
      cases hw : v[i]? with
      | none =>
        by_cases q : i = k <;> simp [q]
      | some w =>
        show some (if ((0 + i : Nat) : Int) = (k : Int) then w ++ [h] else w) = _
        rw [Nat.zero_add]
        by_cases q : i = k
        · rw [if_pos (by omega), if_pos q]
          rfl
        · rw [if_neg (by omega), if_neg q]
    · obtain ⟨i, e1, e2⟩ := enum_mem hx
      have b := hb _ (List.mem_of_getElem? e2)
      by_cases q : x.1 = (k : Int)
      · rw [if_pos (decide_eq_true q), if_pos q, catO_ok (by show _ + 1 ≤ _; omega)]
        rfl
      · rw [if_neg (by rw [decide_eq_true_eq]; exact q), if_neg q]
        rfl
  show retO ((mapO _ (enumL v)).bind _) = _
  rw [e, Option.bind_some]
  show retO ((f_StandingK_lt st (ld v k h)).bind _) = _
  rw [StandK_eq hn]
  rfl
theorem can_lend_eq (O : Ok n pegs lanes ws) (Q : StOk n pegs lanes st) {k : Nat} {w : List Int} (hk : ws[k]? = some w) (c : CanRet (pgOf pegs) ws w) : f_can_lend (mkS st (bk ws k)) (k : Int) (wtop w) = some true := by
  have hlt := (List.getElem?_eq_some_iff.mp hk).1
  have hwl := O.sm.wl
  obtain ⟨a1, a2, a3, a4, a5, a6⟩ := relend O hk c
  obtain ⟨r, hr, hm⟩ := Q.to _ _ a4
  have hh : f_Standing_holder (mkS st (bk ws k)) (k : Int) = some (wsnd w) := by
    unfold f_Standing_holder m_Standing_holder
    show retO ((atI (bk ws k) (k : Int)).bind _) = _
    rw [a1, Option.bind_some, atI_m1 a2, a3]
    rfl
  have hl : f_Street_lends_to (mkS st (bk ws k)).street (wsnd w) = some r := by
    unfold f_Street_lends_to m_Street_lends_to
    show retO ((atI st.to_lists (wsnd w)).bind _) = _
    rw [hr]
    rfl
  unfold f_can_lend m_can_lend
  rw [if_neg (by rw [decide_eq_true_eq]; omega), show smallO (mkS st (bk ws k)).ways = some () from if_pos (by show (bk ws k).length < _; rw [bk_len]; omega), Option.bind_some, Option.bind_some]
  show retO (if decide (((bk ws k).length : Int) ≤ (k : Int)) = true then _ else _) = _
  rw [if_neg (by rw [decide_eq_true_eq, bk_len]; omega), hh, Option.bind_some, hl, Option.bind_some, if_pos (any_mem hm), is_full_eq (O.sm.back k hk) Q.pe a5.1 a5.2, Option.bind_some, Option.bind_some, decide_eq_false (by omega)]
  rfl
theorem after_lending_eq (O : Ok n pegs lanes ws) (Q : StOk n pegs lanes st) {k : Nat} {w : List Int} (hk : ws[k]? = some w) (c : CanRet (pgOf pegs) ws w) : f_Standing_after_lending (mkS st (bk ws k)) (k : Int) (wtop w) = some (mkS st ws) := by
  obtain ⟨a1, a2, a3, a4, a5, a6⟩ := relend O hk c
  obtain ⟨r, hr, hm⟩ := Q.to _ _ a4
  have O2 := O.back hk c
  unfold f_Standing_after_lending m_Standing_after_lending
  show retO ((atI (bk ws k) (k : Int)).bind _) = _
  rw [a1, Option.bind_some, atI_m1 a2, Option.bind_some, a3]
  show retO ((atI st.to_lists (wsnd w)).bind _) = _
  rw [hr, Option.bind_some, any_mem hm, if_neg (by decide), is_full_eq (O.sm.back k hk) Q.pe a5.1 a5.2, Option.bind_some, decide_eq_false (by omega), if_neg (by decide), lent_eq (O.pn Q.pe) (fun x hx => by have := O2.sm.bl x hx; omega), ld_bk hk (by have := c.1; omega)]
  rfl
def pastF : (Int × Int × Unit) → StandD → Option (Out StandD StandD Bool) := fun x6 s5 => ((f_can_lend s5 x6.1 x6.2.1).bind fun d7 => (if (!d7) = true then some (.ret false) else ((f_Standing_lent s5 x6.1 x6.2.1).bind fun d10 => some (.nx d10))))
theorem past_runs (Q : StOk n pegs lanes st) {xs : List Int} {v : List (List Int)} (R : Rets n (pgOf pegs) ws xs v) : Ok n pegs lanes ws → Runs pastF (prs ws xs).reverse (mkS st v) (mkS st ws) := by
  induction R with
  | nil => exact fun _ => rfl
  | @cons ws k w xs v hk c N f t ih =>
    intro O
    have O2 := O.back hk c
    show Runs _ ((((k : Int), wtop (wat ws (k : Int)), ()) :: prs (bk ws ((k : Int)).toNat) xs).reverse) (mkS st v) (mkS st ws)
    rw [List.reverse_cons, wat_of hk, Int.toNat_natCast]
    refine (ih O2).app (Runs.one ?_)
    show ((f_can_lend (mkS st (bk ws k)) (k : Int) (wtop w)).bind fun d7 => (if (!d7) = true then (some (Out.ret false) : Option (Out StandD StandD Bool)) else ((f_Standing_lent (mkS st (bk ws k)) (k : Int) (wtop w)).bind fun d10 => some (Out.nx d10)))) = _
    rw [can_lend_eq O Q hk c, Option.bind_some, if_neg (by decide), lent_eq (O.pn Q.pe) (fun x hx => by have := O2.sm.bl x hx; omega), ld_bk hk (by have := c.1; omega)]
    rfl
theorem cut_eq (hn : st.pegs.length ≤ 100000) : f_Standing_cut (mkS st ws) (ones ws) = some (mkS st (ws.map fun w => w.take 1)) := by
  unfold f_Standing_cut m_Standing_cut
  show retO ((f_StandingK_lt st ((zipL ws (ones ws)).map fun (x1 : (List Int × Int × Unit)) => (cutD x1.1 none (some x1.2.1)))).bind _) = _
  have e : ((zipL ws (ones ws)).map fun (x1 : (List Int × Int × Unit)) => (cutD x1.1 none (some x1.2.1))) = ws.map fun w => w.take 1 := by
    rw [zip_ones, List.map_map]
    refine List.map_congr_left fun w _ => ?_
    exact cut_take w 1
  rw [e, StandK_eq hn]
  rfl
theorem is_past_eq (O : Ok n pegs lanes ws) (Q : StOk n pegs lanes st) {xs : List Int} {v : List (List Int)} (R : Rets n (pgOf pegs) ws xs v) (h0 : outs v = 0) : f_is_pastN (mkS st ws) (prs ws xs).reverse = some true := by
  have e : (ws.map fun w => w.take 1) = v := by rw [← rets_heads R, home_of h0]
  unfold f_is_pastN f_is_past m_is_past
  rw [goal_of_eq, Option.bind_some, cut_eq (O.pn Q.pe), Option.bind_some, e]
  show retO (thenO (forO pastF (prs ws xs).reverse (mkS st v)) _) = _
  rw [(past_runs Q R O).forO, thenO_nx]
  show some (decide (ws = ws)) = some true
  rw [decide_eq_true rfl]
end
end Pg
set_option Elab.async false
set_option linter.all false
set_option maxRecDepth 100000
set_option maxHeartbeats 400000
namespace Pg
open L2

theorem enumK_app {α : Type} : ∀ (k : Nat) (xs ys : List α), enumK k (xs ++ ys) = enumK k xs ++ enumK (k + xs.length) ys
  | k, [], ys => rfl
  | k, x :: xs, ys => by
    rw [List.cons_append, enumK_cons, enumK_cons, enumK_app (k + 1) xs ys, List.cons_append, List.length_cons]
    congr 3
    omega
def deed (x1 : Int × Int × Unit) : PySem.Str × Int × Int × Unit := (("lend" : PySem.Str), x1.1, x1.2.1, ())
section
variable {n : Nat} {pegs : List Int} {lanes : List (Int × Int × Unit)} {ws : List (List Int)} {st : StreetD}
theorem row_step_lend (O : Ok n pegs lanes ws) (Q : StOk n pegs lanes st) {k : Nat} {w : List Int} (hk : ws[k]? = some w) (c : CanRet (pgOf pegs) ws w) (j : Int) : f_row_step_d3 (mkS st (bk ws k)) (deed ((k : Int), wtop w, ())) j = some (mkS st ws) := by
  have hlt := (List.getElem?_eq_some_iff.mp hk).1
  have h0 : ((decide ((k : Int) < (0 : Int))) || (decide (((bk ws k).length : Int) ≤ (k : Int)))) = false := by
    rw [decide_eq_false (by omega), decide_eq_false (by rw [bk_len]; omega)]
    rfl
  have h1 : f_Standing_rshift_d3 (mkS st (bk ws k)) (deed ((k : Int), wtop w, ())) = some (mkS st ws) := by
    unfold f_Standing_rshift_d3 m_Standing_rshift_d3
    show retO (if ((decide ((k : Int) < (0 : Int))) || (decide (((bk ws k).length : Int) ≤ (k : Int)))) = true then _ else (if (decide (("lend" : PySem.Str) = ("lend" : PySem.Str))) = true then _ else _)) = _
    rw [if_neg (by rw [h0]; decide), if_pos (decide_eq_true rfl)]
    show retO ((f_Standing_after_lending (mkS st (bk ws k)) (k : Int) (wtop w)).bind _) = _
    rw [after_lending_eq O Q hk c]
    rfl
  unfold f_row_step_d3 m_row_step_d3 f_after_d3 m_after_d3
  rw [h1]
  rfl
def runF : (Int × (PySem.Str × Int × Int × Unit) × Unit) → StandD → Option (Out StandD StandD StandD) := fun x2 s1 => ((f_row_step_d3 s1 x2.2.1 x2.1).bind fun d3 => some (.nx d3))
theorem run_runs (Q : StOk n pegs lanes st) {xs : List Int} {v : List (List Int)} (R : Rets n (pgOf pegs) ws xs v) : Ok n pegs lanes ws → ∀ j, Runs runF (enumK j ((prs ws xs).reverse.map deed)) (mkS st v) (mkS st ws) := by
  induction R with
  | nil => exact fun _ _ => rfl
  | @cons ws k w xs v hk c N f t ih =>
    intro O j
    show Runs _ (enumK j (((((k : Int), wtop (wat ws (k : Int)), ()) :: prs (bk ws ((k : Int)).toNat) xs).reverse).map deed)) (mkS st v) (mkS st ws)
    rw [List.reverse_cons, wat_of hk, Int.toNat_natCast, List.map_append, enumK_app]
    refine (ih (O.back hk c) j).app (Runs.one ?_)
    show ((f_row_step_d3 (mkS st (bk ws k)) (deed ((k : Int), wtop w, ())) _).bind fun d3 => (some (Out.nx d3) : Option (Out StandD StandD StandD))) = _
    rw [row_step_lend O Q hk c]
    rfl
theorem run_eq (O : Ok n pegs lanes ws) (Q : StOk n pegs lanes st) {xs : List Int} {v : List (List Int)} (R : Rets n (pgOf pegs) ws xs v) : ((f_lending_deeds (prs ws xs).reverse).bind fun d98 => f_run (mkS st v) d98) = some (mkS st ws) := by
  have e : f_lending_deeds (prs ws xs).reverse = some ((prs ws xs).reverse.map deed) := rfl
  rw [e, Option.bind_some]
  unfold f_run m_run
  show retO (thenO (forO runF (enumK 0 ((prs ws xs).reverse.map deed)) (mkS st v)) _) = _
  rw [(run_runs Q R O 0).forO]
  rfl
theorem stand_eq (s : StandD) : f_Standing_eq s s = some true := by
  unfold f_Standing_eq m_Standing_eq f_Street_eq m_Street_eq
  rw [if_pos rfl]
  show retO (((some (true && (decide (s.street.pegs = s.street.pegs) && decide (s.street.lanes = s.street.lanes)))).bind _).bind _) = _
  rw [decide_eq_true rfl, decide_eq_true rfl, Option.bind_some]
  show retO ((if (true && (true && true)) = true then some (decide (s.ways = s.ways)) else some false).bind _) = _
  rw [if_pos (show (true && (true && true)) = true from rfl), decide_eq_true rfl]
  rfl
end
end Pg
set_option Elab.async false
set_option linter.all false
set_option maxRecDepth 100000
set_option maxHeartbeats 400000
namespace Pg
open L2

def LaneOk (n : Nat) (lanes : List (Int × Int × Unit)) : Prop := ∀ p ∈ lanes, (0 ≤ p.1 ∧ p.1 < (n : Int)) ∧ (0 ≤ p.2.1 ∧ p.2.1 < (n : Int)) ∧ p.1 ≠ p.2.1
theorem check_pegs_eq {pegs : List Int} (h : ∀ p ∈ pegs, 1 ≤ p ∧ p ≤ 9) : f_check_pegs pegs = some () := by
  unfold f_check_pegs m_check_pegs
  rw [forO_unit fun x hx => ?_]
  · rfl
  · obtain ⟨i, e1, e2⟩ := enum_mem hx
    obtain ⟨a, b⟩ := h _ (List.mem_of_getElem? e2)
    show ((some true).bind _) = _
    rw [Option.bind_some, decide_eq_false (show ¬ x.2.1 < 1 by omega), decide_eq_false (show ¬ 9 < x.2.1 by omega)]
    rfl
theorem check_lanes_eq {n : Nat} {lanes : List (Int × Int × Unit)} (h : LaneOk n lanes) : f_check_lanes (n : Int) lanes = some () := by
  unfold f_check_lanes m_check_lanes
  rw [forO_unit fun x hx => ?_]
  · rfl
  · obtain ⟨i, e1, e2⟩ := enum_mem hx
    obtain ⟨⟨a0, a1⟩, ⟨b0, b1⟩, ne⟩ := h _ (List.mem_of_getElem? e2)
    rw [decide_eq_false ne, decide_eq_false (show ¬ (if x.2.1.2.1 < x.2.1.1 then x.2.1.2.1 else x.2.1.1) < 0 by split <;> omega), decide_eq_false (show ¬ (n : Int) ≤ (if x.2.1.2.1 > x.2.1.1 then x.2.1.2.1 else x.2.1.1) by split <;> omega)]
    rfl
theorem street_any {n : Nat} {pegs : List Int} {lanes ls : List (Int × Int × Unit)} (hl : pegs.length = n) (hn : n ≤ 14) (hp : ∀ p ∈ pegs, 1 ≤ p ∧ p ≤ 9) (hs : ∀ p, p ∈ ls ↔ p ∈ lanes) (L : LaneOk n lanes) (h64 : ls.length < 64) : ∃ st, f_Street_init_t pegs ls = some st ∧ f_Street_init_l pegs ls = some st ∧ StOk n pegs lanes st := by
  have L2 : LaneOk n ls := fun p hp => L p ((hs p).mp hp)
  have ha : f_ascending ls = some (ascL ls) := by
    unfold f_ascending m_ascending ascO
    rw [if_pos ⟨h64, List.all_eq_true.mpr fun p hp => decide_eq_true (by
      obtain ⟨⟨a0, a1⟩, ⟨b0, b1⟩, _⟩ := L2 p hp
      omega)⟩]
    rfl
  refine ⟨⟨pegs, ascL ls, (upto n).map fun (x9 : Int) => (((ascL ls).filter fun (x10 : (Int × Int × Unit)) => (decide (x10.1 = x9))).map fun (x10 : (Int × Int × Unit)) => x10.2.1), (upto n).map fun (x13 : Int) => (((ascL ls).filter fun (x14 : (Int × Int × Unit)) => (decide (x14.2.1 = x13))).map fun (x14 : (Int × Int × Unit)) => x14.1)⟩, ?_, ?_, rfl, fun a b hab => ?_⟩
  · unfold f_Street_init_t m_Street_init_t
    rw [check_pegs_eq hp, Option.bind_some, hl, check_lanes_eq L2, Option.bind_some, ha, Option.bind_some, rng_ok (by omega)]
    rfl
  · unfold f_Street_init_l m_Street_init_l
    rw [check_pegs_eq hp, Option.bind_some, hl, check_lanes_eq L2, Option.bind_some, ha, Option.bind_some, rng_ok (by omega)]
    rfl
  · obtain ⟨⟨a0, a1⟩, _, _⟩ := L _ hab
    refine ⟨_, at_up _ a0 a1, List.mem_map.mpr ⟨(a, b, ()), List.mem_filter.mpr ⟨ascL_mem.mpr ((hs _).mpr hab), decide_eq_true rfl⟩, rfl⟩⟩
end Pg
set_option Elab.async false
set_option linter.all false
set_option maxRecDepth 100000
set_option maxHeartbeats 400000
namespace Pg
open L2

section
variable {n : Nat} {pegs : List Int} {lanes : List (Int × Int × Unit)} {ws : List (List Int)} {st : StreetD}
theorem minL_some {w : List Int} (h : 0 < w.length) : ∃ m, minL w = some m ∧ m ∈ w := by
  cases w with
  | nil => simp at h
  | cons x xs => exact ⟨_, rfl, (minL_mem (xs := x :: xs) rfl).1⟩
theorem maxL_some {w : List Int} (h : 0 < w.length) : ∃ m, maxL w = some m ∧ m ∈ w := by
  cases w with
  | nil => simp at h
  | cons x xs => exact ⟨_, rfl, (maxL_mem (xs := x :: xs) rfl).1⟩
theorem is_way_eq (O : Ok n pegs lanes ws) (Q : StOk n pegs lanes st) {w : List Int} (hw : w ∈ ws) : f_is_way st w = some true := by
  have hne := O.ne w hw
  obtain ⟨m1, e1, g1⟩ := minL_some hne
  obtain ⟨m2, e2, g2⟩ := maxL_some hne
  have r1 := O.rg w hw m1 g1
  have r2 := O.rg w hw m2 g2
  have hh : f_Street_houses st = some (n : Int) := by
    show some (st.pegs.length : Int) = _
    rw [Q.pe, O.sm.pl]
  unfold f_is_way m_is_way
  rw [if_neg (by rw [decide_eq_true_eq]; omega), e1, Option.bind_some, if_neg (by rw [decide_eq_true_eq]; omega), e2, Option.bind_some, hh, Option.bind_some, decide_eq_false (by omega), Option.bind_some, if_neg (by decide), mapO_ok (g := fun _ => true) fun x hx => ?_]
  · rw [Option.bind_some]
    show some ((((zipL w (cutD w (some 1) none)).map fun _ => true)).all id) = some true
    congr 1
    rw [List.all_eq_true]
    intro b hb
    obtain ⟨_, _, e⟩ := List.mem_map.mp hb
    rw [← e]
    rfl
  · obtain ⟨i, hi⟩ := List.mem_iff_getElem?.mp hx
    obtain ⟨a, b⟩ := zipL_get hi
    rw [show (some (1 : Int)) = some ((1 : Nat) : Int) from rfl, cut_drop, List.getElem?_drop] at b
    have hlt := (List.getElem?_eq_some_iff.mp b).1
    have z := O.st w hw i (by omega)
    rw [List.getD_eq_getElem?_getD, List.getD_eq_getElem?_getD, a, show i + 1 = 1 + i by omega, b] at z
    obtain ⟨r, hr, hm⟩ := Q.to _ _ z
    show ((atI st.to_lists x.1).bind _) = _
    rw [show x.1 = (some x.1).getD 0 from rfl, hr, Option.bind_some]
    exact congrArg some (any_mem hm)
theorem ways_unit (O : Ok n pegs lanes ws) (Q : StOk n pegs lanes st) : forO (B := Unit) (R := List (List Int)) (fun (x2 : (Int × List Int × Unit)) (s1 : Unit) => ((f_is_way st x2.2.1).bind fun d3 => (if (!d3) = true then none else some (.nx ())))) (enumL ws) () = some (.nx ()) := forO_unit fun x hx => by
  obtain ⟨i, e1, e2⟩ := enum_mem hx
  rw [is_way_eq O Q (List.mem_of_getElem? e2)]
  rfl
theorem check_loads_eq (O : Ok n pegs lanes ws) (Q : StOk n pegs lanes st) : f_check_loads st (hungL n ws) = some () := by
  unfold f_check_loads m_check_loads
  rw [forO_unit fun x hx => ?_]
  · rfl
  · obtain ⟨i, e1, e2⟩ := enum_mem hx
    have hi : i < n := by
      have := (List.getElem?_eq_some_iff.mp e2).1
      unfold hungL at this
      rw [List.length_map, upto_len] at this
      exact this
    have e3 : x.2.1 = toolsAt ws (i : Int) := by
      have z := at_up (toolsAt ws) (n := n) (h := (i : Int)) (by omega) (by omega)
      rw [atI_cast] at z
      unfold hungL at e2
      rw [e2] at z
      exact Option.some.inj z
    have l := O.lo (i : Int) (by omega) (by omega)
    rw [Q.pe, e1, (peg_at O.sm (by omega) (by omega)).1, Option.bind_some, e3, toolsAt_len, if_neg (by rw [decide_eq_true_eq]; omega)]
theorem StandD_eq (O : Ok n pegs lanes ws) (Q : StOk n pegs lanes st) : f_StandingD_tt st ws = some (mkS st ws) ∧ f_StandingD_lt st ws = some (mkS st ws) ∧ f_StandingD_ll st ws = some (mkS st ws) := by
  have hn := O.pn Q.pe
  have hu : st.pegs.length = n := by rw [Q.pe, O.sm.pl]
  have hc : f_check_loads st (hungL st.pegs.length ws) = some () := by
    rw [hu]
    exact check_loads_eq O Q
  refine ⟨?_, ?_, ?_⟩
  · unfold f_StandingD_tt f_Standing_init_tt m_Standing_init_tt
    have h1 : f_checked_ways_tt st ws = some ws := by
      unfold f_checked_ways_tt m_checked_ways_tt
      rw [ways_unit O Q]
      rfl
    rw [if_neg (by decide), h1, Option.bind_some, Option.bind_some, hanging_eq hn, Option.bind_some, wants_eq, Option.bind_some, if_pos (by decide), hc]
    rfl
  · unfold f_StandingD_lt f_Standing_init_lt m_Standing_init_lt
    have h1 : f_checked_ways_lt st ws = some ws := by
      unfold f_checked_ways_lt m_checked_ways_lt
      rw [ways_unit O Q]
      rfl
    rw [if_neg (by decide), h1, Option.bind_some, Option.bind_some, hanging_eq hn, Option.bind_some, wants_eq, Option.bind_some, if_pos (by decide), hc]
    rfl
  · unfold f_StandingD_ll f_Standing_init_ll m_Standing_init_ll
    have h1 : f_checked_ways_ll st ws = some ws := by
      unfold f_checked_ways_ll m_checked_ways_ll
      rw [ways_unit O Q]
      rfl
    rw [if_neg (by decide), h1, Option.bind_some, Option.bind_some, hanging_eq hn, Option.bind_some, wants_eq, Option.bind_some, if_pos (by decide), hc]
    rfl
end
end Pg
set_option Elab.async false
set_option linter.all false
set_option maxRecDepth 100000
set_option maxHeartbeats 400000
namespace Pg
open L2

section
variable {n : Nat} {pegs : List Int} {lanes : List (Int × Int × Unit)} {ws : List (List Int)} {st : StreetD}
theorem load_home {ws : List (List Int)} (h : ∀ w ∈ ws, w.length = 1) (x : Int) : load ws x = 0 := by
  unfold load
  rw [List.filter_eq_nil_iff.mpr fun w hw => by
    unfold isAt
    rw [decide_eq_false (by have := h w hw; omega), Bool.false_and]
    exact fun z => nomatch z]
  rfl
theorem outs_home : ∀ {ws : List (List Int)}, (∀ w ∈ ws, w.length = 1) → outs ws = 0
  | [], _ => rfl
  | w :: ws, h => by
    show (w.length - 1) + outs ws = 0
    rw [h w List.mem_cons_self, outs_home fun x hx => h x (List.mem_cons_of_mem _ hx)]
theorem ok_home {n : Nat} {pegs : List Int} {lanes : List (Int × Int × Unit)} {ws : List (List Int)} (hl : pegs.length = n) (hn : n ≤ 14) (hp : ∀ p ∈ pegs, 1 ≤ p) (hw : ws.length ≤ 100) (h1 : ∀ w ∈ ws, w.length = 1) (hr : ∀ w ∈ ws, ∀ h ∈ w, 0 ≤ h ∧ h < (n : Int)) (la : ∀ p ∈ lanes, p.1 ≠ p.2.1) : Ok n pegs lanes ws :=
  ⟨⟨hl, hn, hp, hw, fun w hw => by have := h1 w hw; omega⟩, fun h _ _ => by rw [load_home h1]; omega, fun w hw => by have := h1 w hw; omega, hr, fun w hw i hi => by have := h1 w hw; omega, la⟩
theorem lot_home (O : Ok n pegs lanes ws) (h1 : ∀ w ∈ ws, w.length = 1) : lotW n (pgOf pegs) ws = [] := by
  refine List.eq_nil_iff_forall_not_mem.mpr fun h hh => ?_
  obtain ⟨a, b, c⟩ := lotW_full hh
  rw [load_home h1] at c
  have := (peg_at O.sm a b).2
  omega
theorem past_home (O : Ok n pegs lanes ws) (hp : st.pegs = pegs) (h1 : ∀ w ∈ ws, w.length = 1) : f_pastN (mkS st ws) = some ⟨some [], []⟩ := by
  have hsl : f_steps_left (mkS st ws) (ones ws) = some (0 : Int) := by
    unfold f_steps_left m_steps_left
    show some (((zipL ws (ones ws)).map fun (x1 : (List Int × Int × Unit)) => ((x1.1.length : Int) - x1.2.1)).sum) = _
    rw [zip_ones, List.map_map]
    have z := sum_outs O.ne
    rw [outs_home h1] at z
    exact congrArg some z
  have hc : f_coming_row (mkS st ws) (ones ws) = some (some []) := by
    unfold f_coming_row m_coming_row
    rw [lot_against_eq O hp, Option.bind_some, lot_home O h1, if_neg (by decide), hsl, Option.bind_some, show rngO 0 (0 : Int) = some [] from rfl]
    rfl
  have hm : f_mirror (mkS st ws) [] = some [] := rfl
  unfold f_pastN f_past m_past
  rw [goal_of_eq, Option.bind_some, house_short_eq O hp (.inr h1), Option.bind_some, if_neg (by simp), hc, Option.bind_some, if_neg (by simp), Option.bind_some, hm]
  rfl
theorem home_eq (xs : List Int) (O : Ok n pegs lanes (xs.map fun x => [x])) (Q : StOk n pegs lanes st) : f_Standing_home () st xs = some (mkS st (xs.map fun x => [x])) := by
  unfold f_Standing_home m_Standing_home
  rw [(StandD_eq O Q).2.1]
  rfl
theorem heads_eq (O : Ok n pegs lanes ws) : ∃ xs : List Int, mapO (fun (x77 : List Int) => ((atI x77 (0 : Int)).bind fun d78 => some d78)) ws = some xs ∧ xs.map (fun x => [x]) = ws.map (fun w => w.take 1) := by
  refine ⟨ws.map fun w => w.getD 0 0, mapO_ok fun w hw => ?_, ?_⟩
  · have := O.ne w hw
    rw [show (0 : Int) = ((0 : Nat) : Int) from rfl, atI_cast, getD_some this]
    rfl
  · rw [List.map_map]
    refine List.map_congr_left fun w hw => ?_
    have := O.ne w hw
    cases w with
    | nil => simp at this
    | cons a t => rfl
theorem numbers_eq (xs : List Int) : f_L_are_numbers xs = some true := by
  unfold f_L_are_numbers m_L_are_numbers
  rw [if_pos rfl, mapO_ok (f := fun (x1 : Int) => ((f_L_whole x1).bind fun d2 => some d2)) (g := fun _ => true) fun x _ => rfl, Option.bind_some, Option.bind_some]
  show some ((xs.map fun _ => true).all id) = some true
  congr 1
  rw [List.all_eq_true]
  intro b hb
  obtain ⟨_, _, e⟩ := List.mem_map.mp hb
  rw [← e]
  rfl
theorem pairs_eq (xs : List (Int × Int × Unit)) : f_L_are_pairs xs = some true := by
  unfold f_L_are_pairs m_L_are_pairs
  rw [if_neg (by decide), mapO_ok (f := fun (x2 : (Int × Int × Unit)) => ((if true = true then (if (decide ((2 : Int) = (2 : Int))) = true then ((f_L_whole x2.1).bind fun d3 => (if d3 = true then ((f_L_whole x2.2.1).bind fun d5 => some d5) else some false)) else some false) else some false).bind fun d7 => some d7)) (g := fun _ => true) fun x _ => rfl, Option.bind_some]
  show some ((xs.map fun _ => true).all id) = some true
  congr 1
  rw [List.all_eq_true]
  intro b hb
  obtain ⟨_, _, e⟩ := List.mem_map.mp hb
  rw [← e]
  rfl
theorem told_none (lot : List Int) : f_L_told ⟨none, lot⟩ none lot = some true := by
  unfold f_L_told m_L_told
  rw [if_neg (by decide)]
  show retO (((f_L_are_numbers lot).bind fun d1 => (if (!d1) = true then some true else some (!decide (lot = lot)))).bind _) = _
  rw [numbers_eq, Option.bind_some, if_neg (by decide), decide_eq_true rfl]
  rfl
theorem told_some (ps : List (Int × Int × Unit)) : f_L_told ⟨some ps, []⟩ (some ps) [] = some true := by
  unfold f_L_told m_L_told
  rw [if_neg (by decide)]
  show retO (((f_L_are_numbers []).bind fun d1 => (if (!d1) = true then some true else some (!decide (([] : List Int) = [])))).bind _) = _
  rw [numbers_eq, Option.bind_some, if_neg (by decide), decide_eq_true rfl, Option.bind_some, if_neg (by decide), if_neg (by simp)]
  show retO ((some ps).bind _) = _
  rw [Option.bind_some, pairs_eq, Option.bind_some, if_pos rfl, Option.bind_some]
  show retO ((if decide ((some ps : Option (List (Int × Int × Unit))) = some ps) = true then _ else _ : Option Bool).bind _) = _
  rw [if_pos (decide_eq_true rfl)]
  rfl
end
end Pg
set_option Elab.async false
set_option linter.all false
set_option maxRecDepth 100000
set_option maxHeartbeats 400000
namespace Pg
open L2

theorem build_eq {n : Nat} {pegs : List Int} {lanes : List (Int × Int × Unit)} {ws : List (List Int)} (O : Ok n pegs lanes ws) (hp : ∀ p ∈ pegs, 1 ≤ p ∧ p ≤ 9) (L : LaneOk n lanes) (h61 : lanes.length ≤ 61) (f : Int) : ∃ st, StOk n pegs lanes st ∧ f_L_build (pegs, lanes, ()) ws f = some (mkS st ws) := by
  unfold f_L_build m_L_build
  by_cases e : f = 0
  · obtain ⟨st, h1, _, Q⟩ := street_any (ls := lanes) O.sm.pl O.sm.nb hp (fun _ => Iff.rfl) L (by omega)
    refine ⟨st, Q, ?_⟩
    rw [if_pos (decide_eq_true e)]
    show retO ((f_Street_init_t pegs lanes).bind _) = _
    rw [h1, Option.bind_some, (StandD_eq O Q).1]
    rfl
  · have hl : (lanes.reverse ++ lanes.take 2).length < 64 := by
      rw [List.length_append, List.length_reverse, List.length_take]
      omega
    obtain ⟨st, _, h1, Q⟩ := street_any (ls := lanes.reverse ++ lanes.take 2) O.sm.pl O.sm.nb hp (fun p => by
      rw [List.mem_append, List.mem_reverse]
      exact ⟨fun h => h.elim id List.mem_of_mem_take, .inl⟩) L hl
    refine ⟨st, Q, ?_⟩
    rw [if_neg (by rw [decide_eq_true_eq]; exact e)]
    show retO ((catO lanes.reverse (cutD lanes none (some (2 : Int)))).bind _) = _
    have hc : cutD lanes none (some (2 : Int)) = lanes.take 2 := cut_take lanes 2
    rw [hc, catO_ok (by rw [List.length_reverse, List.length_take]; omega), Option.bind_some]
    have hm : ((lanes.reverse ++ lanes.take 2).map fun (x8 : (Int × Int × Unit)) => (x8.1, x8.2.1, ())) = lanes.reverse ++ lanes.take 2 := List.map_id'' (fun _ => rfl) _
    rw [hm]
    show retO ((f_Street_init_l pegs (lanes.reverse ++ lanes.take 2)).bind _) = _
    rw [h1, Option.bind_some, List.map_id'' (fun _ => rfl), (StandD_eq O Q).2.2]
    rfl
end Pg
set_option Elab.async false
set_option linter.all false
set_option maxRecDepth 100000
set_option maxHeartbeats 400000
namespace Pg
open L2

section
variable {n : Nat} {pegs : List Int} {lanes : List (Int × Int × Unit)} {ws : List (List Int)}
theorem lent_here_eq (O : Ok n pegs lanes ws) {x : Int} (h0 : 0 ≤ x) (h1 : x < (ws.length : Int)) : f_L_lent_here (pegs, lanes, ()) ws x = some (canB (pgOf pegs) ws x) := by
  have a := way_at h0 h1
  have hk : ws[x.toNat]? = some (wat ws x) := by
    have z := a.1
    rw [atI_nn _ h0] at z
    exact z
  have ex : x = ((x.toNat : Nat) : Int) := by omega
  have hwl := O.sm.wl
  unfold f_L_lent_here m_L_lent_here
  rw [a.1, Option.bind_some]
  by_cases l : (wat ws x).length < 2
  · rw [if_pos (decide_eq_true (by omega))]
    unfold canB
    rw [decide_eq_false (show ¬ 1 < (wat ws x).length by omega)]
    rfl
  · have hl : 1 < (wat ws x).length := by omega
    have hb : f_L_back ws x = some (bk ws x.toNat) := by
      have z := L_back_eq (ws := ws) (by omega) x.toNat
      rw [← ex] at z
      exact z
    have hd : atI (bk ws x.toNat) x = some (wat ws x).dropLast := by
      rw [atI_nn _ h0, bk_get, if_pos rfl, hk]
      rfl
    obtain ⟨s0, s1⟩ := O.snd a.2 hl
    have lb := load_bk hk hl (wsnd (wat ws x))
    have ne := O.la _ (O.lane a.2 hl)
    rw [b1_f (b := isAt (wsnd (wat ws x)) (wat ws x)) (by unfold isAt; simp; exact fun _ q => ne q.symm)] at lb
    have fin : canB (pgOf pegs) ws x = true → f_L_can_lend (pegs, lanes, ()) (bk ws x.toNat) x (wtop (wat ws x)) = some true := fun hc => by
      have cr : CanRet (pgOf pegs) ws (wat ws x) := (canB_iff hk).mp (by rw [← ex]; exact hc)
      have z := L_can_lend_at O hk cr
      rw [← ex] at z
      exact z
    rw [if_neg (by rw [decide_eq_true_eq]; omega), hb, Option.bind_some, hd, Option.bind_some, atI_m1 (by rw [List.length_dropLast]; omega), wtop_drop hl, Option.bind_some, Option.bind_some]
    by_cases l2 : (wat ws x).length = 2
    · rw [if_neg (by rw [decide_eq_true_eq, List.length_dropLast]; omega), Option.bind_some, if_neg (by decide), Option.bind_some, atI_m1 (by omega), Option.bind_some]
      have hc : canB (pgOf pegs) ws x = true := by
        unfold canB
        rw [decide_eq_true hl, decide_eq_true l2]
        rfl
      rw [fin hc, hc]
      rfl
    · rw [b1_t (b := decide (2 < (wat ws x).length) && decide (wsnd (wat ws x) = wsnd (wat ws x))) (by simp; omega)] at lb
      rw [if_pos (decide_eq_true (by rw [List.length_dropLast]; omega)), L_load_eq, Option.bind_some]
      show retO ((((atI pegs (wsnd (wat ws x))).bind _)).bind _) = _
      rw [(peg_at O.sm s0 s1).1, Option.bind_some, Option.bind_some]
      have ec : canB (pgOf pegs) ws x = decide (load ws (wsnd (wat ws x)) < pgOf pegs (wsnd (wat ws x))) := by
        unfold canB
        rw [decide_eq_true hl, decide_eq_false l2]
        rfl
      by_cases q : load ws (wsnd (wat ws x)) < pgOf pegs (wsnd (wat ws x))
      · have hc : canB (pgOf pegs) ws x = true := by rw [ec, decide_eq_true q]
        rw [if_neg (by rw [decide_eq_true_eq]; omega), Option.bind_some, atI_m1 (by omega), Option.bind_some, fin hc, hc]
        rfl
      · rw [if_pos (decide_eq_true (by omega)), ec, decide_eq_false q]
        rfl
end
end Pg
set_option Elab.async false
set_option linter.all false
set_option maxRecDepth 100000
set_option maxHeartbeats 400000
namespace Pg
open L2

/-! ### stages -/
def cutW : List (List Int) → List Int → List (List Int)
  | w :: ws, m :: ms => w.take m.toNat :: cutW ws ms
  | _, _ => []
def dec : List Int → Nat → List Int
  | [], _ => []
  | m :: ms, 0 => (m - 1) :: ms
  | m :: ms, k + 1 => m :: dec ms k
def stageW (ws : List (List Int)) : List Int := ws.map fun w => (w.length : Int)
theorem cutW_len : ∀ {ws : List (List Int)} {ms : List Int}, ms.length = ws.length → (cutW ws ms).length = ws.length
  | [], [], _ => rfl
  | w :: ws, m :: ms, h => by
    show (cutW ws ms).length + 1 = _
    rw [cutW_len (by simpa using h), List.length_cons]
theorem cutW_get : ∀ {ws : List (List Int)} {ms : List Int} {i : Nat} {w : List Int} {m : Int}, ws[i]? = some w → ms[i]? = some m → (cutW ws ms)[i]? = some (w.take m.toNat)
  | [], _, i, w, m, h, _ => by simp at h
  | _ :: _, [], i, w, m, _, h => by simp at h
  | x :: ws, y :: ms, 0, w, m, h1, h2 => by
    simp at h1 h2
    subst h1 h2
    rfl
  | x :: ws, y :: ms, i + 1, w, m, h1, h2 => by
    show (cutW ws ms)[i]? = _
    exact cutW_get (by simpa using h1) (by simpa using h2)
theorem dec_len : ∀ (ms : List Int) (k : Nat), (dec ms k).length = ms.length
  | [], _ => rfl
  | _ :: _, 0 => rfl
  | _ :: ms, k + 1 => by
    show (dec ms k).length + 1 = _
    rw [dec_len ms k, List.length_cons]
theorem dec_get : ∀ (ms : List Int) (k i : Nat), (dec ms k)[i]? = if i = k then ms[i]?.map (· - 1) else ms[i]?
  | [], k, i => by
    show ([] : List Int)[i]? = _
    simp
  | w :: ms, 0, i => by
    show ((w - 1) :: ms)[i]? = _
    cases i with
    | zero => simp
    | succ i => simp
  | w :: ms, k + 1, i => by
    show (w :: dec ms k)[i]? = _
    cases i with
    | zero => simp
    | succ i =>
      rw [List.getElem?_cons_succ, dec_get ms k i, List.getElem?_cons_succ]
      by_cases e : i = k
      · rw [if_pos e, if_pos (by omega)]
      · rw [if_neg e, if_neg (by omega)]
theorem cut_stage : ∀ ws : List (List Int), cutW ws (stageW ws) = ws
  | [] => rfl
  | w :: ws => by
    show w.take (w.length : Int).toNat :: cutW ws (stageW ws) = _
    rw [Int.toNat_natCast, List.take_length, cut_stage ws]
/-- 1 <= m_i <= the way's length -/
def Fits (ws : List (List Int)) (ms : List Int) : Prop := ms.length = ws.length ∧ ∀ (i : Nat) (w : List Int) (m : Int), ws[i]? = some w → ms[i]? = some m → 1 ≤ m ∧ m ≤ (w.length : Int)
theorem cut_dec {ws : List (List Int)} {ms : List Int} (F : Fits ws ms) (k : Nat) : cutW ws (dec ms k) = bk (cutW ws ms) k := by
  refine List.ext_getElem? fun i => ?_
  rw [bk_get]
  by_cases hi : i < ws.length
  · have hw : ws[i]? = some ws[i] := List.getElem?_eq_getElem hi
    have hme : ∃ m, ms[i]? = some m := ⟨_, List.getElem?_eq_getElem (by rw [F.1]; exact hi)⟩
    obtain ⟨m, hm⟩ := hme
    obtain ⟨f1, f2⟩ := F.2 i _ _ hw hm
    rw [cutW_get hw hm]
    by_cases e : i = k
    · rw [if_pos e, cutW_get (m := m - 1) hw (by rw [dec_get, if_pos e, hm] <;> rfl)]
      show some (ws[i].take (m - 1).toNat) = some ((ws[i].take m.toNat).dropLast)
      rw [List.dropLast_eq_take, List.take_take, List.length_take]
      congr 2
      omega
    · rw [if_neg e, cutW_get hw (by rw [dec_get, if_neg e, hm])]
  · rw [List.getElem?_eq_none (by rw [cutW_len (by rw [dec_len]; exact F.1)]; omega), List.getElem?_eq_none (by rw [cutW_len F.1]; omega)]
    split <;> rfl
theorem L_stage_eq (ws : List (List Int)) : f_L_stage ws = some (stageW ws) := rfl
end Pg
set_option Elab.async false
set_option linter.all false
set_option maxRecDepth 100000
set_option maxHeartbeats 400000
namespace Pg
open L2

/-! ### how many stages there are -/
theorem sub_len {α : Type} [DecidableEq α] : ∀ {l m : List α}, l.Nodup → (∀ x ∈ l, x ∈ m) → l.length ≤ m.length
  | [], m, _, _ => Nat.zero_le _
  | x :: l, m, hn, h => by
    obtain ⟨h1, h2⟩ := List.nodup_cons.mp hn
    have hx := h x List.mem_cons_self
    have ih := sub_len (l := l) (m := m.erase x) h2 fun y hy => (List.mem_erase_of_ne (fun e => h1 (by rw [← e]; exact hy))).mpr (h y (List.mem_cons_of_mem _ hy))
    rw [List.length_erase_of_mem hx] at ih
    have := List.length_pos_of_mem hx
    rw [List.length_cons]
    omega
def box : List (List Int) → List (List Int)
  | [] => [[]]
  | w :: ws => (List.range w.length).flatMap fun i : Nat => (box ws).map fun ms => ((i : Int) + 1) :: ms
def prodW (ws : List (List Int)) : Nat := ws.foldl (fun s w => s * w.length) 1
theorem foldl_mul : ∀ (ws : List (List Int)) (a : Nat), ws.foldl (fun s w => s * w.length) a = a * prodW ws
  | [], a => by
    show a = a * 1
    omega
  | w :: ws, a => by
    unfold prodW
    rw [List.foldl_cons, List.foldl_cons, foldl_mul ws (a * w.length), foldl_mul ws (1 * w.length), Nat.one_mul, Nat.mul_assoc]
theorem flat_const {β : Type} (c : Nat) {f : Nat → List β} (h : ∀ i, (f i).length = c) : ∀ l : List Nat, (l.flatMap f).length = l.length * c
  | [] => by simp
  | x :: l => by
    rw [List.flatMap_cons, List.length_append, h x, flat_const c h l, List.length_cons, Nat.succ_mul]
    omega
theorem box_len : ∀ ws : List (List Int), (box ws).length = prodW ws
  | [] => rfl
  | w :: ws => by
    unfold box
    rw [flat_const (box ws).length (fun i => List.length_map _), List.length_range, box_len ws]
    show w.length * prodW ws = (w :: ws).foldl (fun s w => s * w.length) 1
    rw [List.foldl_cons, foldl_mul, Nat.one_mul]
theorem fits_box : ∀ {ws : List (List Int)} {ms : List Int}, Fits ws ms → ms ∈ box ws
  | [], [], _ => List.mem_cons_self
  | [], _ :: _, h => by
    have := h.1
    simp at this
  | _ :: _, [], h => by
    have := h.1
    simp at this
  | w :: ws, m :: ms, h => by
    obtain ⟨f1, f2⟩ := h.2 0 w m rfl rfl
    have ih : ms ∈ box ws := fits_box ⟨by have := h.1; simpa using this, fun i x y hx hy => h.2 (i + 1) x y (by simpa using hx) (by simpa using hy)⟩
    refine List.mem_flatMap.mpr ⟨(m - 1).toNat, List.mem_range.mpr (by omega), List.mem_map.mpr ⟨ms, ih, ?_⟩⟩
    congr 1
    omega
end Pg
set_option Elab.async false
set_option linter.all false
set_option maxRecDepth 100000
set_option maxHeartbeats 400000
namespace Pg
open L2

/-! ### a lot never moves -/
theorem lot_kept {n : Nat} {pg : Int → Nat} {ws : List (List Int)} {A : Int → Bool} {k : Nat} {w : List Int} (L : IsLot n pg ws A) (hk : ws[k]? = some w) (c : CanRet pg ws w) : IsLot n pg (bk ws k) A := by
  obtain ⟨h1, h2⟩ := c
  have hm : w ∈ ws := List.mem_of_getElem? hk
  have lb := load_bk hk h1
  have ntop : A (wtop w) = false := by
    refine Bool.eq_false_iff.mpr fun e => ?_
    obtain ⟨a, b⟩ := L.want w hm h1 e
    have f := (L.full _ b).2.2
    rcases h2 with h2 | h2
    · omega
    · omega
  have nsnd : 2 < w.length → A (wsnd w) = false := fun l => by
    refine Bool.eq_false_iff.mpr fun e => ?_
    have f := (L.full _ e).2.2
    rcases h2 with h2 | h2
    · omega
    · omega
  refine ⟨fun h e => ?_, fun x hx hx1 e => ?_⟩
  · obtain ⟨f1, f2, f3⟩ := L.full h e
    refine ⟨f1, f2, ?_⟩
    have z := lb h
    rw [b1_f (b := isAt h w) (by
      unfold isAt
      refine Bool.eq_false_iff.mpr fun q => ?_
      simp at q
      rw [← q.2, ntop] at e
      cases e), b1_f (b := decide (2 < w.length) && decide (wsnd w = h)) (by
      refine Bool.eq_false_iff.mpr fun q => ?_
      simp at q
      rw [← q.2, nsnd q.1] at e
      cases e)] at z
    omega
  · rcases bk_mem hk x hx with q | q
    · rw [q] at hx1 e
      rw [List.length_dropLast] at hx1
      rw [wtop_drop h1, nsnd (by omega)] at e
      cases e
    · exact L.want x q hx1 e
/-- stages that legal returns reach -/
inductive Rch (pg : Int → Nat) (ws : List (List Int)) : List Int → Prop where
  | home : Rch pg ws (stageW ws)
  | step {ms : List Int} {k : Nat} {w : List Int} (h : Rch pg ws ms) (hk : (cutW ws ms)[k]? = some w) (c : CanRet pg (cutW ws ms) w) : Rch pg ws (dec ms k)
theorem fits_stage {ws : List (List Int)} (ne : ∀ w ∈ ws, 0 < w.length) : Fits ws (stageW ws) := by
  refine ⟨by unfold stageW; rw [List.length_map], fun i w m hw hm => ?_⟩
  unfold stageW at hm
  rw [List.getElem?_map, hw] at hm
  have e : (w.length : Int) = m := Option.some.inj hm
  have := ne w (List.mem_of_getElem? hw)
  omega
theorem fits_dec {ws : List (List Int)} {ms : List Int} {k : Nat} {w : List Int} (F : Fits ws ms) (hk : (cutW ws ms)[k]? = some w) (h1 : 1 < w.length) : Fits ws (dec ms k) := by
  refine ⟨by rw [dec_len]; exact F.1, fun i x m hx hm => ?_⟩
  rw [dec_get] at hm
  by_cases e : i = k
  · rw [if_pos e] at hm
    subst e
    cases q : ms[i]? with
    | none =>
      rw [q] at hm
      cases hm
    | some y =>
      rw [q] at hm
      have em : y - 1 = m := Option.some.inj hm
      obtain ⟨f1, f2⟩ := F.2 i x y hx q
      rw [cutW_get hx q] at hk
      have ew : x.take y.toNat = w := Option.some.inj hk
      rw [← ew, List.length_take] at h1
      omega
  · rw [if_neg e] at hm
    exact F.2 i x m hx hm
theorem rch_fits {pg : Int → Nat} {ws : List (List Int)} (ne : ∀ w ∈ ws, 0 < w.length) {ms : List Int} (h : Rch pg ws ms) : Fits ws ms := by
  induction h with
  | home => exact fits_stage ne
  | step h hk c ih => exact fits_dec ih hk c.1
theorem rch_ok {n : Nat} {pegs : List Int} {lanes : List (Int × Int × Unit)} {ws : List (List Int)} (O : Ok n pegs lanes ws) {ms : List Int} (h : Rch (pgOf pegs) ws ms) : Ok n pegs lanes (cutW ws ms) := by
  induction h with
  | home =>
    rw [cut_stage]
    exact O
  | step h hk c ih =>
    rw [cut_dec (rch_fits O.ne h)]
    exact ih.back hk c
theorem rch_lot {n : Nat} {pg : Int → Nat} {ws : List (List Int)} {A : Int → Bool} (ne : ∀ w ∈ ws, 0 < w.length) (L : IsLot n pg ws A) {ms : List Int} (h : Rch pg ws ms) : IsLot n pg (cutW ws ms) A := by
  induction h with
  | home =>
    rw [cut_stage]
    exact L
  | step h hk c ih =>
    rw [cut_dec (rch_fits ne h)]
    exact lot_kept ih hk c
theorem cut_ones_len : ∀ {ws : List (List Int)}, ∀ w ∈ cutW ws (ones ws), w.length ≤ 1
  | [], w, h => by cases h
  | x :: ws, w, h => by
    rcases List.mem_cons.mp (show w ∈ x.take (1 : Int).toNat :: cutW ws (ones ws) from h) with e | e
    · rw [e, List.length_take]
      show min 1 _ ≤ 1
      omega
    · exact cut_ones_len w e
theorem rch_not {n : Nat} {pegs : List Int} {lanes : List (Int × Int × Unit)} {ws : List (List Int)} (O : Ok n pegs lanes ws) (hl : lotW n (pgOf pegs) ws ≠ []) : ¬ Rch (pgOf pegs) ws (ones ws) := fun h => by
  refine hl (lot_nil.mpr fun A L x => Bool.eq_false_iff.mpr fun e => ?_)
  obtain ⟨f1, f2, f3⟩ := (rch_lot O.ne L h).full x e
  have p := (peg_at O.sm f1 f2).2
  obtain ⟨w, hw, hw1, _⟩ := load_pos (ws := cutW ws (ones ws)) (h := x) (by omega)
  have := cut_ones_len w hw
  omega
theorem outs_ones : ∀ {ws : List (List Int)} {ms : List Int}, Fits ws ms → outs (cutW ws ms) = 0 → ms = ones ws
  | [], [], _, _ => rfl
  | [], _ :: _, h, _ => by
    have := h.1
    simp at this
  | _ :: _, [], h, _ => by
    have := h.1
    simp at this
  | w :: ws, m :: ms, h, e => by
    obtain ⟨f1, f2⟩ := h.2 0 w m rfl rfl
    have e2 : (w.take m.toNat).length - 1 + outs (cutW ws ms) = 0 := e
    rw [List.length_take] at e2
    have ih : ms = ones ws := outs_ones ⟨by have := h.1; simpa using this, fun i x y hx hy => h.2 (i + 1) x y (by simpa using hx) (by simpa using hy)⟩ (by omega)
    rw [ih]
    show m :: ones ws = 1 :: ones ws
    congr 1
    omega
theorem rets_rch {n : Nat} {pg : Int → Nat} {ws : List (List Int)} (ne : ∀ w ∈ ws, 0 < w.length) {u v : List (List Int)} {xs : List Int} (R : Rets n pg u xs v) : ∀ {ms : List Int}, Rch pg ws ms → cutW ws ms = u → ∃ ms', Rch pg ws ms' ∧ cutW ws ms' = v := by
  induction R with
  | nil => exact fun h e => ⟨_, h, e⟩
  | cons hk c N f t ih =>
    intro ms h e
    subst e
    exact ih (.step h hk c) (cut_dec (rch_fits ne h) _)
theorem rch_home {n : Nat} {pegs : List Int} {lanes : List (Int × Int × Unit)} {ws : List (List Int)} (O : Ok n pegs lanes ws) (P2 : ∀ p ∈ pegs, 2 ≤ p) (hl : lotW n (pgOf pegs) ws = []) : Rch (pgOf pegs) ws (ones ws) := by
  obtain ⟨v, R, h0⟩ := rets_of P2 _ O (lot_nil.mp hl) rfl
  obtain ⟨ms, h, e⟩ := rets_rch O.ne R .home (cut_stage ws)
  rw [← e] at h0
  rw [← outs_ones (rch_fits O.ne h) h0]
  exact h
end Pg
set_option Elab.async false
set_option linter.all false
set_option maxRecDepth 100000
set_option maxHeartbeats 400000
namespace Pg
open L2

theorem getD_at {xs : List Int} {i : Nat} (h : i < xs.length) : xs.getD i 0 = xs[i] := by
  rw [List.getD_eq_getElem?_getD, List.getElem?_eq_getElem h] <;> rfl
theorem L_next_eq {ms : List Int} (h : ms.length ≤ 100000) (k : Nat) : f_L_next ms (k : Int) = some (dec ms k) := by
  unfold f_L_next m_L_next
  rw [rng_ok h, Option.bind_some, mapO_upto (g := fun i => ms.getD i 0 - if i = k then 1 else 0) fun i hi => by
    rw [atI_cast, List.getElem?_eq_getElem hi, Option.bind_some, getD_at hi]
    by_cases q : i = k
    · rw [if_pos q, if_pos (decide_eq_true (by omega))]
    · rw [if_neg q, if_neg (by rw [decide_eq_true_eq]; omega)], Option.bind_some]
  show some _ = some _
  congr 1
  refine List.ext_getElem? fun i => ?_
  rw [dec_get, List.getElem?_map]
  by_cases hi : i < ms.length
  · rw [List.getElem?_range hi, List.getElem?_eq_getElem hi]
    show some (ms.getD i 0 - if i = k then 1 else 0) = _
    rw [getD_at hi]
    by_cases q : i = k
    · rw [if_pos q, if_pos q]
      rfl
    · rw [if_neg q, if_neg q, Int.sub_zero]
  · rw [List.getElem?_eq_none (by rw [List.length_range]; omega), List.getElem?_eq_none (by omega)]
    split <;> rfl
theorem L_cut_eq {ws : List (List Int)} {ms : List Int} (h : ws.length ≤ 100000) (F : Fits ws ms) : f_L_cut ws ms = some (cutW ws ms) := by
  unfold f_L_cut m_L_cut
  rw [rng_ok h, Option.bind_some, mapO_upto (g := fun i => (ws.getD i []).take (ms.getD i 0).toNat) fun i hi => by
    have hj : i < ms.length := by rw [F.1]; exact hi
    have f := (F.2 i _ _ (List.getElem?_eq_getElem hi) (List.getElem?_eq_getElem hj)).1
    have e : ws.getD i [] = ws[i] := by rw [List.getD_eq_getElem?_getD, List.getElem?_eq_getElem hi] <;> rfl
    rw [atI_cast, List.getElem?_eq_getElem hi, Option.bind_some, atI_cast, List.getElem?_eq_getElem hj, Option.bind_some, getD_at hj, e]
    show some (cutD ws[i] none (some ms[i])) = _
    have em : ms[i] = ((ms[i].toNat : Nat) : Int) := by omega
    rw [em, cut_take, Int.toNat_natCast], Option.bind_some]
  show some _ = some _
  congr 1
  refine List.ext_getElem? fun i => ?_
  rw [List.getElem?_map]
  by_cases hi : i < ws.length
  · have hj : i < ms.length := by rw [F.1]; exact hi
    have e : ws.getD i [] = ws[i] := by rw [List.getD_eq_getElem?_getD, List.getElem?_eq_getElem hi] <;> rfl
    rw [List.getElem?_range hi, cutW_get (List.getElem?_eq_getElem hi) (List.getElem?_eq_getElem hj)]
    show some ((ws.getD i []).take (ms.getD i 0).toNat) = _
    rw [getD_at hj, e]
  · rw [List.getElem?_eq_none (by rw [List.length_range]; omega), List.getElem?_eq_none (by rw [cutW_len F.1]; omega)]
    rfl
end Pg
set_option Elab.async false
set_option linter.all false
set_option maxRecDepth 100000
set_option maxHeartbeats 400000
namespace Pg
open L2

/-! ### all that can be lent from home, backward -/
def ClosedAt (pg : Int → Nat) (ws : List (List Int)) (s : List (List Int)) (m : List Int) : Prop := ∀ (k : Nat) (w : List Int), (cutW ws m)[k]? = some w → CanRet pg (cutW ws m) w → dec m k ∈ s
section
variable {n : Nat} {pegs : List Int} {lanes : List (Int × Int × Unit)} {ws : List (List Int)}
theorem found_len (ne : ∀ w ∈ ws, 0 < w.length) {pg : Int → Nat} {s : List (List Int)} (hn : s.Nodup) (hr : ∀ m ∈ s, Rch pg ws m) : s.length ≤ prodW ws := by
  rw [← box_len]
  exact sub_len hn fun m hm => fits_box (rch_fits ne (hr m hm))
structure FI (pg : Int → Nat) (ws : List (List Int)) (s0 : List (List Int)) (m : List Int) (ds : List Int) (j : Nat) (s : List (List Int)) : Prop where
  pre : ∃ t, s = s0 ++ t
  nd : s.Nodup
  rc : ∀ m ∈ s, Rch pg ws m
  cl : ∀ i, i < j → ∀ x, ds[i]? = some x → canB pg (cutW ws m) x = true → dec m x.toNat ∈ s
theorem lf2_step (O : Ok n pegs lanes ws) (hp : prodW ws ≤ 200) {s0 : List (List Int)} {i : Nat} {m : List Int} (hm : s0[i]? = some m) (hr : Rch (pgOf pegs) ws m) {ds : List Int} (hd : ∀ x ∈ ds, 0 ≤ x ∧ x < (ws.length : Int) ∧ 1 < (wat (cutW ws m) x).length) {j : Nat} {x : Int} {s : List (List Int)} (hx : ds[j]? = some x) (h : FI (pgOf pegs) ws s0 m ds j s) : ∃ s', m_lf2 (pegs, lanes, ()) (i : Int) (cutW ws m) x s = some (.nx s') ∧ FI (pgOf pegs) ws s0 m ds (j + 1) s' := by
  obtain ⟨h0, h1, h2⟩ := hd x (List.mem_of_getElem? hx)
  have F := rch_fits O.ne hr
  have OC := rch_ok O hr
  have hwl := O.sm.wl
  have hcl : (cutW ws m).length = ws.length := cutW_len F.1
  have ex : x = ((x.toNat : Nat) : Int) := by omega
  have ati : ∀ {t : List (List Int)}, (∃ u, t = s0 ++ u) → atI t (i : Int) = some m := fun ⟨u, e⟩ => by
    rw [atI_cast, e, List.getElem?_append_left (List.getElem?_eq_some_iff.mp hm).1]
    exact hm
  have hnx : f_L_next m x = some (dec m x.toNat) := by
    have z := L_next_eq (ms := m) (by rw [F.1]; omega) x.toNat
    rw [← ex] at z
    exact z
  have ext : ∀ {s' : List (List Int)}, (∀ y ∈ s, y ∈ s') → (canB (pgOf pegs) (cutW ws m) x = true → dec m x.toNat ∈ s') → ∀ i, i < j + 1 → ∀ y, ds[i]? = some y → canB (pgOf pegs) (cutW ws m) y = true → dec m y.toNat ∈ s' := fun hs hc i hi y hy hb => by
    by_cases q : i = j
    · subst q
      rw [hx] at hy
      have e := Option.some.inj hy
      subst e
      exact hc hb
    · exact hs _ (h.cl i (by omega) y hy hb)
  unfold m_lf2
  rw [ati h.pre, Option.bind_some, hnx, Option.bind_some]
  by_cases hin : dec m x.toNat ∈ s
  · rw [decide_eq_true hin]
    exact ⟨s, rfl, h.pre, h.nd, h.rc, ext (fun _ a => a) fun _ => hin⟩
  · rw [decide_eq_false hin, if_pos (show (!false) = true from rfl), lent_here_eq OC h0 (by rw [hcl]; exact h1), Option.bind_some]
    cases hc : canB (pgOf pegs) (cutW ws m) x with
    | false => exact ⟨s, rfl, h.pre, h.nd, h.rc, ext (fun _ a => a) fun z => by rw [hc] at z; cases z⟩
    | true =>
      have a := way_at (ws := cutW ws m) h0 (by rw [hcl]; exact h1)
      have hk : (cutW ws m)[x.toNat]? = some (wat (cutW ws m) x) := by
        have z := a.1
        rw [atI_nn _ h0] at z
        exact z
      have hl := found_len O.ne h.nd h.rc
      rw [if_pos (show true = true from rfl), Option.bind_some, a.1, Option.bind_some, atI_m1 (by omega), Option.bind_some]
      unfold appO
      rw [if_pos (by omega)]
      refine ⟨s ++ [dec m x.toNat], rfl, ?_, ?_, fun y hy => ?_, ext (fun _ a => List.mem_append_left _ a) fun _ => List.mem_append_right _ List.mem_cons_self⟩
      · obtain ⟨t, e⟩ := h.pre
        exact ⟨t ++ [dec m x.toNat], by rw [e, List.append_assoc]⟩
      · refine List.nodup_append.mpr ⟨h.nd, List.nodup_cons.mpr ⟨List.not_mem_nil, List.nodup_nil⟩, fun a ha b hb e => ?_⟩
        rcases List.mem_singleton.mp hb with rfl
        exact hin (by rw [← e]; exact ha)
      · rcases List.mem_append.mp hy with q | q
        · exact h.rc y q
        · rcases List.mem_singleton.mp q with rfl
          refine .step hr hk ((canB_iff (k := x.toNat) hk).mp ?_)
          rw [← ex]
          exact hc
structure FO (pg : Int → Nat) (ws : List (List Int)) (i : Nat) (s : List (List Int)) : Prop where
  le : i ≤ s.length
  nd : s.Nodup
  rc : ∀ m ∈ s, Rch pg ws m
  st : stageW ws ∈ s
  cl : ∀ j, j < i → ∀ m, s[j]? = some m → ClosedAt pg ws s m
theorem lf1_step (O : Ok n pegs lanes ws) (hp : prodW ws ≤ 200) {i : Nat} {s : List (List Int)} (h : FO (pgOf pegs) ws i s) (hi : i < s.length) : ∃ s', m_lf1 (pegs, lanes, ()) ws (ones ws) (i : Int) s = some (.nx s') ∧ FO (pgOf pegs) ws (i + 1) s' := by
  have hm : s[i]? = some s[i] := List.getElem?_eq_getElem hi
  have hr := h.rc _ (List.getElem_mem hi)
  have F := rch_fits O.ne hr
  have hwl := O.sm.wl
  have hcl : (cutW ws s[i]).length = ws.length := cutW_len F.1
  unfold m_lf1
  rw [if_neg (by rw [decide_eq_true_eq]; omega), atI_cast, hm, Option.bind_some, L_cut_eq (by omega) F, Option.bind_some, rng_ok (by omega), Option.bind_some, filO_ok (q := fun x => decide (1 < (wat (cutW ws s[i]) x).length)) fun x hx => by
    obtain ⟨h0, h1⟩ := mem_upto.mp hx
    rw [(way_at (ws := cutW ws s[i]) h0 (by rw [hcl]; exact h1)).1, Option.bind_some, one_at h0 h1, Option.bind_some]
    congr 1
    exact decide_eq_decide.mpr (by omega), Option.bind_some]
  have hd : ∀ x ∈ (upto ws.length).filter fun x => decide (1 < (wat (cutW ws s[i]) x).length), 0 ≤ x ∧ x < (ws.length : Int) ∧ 1 < (wat (cutW ws s[i]) x).length := fun x hx => by
    obtain ⟨a, b⟩ := List.mem_filter.mp hx
    obtain ⟨h0, h1⟩ := mem_upto.mp a
    exact ⟨h0, h1, of_decide_eq_true b⟩
  obtain ⟨s', e, R⟩ := forO_inv (B := List (List Int)) (f := fun (x2 : Int) (s2 : List (List Int)) => m_lf2 (pegs, lanes, ()) (i : Int) (cutW ws s[i]) x2 s2) (FI (pgOf pegs) ws s s[i] ((upto ws.length).filter fun x => decide (1 < (wat (cutW ws s[i]) x).length))) (xs := (upto ws.length).filter fun x => decide (1 < (wat (cutW ws s[i]) x).length)) (j := 0) (s := s) (fun j x t hx ht => by
    rw [Nat.zero_add] at ht ⊢
    exact lf2_step O hp hm hr hd hx ht) ⟨⟨[], by rw [List.append_nil]⟩, h.nd, h.rc, fun j hj => absurd hj (Nat.not_lt_zero _)⟩
  rw [e]
  obtain ⟨t, et⟩ := R.pre
  have sub : ∀ y ∈ s, y ∈ s' := fun y hy => by
    rw [et]
    exact List.mem_append_left _ hy
  have gl : ∀ j, j < s.length → s'[j]? = s[j]? := fun j hj => by
    rw [et, List.getElem?_append_left hj]
  refine ⟨s', rfl, by rw [et, List.length_append]; omega, R.nd, R.rc, sub _ h.st, fun j hj m hm2 => ?_⟩
  rw [gl j (by omega)] at hm2
  by_cases q : j = i
  · subst q
    rw [hm] at hm2
    have em := Option.some.inj hm2
    subst em
    intro k w hk c
    have hlt := (List.getElem?_eq_some_iff.mp hk).1
    have hw := wat_of hk
    have hmem : (k : Int) ∈ (upto ws.length).filter fun x => decide (1 < (wat (cutW ws s[j]) x).length) := List.mem_filter.mpr ⟨mem_upto.mpr ⟨by omega, by omega⟩, decide_eq_true (by rw [hw]; exact c.1)⟩
    obtain ⟨r, hr2⟩ := List.mem_iff_getElem?.mp hmem
    have z := R.cl r (by have := (List.getElem?_eq_some_iff.mp hr2).1; omega) _ hr2 ((canB_iff hk).mpr c)
    rw [Int.toNat_natCast] at z
    exact z
  · intro k w hk c
    exact sub _ (h.cl j (by omega) m hm2 k w hk c)
theorem lf_all (O : Ok n pegs lanes ws) (hp : prodW ws ≤ 200) : ∀ (c i : Nat) (s : List (List Int)), FO (pgOf pegs) ws i s → i + c = 4000 → ∃ s', forO (B := Unit) (fun (x1 : Int) (s1 : List (List Int)) => m_lf1 (pegs, lanes, ()) ws (ones ws) x1 s1) ((List.range' i c).map fun i : Nat => (i : Int)) s = some (.nx s') ∧ FO (pgOf pegs) ws s'.length s'
  | 0, i, s, h, e => by
    have := found_len O.ne h.nd h.rc
    have := h.le
    omega
  | c + 1, i, s, h, e => by
    rw [List.range'_succ, List.map_cons, forO_cons]
    by_cases q : i < s.length
    · obtain ⟨s', e1, h'⟩ := lf1_step O hp h q
      rw [e1]
      exact lf_all O hp c (i + 1) s' h' (by omega)
    · have el : i = s.length := by have := h.le; omega
      refine ⟨s, ?_, by rw [← el]; exact h⟩
      unfold m_lf1
      rw [if_pos (decide_eq_true (by omega))]
      rfl
theorem L_lent_from_eq (O : Ok n pegs lanes ws) (P2 : ∀ p ∈ pegs, 2 ≤ p) (hp : prodW ws ≤ 200) : ∃ s, f_L_lent_from (pegs, lanes, ()) ws (ones ws) = some s ∧ decide (ones ws ∈ s) = decide (lotW n (pgOf pegs) ws = []) := by
  have h0 : FO (pgOf pegs) ws 0 [stageW ws] := ⟨Nat.zero_le _, List.nodup_cons.mpr ⟨List.not_mem_nil, List.nodup_nil⟩, fun m hm => by
    rcases List.mem_singleton.mp hm with rfl
    exact .home, List.mem_cons_self, fun j hj => absurd hj (Nat.not_lt_zero _)⟩
  obtain ⟨s, e, R⟩ := lf_all O hp 4000 0 _ h0 rfl
  have all : ∀ m, Rch (pgOf pegs) ws m → m ∈ s := fun m hm => by
    induction hm with
    | home => exact R.st
    | step h hk c ih =>
      obtain ⟨j, hj⟩ := List.mem_iff_getElem?.mp ih
      exact R.cl j (List.getElem?_eq_some_iff.mp hj).1 _ hj _ _ hk c
  have er : rng 0 4000 = (List.range' 0 4000).map fun i : Nat => (i : Int) := by
    rw [show (4000 : Int) = ((4000 : Nat) : Int) from rfl, rng_upto]
    unfold upto
    rw [List.range_eq_range']
  refine ⟨s, ?_, decide_eq_decide.mpr ⟨fun h => ?_, fun h => all _ (rch_home O P2 h)⟩⟩
  · unfold f_L_lent_from m_L_lent_from
    rw [L_stage_eq, Option.bind_some, er, e]
    rfl
  · exact Classical.byContradiction fun q => rch_not O q (R.rc _ h)
end
end Pg
set_option Elab.async false
set_option linter.all false
set_option maxRecDepth 100000
set_option maxHeartbeats 400000
namespace Pg
open L2

/-! ### a mirror comes to an end, and what holds there -/
def Sat {α : Type} (m : Option α) (P : α → Prop) : Prop := ∃ a, m = some a ∧ P a
inductive Nx {S B R : Type} (P : S → Prop) : Out S B R → Prop
  | mk {s : S} : P s → Nx P (.nx s)
inductive Rt {S B R : Type} (P : R → Prop) : Out S B R → Prop
  | mk {r : R} : P r → Rt P (.ret r)
section
variable {α β S S1 B R : Type}
theorem Sat.bind {m : Option α} {f : α → Option β} {P : α → Prop} {Q : β → Prop} (h : Sat m P) (k : ∀ a, P a → Sat (f a) Q) : Sat (m.bind f) Q := by
  obtain ⟨a, e, p⟩ := h
  rw [e, Option.bind_some]
  exact k a p
theorem Sat.pure {a : α} {P : α → Prop} (p : P a) : Sat (some a) P := ⟨a, rfl, p⟩
theorem Sat.eq {m : Option α} {a : α} {P : α → Prop} (e : m = some a) (p : P a) : Sat m P := ⟨a, e, p⟩
theorem Sat.mono {m : Option α} {P Q : α → Prop} (h : Sat m P) (k : ∀ a, P a → Q a) : Sat m Q := by
  obtain ⟨a, e, p⟩ := h
  exact ⟨a, e, k a p⟩
theorem Sat.map {m : Option α} {f : α → β} {P : α → Prop} {Q : β → Prop} (h : Sat m P) (k : ∀ a, P a → Q (f a)) : Sat (m.map f) Q := by
  obtain ⟨a, e, p⟩ := h
  exact ⟨f a, by rw [e]; rfl, k a p⟩
theorem Sat.go {m : Option (Out S1 B R)} {f : S1 → Option (Out S B R)} {P : S1 → Prop} {Q : Out S B R → Prop} (h : Sat m (Nx P)) (k : ∀ s, P s → Sat (f s) Q) : Sat (thenO m f) Q := by
  obtain ⟨o, e, p⟩ := h
  cases p with
  | mk p =>
    rw [e, thenO_nx]
    exact k _ p
theorem Sat.nx {s : S} {P : S → Prop} (p : P s) : Sat (some (.nx s) : Option (Out S B R)) (Nx P) := ⟨_, rfl, .mk p⟩
theorem Sat.rt {r : R} {P : R → Prop} (p : P r) : Sat (some (.ret r) : Option (Out S B R)) (Rt P) := ⟨_, rfl, .mk p⟩
theorem sat_ret {m : Option (Out S B R)} {P : R → Prop} (h : Sat m (Rt P)) : Sat (retO m) P := by
  obtain ⟨o, e, p⟩ := h
  cases p with
  | mk p => exact ⟨_, by rw [e]; rfl, p⟩
theorem Sat.nxm {m : Option (Out S B R)} {P Q : S → Prop} (h : Sat m (Nx P)) (k : ∀ a, P a → Q a) : Sat m (Nx Q) := h.mono fun _ q => by
  cases q with
  | mk q => exact .mk (k _ q)
theorem sat_if {c : Bool} {a b : Option α} {P : α → Prop} (h1 : c = true → Sat a P) (h2 : c = false → Sat b P) : Sat (if c = true then a else b) P := by
  cases c with
  | true => exact h1 rfl
  | false => exact h2 rfl
theorem sat_ifd {p : Prop} [Decidable p] {a b : Option α} {P : α → Prop} (h1 : p → Sat a P) (h2 : ¬ p → Sat b P) : Sat (if decide p = true then a else b) P := by
  by_cases h : p
  · rw [if_pos (decide_eq_true h)]
    exact h1 h
  · rw [if_neg (by simp [h])]
    exact h2 h
theorem sat_forP {f : α → S → Option (Out S S R)} (I : List α → S → Prop) : ∀ {xs pre : List α} {s : S}, (∀ p x t s, xs = p ++ x :: t → I (pre ++ p) s → Sat (f x s) (Nx (I (pre ++ (p ++ [x]))))) → I pre s → Sat (forO (B := B) f xs s) (Nx (I (pre ++ xs)))
  | [], pre, s, _, h0 => by
    rw [List.append_nil]
    exact .nx h0
  | x :: xs, pre, s, h, h0 => by
    obtain ⟨o, e, p⟩ := h [] x xs s rfl (by rw [List.append_nil]; exact h0)
    cases p with
    | @mk s' p =>
      rw [forO_cons, e]
      have z := sat_forP (f := f) I (xs := xs) (pre := pre ++ [x]) (s := s') (fun p y t s ex hi => by
        have q := h (x :: p) y t s (by rw [ex]; rfl) (by
          rw [show pre ++ (x :: p) = pre ++ [x] ++ p by simp]
          exact hi)
        rw [show pre ++ [x] ++ (p ++ [y]) = pre ++ (x :: p ++ [y]) by simp]
        exact q) p
      rw [show pre ++ [x] ++ xs = pre ++ x :: xs by simp] at z
      exact z
theorem sat_forL {f : α → S → Option (Out S S R)} (I : List α → S → Prop) {xs : List α} {s : S} (h : ∀ p x t s, xs = p ++ x :: t → I p s → Sat (f x s) (Nx (I (p ++ [x])))) (h0 : I [] s) : Sat (forO (B := B) f xs s) (Nx (I xs)) :=
  sat_forP (pre := []) I h h0
theorem sat_for {f : α → S → Option (Out S S R)} (I : S → Prop) {xs : List α} {s : S} (h : ∀ x ∈ xs, ∀ s, I s → Sat (f x s) (Nx I)) (h0 : I s) : Sat (forO (B := B) f xs s) (Nx I) :=
  sat_forL (fun _ => I) (fun p x t s e hi => h x (by rw [e]; simp) s hi) h0
theorem sat_forN {f : α → S → Option (Out S S R)} (I : Nat → S → Prop) {xs : List α} {s : S} (h : ∀ i x s, xs[i]? = some x → I i s → Sat (f x s) (Nx (I (i + 1)))) (h0 : I 0 s) : Sat (forO (B := B) f xs s) (Nx (I xs.length)) :=
  sat_forL (fun p => I p.length) (fun p x t s e hi => by
    rw [List.length_append]
    exact h p.length x s (by rw [e]; simp) hi) h0
theorem upto_get {n i : Nat} {x : Int} (h : (upto n)[i]? = some x) : x = (i : Int) ∧ i < n := by
  unfold upto at h
  rw [List.getElem?_map] at h
  by_cases q : i < n
  · rw [List.getElem?_range q] at h
    cases h
    exact ⟨rfl, q⟩
  · rw [List.getElem?_eq_none (by rw [List.length_range]; omega)] at h
    cases h
theorem sat_forU {f : Int → S → Option (Out S S R)} (I : Nat → S → Prop) {n : Nat} {s : S} (h : ∀ (i : Nat) s, i < n → I i s → Sat (f (i : Int) s) (Nx (I (i + 1)))) (h0 : I 0 s) : Sat (forO (B := B) f (upto n) s) (Nx (I n)) := by
  have z := sat_forN (B := B) (f := f) I (xs := upto n) (s := s) (fun i x s hx hi => by
    obtain ⟨e, q⟩ := upto_get hx
    rw [e]
    exact h i s q hi) h0
  rw [show (upto n).length = n by unfold upto; simp] at z
  exact z
theorem sat_map {f : α → Option β} {P : α → β → Prop} : ∀ {xs : List α}, (∀ x ∈ xs, Sat (f x) (P x)) → Sat (mapO f xs) fun ys => ys.length = xs.length ∧ ∀ (i : Nat) x, xs[i]? = some x → ∃ y, ys[i]? = some y ∧ P x y
  | [], _ => .pure ⟨rfl, fun i x h => by cases h⟩
  | x :: xs, h => by
    obtain ⟨y, e, p⟩ := h x List.mem_cons_self
    obtain ⟨ys, e2, l, q⟩ := sat_map (xs := xs) fun z hz => h z (List.mem_cons_of_mem _ hz)
    refine ⟨y :: ys, by rw [mapO_cons, e, Option.bind_some, e2]; rfl, by rw [List.length_cons, List.length_cons, l], fun i z hz => ?_⟩
    cases i with
    | zero =>
      cases hz
      exact ⟨y, rfl, p⟩
    | succ i => exact q i z (by simpa using hz)
theorem sat_at {xs : List α} {i : Int} (h0 : 0 ≤ i) (h1 : i < (xs.length : Int)) : Sat (atI xs i) fun v => xs[i.toNat]? = some v := by
  rw [atI_nn _ h0, List.getElem?_eq_getElem (show i.toNat < xs.length by omega)]
  exact .pure rfl
theorem sat_mem {xs : List α} {i : Int} (h0 : 0 ≤ i) (h1 : i < (xs.length : Int)) : Sat (atI xs i) fun v => v ∈ xs := (sat_at h0 h1).mono fun _ h => List.mem_of_getElem? h
theorem sat_mod (x : Int) {y : Int} (h : 0 < y) : Sat (modO x y) fun r => 0 ≤ r ∧ r < y := by
  unfold modO
  rw [if_pos h]
  exact .pure ⟨Int.emod_nonneg _ (by omega), Int.emod_lt_of_pos _ h⟩
theorem sat_div (x : Int) {y : Int} (h : 0 < y) (h1 : y < 1073741824) : Sat (divO x y) fun _ => True := by
  unfold divO
  rw [if_pos ⟨h, h1⟩]
  exact .pure trivial
theorem sat_app {ds : List α} (d : α) (h : ds.length < 100000) : Sat (appO ds d) fun r => r = ds ++ [d] := by
  unfold appO
  rw [if_pos h]
  exact .pure rfl
theorem sat_cat {xs ys : List α} (h : xs.length + ys.length ≤ 100000) : Sat (catO xs ys) fun r => r = xs ++ ys := by
  unfold catO
  rw [if_pos h]
  exact .pure rfl
theorem sat_mul {x y : Int} (h : (-(2 ^ 64) < x ∧ x < 2 ^ 64) ∨ (-(2 ^ 64) < y ∧ y < 2 ^ 64)) : Sat (mulO x y) fun r => r = x * y := by
  unfold mulO
  rw [if_pos h]
  exact .pure rfl
theorem sat_rng {k : Int} (h0 : 0 ≤ k) (h1 : k ≤ 100000) : Sat (rngO 0 k) fun r => r = upto k.toNat := by
  have e : k = ((k.toNat : Nat) : Int) := by omega
  rw [e, rng_ok (by omega), Int.toNat_natCast]
  exact .pure rfl
end

/-! ### cells and digits -/
theorem cell_sat (s : List Int) {k : Int} (h : 0 ≤ k) : Sat (f_L_cell s k) fun _ => True := by
  unfold f_L_cell m_L_cell
  refine sat_ret (sat_ifd (fun hk => (sat_at h hk).bind fun v _ => .rt trivial) fun _ => Sat.go (P := fun t : Int => 0 ≤ t ∧ t < 1000003) (sat_for _ (fun x _ t _ => .nx (by omega)) (by omega)) fun t ht => (sat_mul (Or.inl (by omega))).bind fun d _ => .rt trivial)
def Digs (zs r : List Int) : Prop := r.length = zs.length ∧ ∀ (i : Nat) z, zs[i]? = some z → ∃ d, r[i]? = some d ∧ 0 ≤ d ∧ d < z
theorem Digs.snoc {zs r : List Int} {z d : Int} (D : Digs zs r) (h0 : 0 ≤ d) (h1 : d < z) : Digs (zs ++ [z]) (r ++ [d]) := by
  refine ⟨by rw [List.length_append, List.length_append, D.1]; rfl, fun i y hy => ?_⟩
  rw [List.getElem?_append] at hy ⊢
  rw [D.1]
  by_cases q : i < zs.length
  · rw [if_pos q] at hy ⊢
    exact D.2 i y hy
  · rw [if_neg q] at hy ⊢
    cases hk : i - zs.length with
    | zero =>
      rw [hk] at hy
      cases hy
      exact ⟨d, rfl, h0, h1⟩
    | succ k =>
      rw [hk] at hy
      cases hy
theorem digs_nil : Digs [] [] := ⟨rfl, fun i z h => by cases h⟩
theorem digits_sat (c : Int) {zs : List Int} (h : ∀ z ∈ zs, 0 < z ∧ z < 1073741824) (hl : zs.length ≤ 1000) : Sat (f_L_digits c zs) (Digs zs) := by
  unfold f_L_digits m_L_digits
  refine sat_ret (sat_ifd (fun _ => ?_) fun _ => ?_)
  · refine Sat.go (P := fun t : Int × List Int => Digs zs t.2) (sat_forL (fun p (t : Int × List Int) => Digs p t.2) (fun p x t s e hs => ?_) digs_nil) fun t ht => .rt ht
    have hx := h x (by rw [e]; simp)
    have hp : p.length ≤ 1000 := by
      rw [e, List.length_append] at hl
      omega
    refine (sat_mod s.1 hx.1).bind fun d hd => (sat_app d (by rw [hs.1]; omega)).bind fun r hr => (sat_div s.1 hx.1 hx.2).bind fun q _ => .nx ?_
    rw [hr]
    exact hs.snoc hd.1 hd.2
  · refine (sat_rng (by omega) (by omega)).bind fun r hr => ?_
    rw [hr, Int.toNat_natCast]
    refine Sat.go (P := fun t : Int × List Int => Digs zs t.2) ?_ fun t ht => .rt ht
    refine (sat_forU (fun i (t : Int × List Int) => Digs (zs.take i) t.2) (fun i s hi hs => ?_) (by rw [List.take_zero]; exact digs_nil)).nxm fun t ht => by
      rw [List.take_length] at ht
      exact ht
    refine (sat_mul (Or.inl ⟨by omega, by omega⟩)).bind fun a _ => (sat_at (by omega) (by omega)).bind fun z hz => ?_
    rw [Int.toNat_natCast] at hz
    have hx := h z (List.mem_of_getElem? hz)
    refine (sat_mod _ hx.1).bind fun d hd => (sat_app d (by rw [hs.1, List.length_take]; omega)).bind fun r hr => .nx ?_
    rw [hr, List.take_succ, hz]
    exact hs.snoc hd.1 hd.2
theorem Digs.at {zs r : List Int} (D : Digs zs r) (i : Nat) {z : Int} (h : zs[i]? = some z) : Sat (atI r (i : Int)) fun d => 0 ≤ d ∧ d < z := by
  obtain ⟨d, e, h1⟩ := D.2 i z h
  rw [atI_cast, e]
  exact .pure h1
theorem product_sat {ws : List (List Int)} (h : ∀ w ∈ ws, w.length ≤ 100) : Sat (f_L_product ws) fun r => r = (prodW ws : Int) := by
  unfold f_L_product m_L_product
  refine sat_ret (Sat.go (sat_forL (fun p (t : Int) => t = (prodW p : Int)) (fun p x t s e hs => ?_) rfl) fun t ht => .rt ht)
  have := h x (by rw [e]; simp)
  refine (sat_mul (Or.inr ⟨by omega, by omega⟩)).bind fun d hd => .nx ?_
  rw [hd, hs]
  unfold prodW
  rw [List.foldl_append]
  exact (Int.natCast_mul _ _).symm
end Pg
set_option Elab.async false
set_option linter.all false
set_option maxRecDepth 100000
set_option maxHeartbeats 400000
namespace Pg
open L2

/-! ### a way that is kept -/
def WOk (n : Nat) (lanes : List (Int × Int × Unit)) (w : List Int) : Prop := 0 < w.length ∧ (∀ h ∈ w, 0 ≤ h ∧ h < (n : Int)) ∧ ∀ i, i + 1 < w.length → (w.getD i 0, w.getD (i + 1) 0, ()) ∈ lanes
theorem atI_0 {w : List Int} (h : 0 < w.length) : atI w (0 : Int) = some (w.getD 0 0) := by
  rw [show (0 : Int) = ((0 : Nat) : Int) from rfl, atI_cast]
  exact getD_some h
theorem getD_l {a b : List Int} {i : Nat} (h : i < a.length) : (a ++ b).getD i 0 = a.getD i 0 := by
  rw [List.getD_eq_getElem?_getD, List.getD_eq_getElem?_getD, List.getElem?_append_left h]
theorem getD_r {a : List Int} {b : Int} : (a ++ [b]).getD a.length 0 = b := by
  rw [List.getD_eq_getElem?_getD, List.getElem?_append_right (Nat.le_refl _), Nat.sub_self] <;> rfl
theorem wtop_snoc (w : List Int) (b : Int) : wtop (w ++ [b]) = b := by
  unfold wtop
  rw [List.length_append, List.length_singleton, Nat.add_sub_cancel, getD_r]
theorem wtop_cons {w : List Int} (a : Int) (h : 0 < w.length) : wtop (a :: w) = wtop w := by
  unfold wtop
  rw [List.length_cons, Nat.add_sub_cancel, show w.length = (w.length - 1) + 1 by omega, List.getD_cons_succ, Nat.add_sub_cancel]
theorem getD_map {w : List Int} (f : Int → Int) {i : Nat} (h : i < w.length) : (w.map f).getD i 0 = f (w.getD i 0) := by
  rw [List.getD_eq_getElem?_getD, List.getD_eq_getElem?_getD, List.getElem?_map, List.getElem?_eq_getElem h] <;> rfl
theorem wtop_map {w : List Int} (f : Int → Int) (h : 0 < w.length) : wtop (w.map f) = f (wtop w) := by
  unfold wtop
  rw [List.length_map, getD_map f (by omega)]
section
variable {n : Nat} {lanes : List (Int × Int × Unit)} {w : List Int}
theorem WOk.one {h : Int} (h0 : 0 ≤ h) (h1 : h < (n : Int)) : WOk n lanes [h] := ⟨by simp, fun x hx => by
  rw [List.mem_singleton.mp hx]
  exact ⟨h0, h1⟩, fun i hi => by
  simp at hi⟩
theorem WOk.top (W : WOk n lanes w) : 0 ≤ wtop w ∧ wtop w < (n : Int) := W.2.1 _ (getD_mem (by have := W.1; omega))
theorem WOk.snoc (W : WOk n lanes w) {b : Int} (h0 : 0 ≤ b) (h1 : b < (n : Int)) (l : (wtop w, b, ()) ∈ lanes) : WOk n lanes (w ++ [b]) := by
  refine ⟨by simp, fun x hx => ?_, fun i hi => ?_⟩
  · rcases List.mem_append.mp hx with q | q
    · exact W.2.1 x q
    · rw [List.mem_singleton.mp q]
      exact ⟨h0, h1⟩
  · rw [List.length_append, List.length_singleton] at hi
    have p := W.1
    by_cases q : i + 1 < w.length
    · rw [getD_l (by omega), getD_l q]
      exact W.2.2 i q
    · have e : i + 1 = w.length := by omega
      rw [getD_l (by omega), e, getD_r, show i = w.length - 1 by omega]
      exact l
theorem WOk.cons (W : WOk n lanes w) {a : Int} (h0 : 0 ≤ a) (h1 : a < (n : Int)) (l : (a, w.getD 0 0, ()) ∈ lanes) : WOk n lanes (a :: w) := by
  refine ⟨by simp, fun x hx => ?_, fun i hi => ?_⟩
  · rcases List.mem_cons.mp hx with q | q
    · rw [q]
      exact ⟨h0, h1⟩
    · exact W.2.1 x q
  · rw [List.length_cons] at hi
    cases i with
    | zero =>
      rw [List.getD_cons_succ]
      exact l
    | succ i =>
      rw [List.getD_cons_succ, List.getD_cons_succ]
      exact W.2.2 i (by omega)
theorem WOk.drop (W : WOk n lanes w) (h : 1 < w.length) : WOk n lanes w.dropLast := by
  refine ⟨by rw [List.length_dropLast]; omega, fun x hx => W.2.1 x (mem_dropLast' hx), fun i hi => ?_⟩
  rw [List.length_dropLast] at hi
  rw [getD_dropLast w _ (by omega), getD_dropLast w _ (by omega)]
  exact W.2.2 i (by omega)
theorem WOk.take1 (W : WOk n lanes w) : WOk n lanes (w.take 1) := by
  obtain ⟨p, r, s⟩ := W
  cases w with
  | nil => cases p
  | cons a v =>
    obtain ⟨a0, a1⟩ := r a List.mem_cons_self
    exact .one a0 a1
theorem WOk.map {m : Nat} {lanes' : List (Int × Int × Unit)} (W : WOk n lanes w) (f : Int → Int) (hf : ∀ h, 0 ≤ h → h < (n : Int) → 0 ≤ f h ∧ f h < (m : Int)) (hl : ∀ a b, (a, b, ()) ∈ lanes → (f a, f b, ()) ∈ lanes') : WOk m lanes' (w.map f) := by
  refine ⟨by rw [List.length_map]; exact W.1, fun x hx => ?_, fun i hi => ?_⟩
  · obtain ⟨y, hy, e⟩ := List.mem_map.mp hx
    rw [← e]
    exact hf y (W.2.1 y hy).1 (W.2.1 y hy).2
  · rw [List.length_map] at hi
    rw [getD_map f (by omega), getD_map f hi]
    exact hl _ _ (W.2.2 i hi)
theorem WOk.more {m : Nat} {lanes' : List (Int × Int × Unit)} (W : WOk n lanes w) (hn : n ≤ m) (hl : ∀ p ∈ lanes, p ∈ lanes') : WOk m lanes' w :=
  ⟨W.1, fun x hx => ⟨(W.2.1 x hx).1, by have := (W.2.1 x hx).2; omega⟩, fun i hi => hl _ (W.2.2 i hi)⟩
def Row7 (r : List Int) : Prop := Digs [8, 6, 6, 6, 6, 6, 6] r
theorem waiting_sat {pegs row : List Int} {size house : Int} (L : LaneOk n lanes) (h0 : 0 ≤ house) (h1 : house < (n : Int)) (D : Row7 row) : Sat (f_L_waiting (pegs, lanes, ()) size house row) fun w => WOk n lanes w ∧ w.length ≤ 6 ∧ wtop w = house := by
  unfold f_L_waiting m_L_waiting
  refine sat_ret ((D.at 0 rfl).bind fun d1 e1 => (sat_mem e1.1 (by exact e1.2)).bind fun d3 e3 => ?_)
  have b3 : 2 ≤ d3 ∧ d3 ≤ 5 := (by decide : ∀ x ∈ [(2 : Int), 2, 3, 2, 4, 2, 3, 5], 2 ≤ x ∧ x ≤ 5) d3 e3
  refine (sat_rng (by omega) (by omega)).bind fun d5 e5 => ?_
  rw [e5]
  refine Sat.go ((sat_forU (fun i (w : List Int) => WOk n lanes w ∧ w.length ≤ 1 + i ∧ wtop w = house) (fun i w hi hw => ?_) ⟨.one h0 h1, by simp, rfl⟩).nxm (Q := fun w : List Int => WOk n lanes w ∧ w.length ≤ 6 ∧ wtop w = house) fun w hw => ⟨hw.1, by have := hw.2.1; omega, hw.2.2⟩) fun w hw => .rt hw
  rw [filO_ok (q := fun x : Int × Int × Unit => decide (x.2.1 = w.getD 0 0) && ((decide ((0 : Int) < (i : Int))) || (decide (x.1 < size)))) fun x _ => by
    rw [atI_0 hw.1.1]
    rfl]
  refine Sat.bind (P := fun d : List Int => ∀ y ∈ d, (y, w.getD 0 0, ()) ∈ lanes) (.pure fun y hy => ?_) fun d12 e12 => ?_
  · obtain ⟨x, hx, e⟩ := List.mem_map.mp hy
    obtain ⟨hx1, hx2⟩ := List.mem_filter.mp hx
    have q := of_decide_eq_true (Bool.and_eq_true_iff.mp hx2).1
    rw [← e, ← q]
    exact hx1
  refine Sat.go (sat_ifd (fun hp => (sat_at (by omega) (by rw [D.1]; show _ < (7 : Int); omega)).bind fun d16 _ => (sat_mod d16 hp).bind fun d18 e18 => (sat_mem e18.1 (by exact e18.2)).bind fun d20 e20 => (sat_cat (by rw [List.length_singleton]; have := hw.2.1; omega)).bind fun d22 e22 => .nx (P := fun w : List Int => WOk n lanes w ∧ w.length ≤ 1 + (i + 1) ∧ wtop w = house) ?_) fun _ => .nx ⟨hw.1, by have := hw.2.1; omega, hw.2.2⟩) fun w hw => .nx hw
  have l := e12 _ e20
  obtain ⟨⟨a0, a1⟩, _, _⟩ := L _ l
  rw [e22]
  refine ⟨hw.1.cons a0 a1 l, ?_, ?_⟩
  · show ([d20] ++ w).length ≤ _
    rw [List.length_append, List.length_singleton]
    have := hw.2.1
    omega
  · rw [← hw.2.2]
    exact wtop_cons d20 hw.1.1
theorem way_sat {room row : List Int} (ways : List (List Int)) (L : LaneOk n lanes) (hn : 0 < n) (hr : room.length = n) (D : Row7 row) : Sat (f_L_way (room, lanes, ()) ways row) fun w => WOk n lanes w ∧ w.length ≤ 5 ∧ (w.length = 1 ∨ (load ways (wtop w) : Int) < room.getD (wtop w).toNat 0) := by
  unfold f_L_way m_L_way
  refine sat_ret ((D.at 1 rfl).bind fun d1 _ => (sat_mod d1 (y := (room.length : Int)) (by omega)).bind fun d3 e3 => (D.at 0 rfl).bind fun d5 e5 => (sat_mem e5.1 (by exact e5.2)).bind fun d7 e7 => ?_)
  have b7 : 1 ≤ d7 ∧ d7 ≤ 5 := (by decide : ∀ x ∈ [(3 : Int), 2, 3, 4, 1, 2, 5, 3], 1 ≤ x ∧ x ≤ 5) d7 e7
  refine (sat_rng (by omega) (by omega)).bind fun d9 e9 => ?_
  rw [e9]
  refine Sat.go ((sat_forU (fun i (w : List Int) => WOk n lanes w ∧ w.length ≤ 1 + i) (fun i w hi hw => ?_) ⟨.one e3.1 (by rw [← hr]; exact e3.2), by simp⟩).nxm (Q := fun w : List Int => WOk n lanes w ∧ w.length ≤ 5) fun w hw => ⟨hw.1, by have := hw.2; omega⟩) fun w hw => ?_
  · rw [filO_ok (q := fun x : Int × Int × Unit => decide (x.1 = wtop w)) fun x _ => by
      rw [atI_m1 hw.1.1]
      rfl]
    refine Sat.bind (P := fun d : List Int => ∀ y ∈ d, (wtop w, y, ()) ∈ lanes) (.pure fun y hy => ?_) fun d16 e16 => ?_
    · obtain ⟨x, hx, e⟩ := List.mem_map.mp hy
      obtain ⟨hx1, hx2⟩ := List.mem_filter.mp hx
      have q := of_decide_eq_true hx2
      rw [← e, ← q]
      exact hx1
    refine Sat.go (sat_ifd (fun hp => (sat_at (by omega) (by rw [D.1]; show _ < (7 : Int); omega)).bind fun d20 _ => (sat_mod d20 hp).bind fun d22 e22 => (sat_mem e22.1 (by exact e22.2)).bind fun d24 e24 => (sat_cat (by rw [List.length_singleton]; have := hw.2; omega)).bind fun d26 e26 => .nx (P := fun w : List Int => WOk n lanes w ∧ w.length ≤ 1 + (i + 1)) ?_) fun _ => .nx ⟨hw.1, by have := hw.2; omega⟩) fun w hw => .nx hw
    have l := e16 _ e24
    obtain ⟨_, ⟨a0, a1⟩, _⟩ := L _ l
    rw [e26]
    refine ⟨hw.1.snoc a0 a1 l, ?_⟩
    rw [List.length_append, List.length_singleton]
    have := hw.2
    omega
  · rw [show rng 0 (6 : Int) = upto 6 from rng_upto 6]
    refine Sat.go ((sat_forU (fun i (w : List Int) => WOk n lanes w ∧ w.length ≤ 5 ∧ (w.length + i ≤ 5 ∨ (w.length = 1 ∨ (load ways (wtop w) : Int) < room.getD (wtop w).toNat 0))) (fun i w hi hw => ?_) ⟨hw.1, hw.2, .inl hw.2⟩).nxm (Q := fun w : List Int => WOk n lanes w ∧ w.length ≤ 5 ∧ (w.length = 1 ∨ (load ways (wtop w) : Int) < room.getD (wtop w).toNat 0)) fun w hw => ⟨hw.1, hw.2.1, hw.2.2.resolve_left (by omega)⟩) fun w hw => .rt hw
    refine Sat.bind (P := fun b : Bool => (b = true → 1 < w.length) ∧ (b = false → (w.length = 1 ∨ (load ways (wtop w) : Int) < room.getD (wtop w).toNat 0)) ∧ (b = true → ¬ (w.length = 1 ∨ (load ways (wtop w) : Int) < room.getD (wtop w).toNat 0))) (sat_ifd (fun hp => ?_) fun hp => .pure ⟨fun e => (by cases e), fun _ => .inl (by have := hw.1.1; omega), fun e => by cases e⟩) fun b hb => ?_
    · rw [atI_m1 hw.1.1, Option.bind_some, L_load_eq, Option.bind_some, Option.bind_some]
      have t := hw.1.top
      refine (sat_at t.1 (by rw [hr]; exact t.2)).bind fun p ep => .pure ?_
      have g : room.getD (wtop w).toNat 0 = p := by
        rw [List.getD_eq_getElem?_getD, ep] <;> rfl
      rw [g]
      refine ⟨fun _ => by omega, fun e => ?_, fun e => ?_⟩
      · have := of_decide_eq_false e
        exact .inr (by omega)
      · have := of_decide_eq_true e
        omega
    · refine Sat.go (sat_if (fun e => .nx (P := fun w : List Int => WOk n lanes w ∧ w.length ≤ 5 ∧ (w.length + (i + 1) ≤ 5 ∨ (w.length = 1 ∨ (load ways (wtop w) : Int) < room.getD (wtop w).toNat 0))) ?_) fun e => .nx ⟨hw.1, hw.2.1, .inr (hb.2.1 e)⟩) fun w hw => .nx hw
      rw [cut_m1]
      have q := hw.2.2.resolve_right (hb.2.2 e)
      have q1 := hb.1 e
      have q2 := hw.2.1
      refine ⟨hw.1.drop q1, ?_, .inl ?_⟩ <;> rw [List.length_dropLast] <;> omega
end
end Pg
set_option Elab.async false
set_option linter.all false
set_option maxRecDepth 100000
set_option maxHeartbeats 400000
namespace Pg
open L2

/-! ### the drawn street, the ring -/
theorem upto_nodup (n : Nat) : (upto n).Nodup := by
  unfold upto
  refine List.pairwise_map.mpr (List.Pairwise.imp (fun {a b} h e => h (by omega)) List.nodup_range)
structure Strt (n : Nat) (pegs : List Int) (lanes : List (Int × Int × Unit)) : Prop where
  pl : pegs.length = n
  n2 : 2 ≤ n
  n6 : n ≤ 6
  pp : ∀ p ∈ pegs, 2 ≤ p ∧ p ≤ 9
  la : LaneOk n lanes
  nd : lanes.Nodup
def allP : List (Int × Int × Unit) := (upto 6).flatMap fun a => ((upto 6).filter fun b => !decide (b = a)).map fun b => (a, b, ())
theorem lane_len {n : Nat} {l : List (Int × Int × Unit)} (L : LaneOk n l) (N : l.Nodup) (h : n ≤ 6) : l.length ≤ 30 := by
  have z := sub_len (m := allP) N fun x hx => by
    obtain ⟨⟨a0, a1⟩, ⟨b0, b1⟩, ne⟩ := L x hx
    unfold allP
    refine List.mem_flatMap.mpr ⟨x.1, mem_upto.mpr ⟨a0, by omega⟩, List.mem_map.mpr ⟨x.2.1, List.mem_filter.mpr ⟨mem_upto.mpr ⟨b0, by omega⟩, ?_⟩, rfl⟩⟩
    rw [decide_eq_false fun e => ne e.symm]
    rfl
  exact z
theorem LaneOk.snoc {n : Nat} {l : List (Int × Int × Unit)} (L : LaneOk n l) {q : Int × Int × Unit} (h : (0 ≤ q.1 ∧ q.1 < (n : Int)) ∧ (0 ≤ q.2.1 ∧ q.2.1 < (n : Int)) ∧ q.1 ≠ q.2.1) : LaneOk n (l ++ [q]) := fun p hp => by
  rcases List.mem_append.mp hp with e | e
  · exact L p e
  · rw [List.mem_singleton.mp e]
    exact h
theorem nod_snoc {α : Type} {l : List α} (N : l.Nodup) {q : α} (h : q ∉ l) : (l ++ [q]).Nodup := by
  rw [List.nodup_append]
  refine ⟨N, by simp, fun a ha b hb e => ?_⟩
  rw [List.mem_singleton.mp hb] at e
  rw [e] at ha
  exact h ha
theorem nod_pre {α : Type} {xs p t : List α} {x : α} (N : xs.Nodup) (e : xs = p ++ x :: t) : x ∉ p := fun hx => by
  rw [e, List.nodup_append] at N
  exact N.2.2 x hx x List.mem_cons_self rfl
def Z37 : List Int := [8, 6, 6, 6, 6, 6, 6, 10, 10, 10, 10, 10, 10, 10, 10, 10, 10, 10, 10, 10, 10, 10, 10, 10, 10, 10, 10, 10, 10, 10, 10, 10, 10, 10, 10, 10, 10]
theorem street_sat {row menu : List Int} (hm : menu.length = 6) (hv : ∀ m ∈ menu, 2 ≤ m ∧ m ≤ 9) (D : Digs Z37 row) : Sat (f_L_street row menu) fun r => ∃ n, Strt n r.1 r.2.1 := by
  unfold f_L_street m_L_street
  have hl : row.length = 37 := D.1
  refine sat_ret ((D.at 0 rfl).bind fun d1 e1 => (sat_mem e1.1 (by exact e1.2)).bind fun d3 e3 => ?_)
  have b3 : 2 ≤ d3 ∧ d3 ≤ 6 := (by decide : ∀ x ∈ [(3 : Int), 4, 3, 4, 5, 2, 6, 4], 2 ≤ x ∧ x ≤ 6) d3 e3
  obtain ⟨n, rfl⟩ : ∃ n : Nat, d3 = (n : Int) := ⟨d3.toNat, by omega⟩
  refine (Sat.eq (P := fun r => r = upto n) (rng_ok (by omega)) rfl).bind fun d5 e5 => ?_
  rw [e5]
  refine (sat_map (P := fun _ y => 2 ≤ y ∧ y ≤ 9) fun x hx => ?_).bind fun d12 e12 => (Sat.eq (P := fun r => r = upto n) (rng_ok (by omega)) rfl).bind fun d14 e14 => ?_
  · obtain ⟨x0, x1⟩ := mem_upto.mp hx
    obtain ⟨i, rfl⟩ : ∃ i : Nat, x = (i : Int) := ⟨x.toNat, by omega⟩
    rw [show (1 : Int) + (i : Int) = ((1 + i : Nat) : Int) by omega]
    have hz : Z37[1 + i]? = some 6 := by
      have : i = 0 ∨ i = 1 ∨ i = 2 ∨ i = 3 ∨ i = 4 ∨ i = 5 := by omega
      rcases this with e | e | e | e | e | e <;> subst e <;> rfl
    exact (D.at (1 + i) hz).bind fun d8 e8 => (sat_mem e8.1 (by rw [hm]; exact e8.2)).bind fun d10 e10 => .pure (hv _ e10)
  rw [e14]
  have hpl : d12.length = n := by
    rw [e12.1]
    unfold upto
    simp
  have hpp : ∀ p ∈ d12, 2 ≤ p ∧ p ≤ 9 := fun p hp => by
    obtain ⟨i, hi⟩ := List.mem_iff_getElem?.mp hp
    have hlt : i < (upto n).length := by
      rw [← e12.1]
      exact (List.getElem?_eq_some_iff.mp hi).1
    obtain ⟨y, ey, q⟩ := e12.2 i _ (List.getElem?_eq_getElem hlt)
    rw [hi] at ey
    cases ey
    exact q
  refine Sat.go (sat_forL (fun p (s : List (Int × Int × Unit)) => LaneOk n s ∧ s.Nodup ∧ ∀ q ∈ s, q.1 ∈ p) (fun p a t s e hs => ?_) ⟨fun p hp => (by cases hp), List.nodup_nil, fun p hp => (by cases hp)⟩) fun s hs => .rt ⟨n, hpl, by omega, by omega, hpp, hs.1, hs.2.1⟩
  obtain ⟨a0, a1⟩ := mem_upto.mp (show a ∈ upto n by rw [e]; simp)
  have hap := nod_pre (upto_nodup n) e
  refine (Sat.eq (P := fun r => r = upto n) (rng_ok (by omega)) rfl).bind fun d18 e18 => ?_
  rw [e18]
  refine Sat.go (sat_forL (fun p2 (s : List (Int × Int × Unit)) => LaneOk n s ∧ s.Nodup ∧ ∀ q ∈ s, q.1 ∈ p ∨ (q.1 = a ∧ q.2.1 ∈ p2)) (fun p2 b t2 s e2 hs => ?_) ⟨hs.1, hs.2.1, fun q hq => .inl (hs.2.2 q hq)⟩) fun s hs => .nx ⟨hs.1, hs.2.1, fun q hq => ?_⟩
  · have hb := show b ∈ (upto n).filter (fun x => !decide (x = a)) by rw [e2]; simp
    obtain ⟨hb1, hb2⟩ := List.mem_filter.mp hb
    obtain ⟨b0, b1⟩ := mem_upto.mp hb1
    have hne : ¬ b = a := by simpa using hb2
    have hbp := nod_pre ((upto_nodup n).filter _) e2
    have hll := lane_len hs.1 hs.2.1 (by omega)
    refine (sat_at (by split <;> omega) (by rw [hl]; split <;> rename_i q <;> simp at q <;> omega)).bind fun d23 _ => ?_
    refine Sat.bind (P := fun _ => True) (sat_ifd (fun _ => .pure trivial) fun _ => (sat_mod _ (by omega)).bind fun _ _ => .pure trivial) fun d27 _ => ?_
    refine Sat.go (sat_if (fun _ => (sat_app _ (by omega)).bind fun d31 e31 => .nx (P := fun s : List (Int × Int × Unit) => LaneOk n s ∧ s.Nodup ∧ ∀ q ∈ s, q.1 ∈ p ∨ (q.1 = a ∧ q.2.1 ∈ p2 ++ [b])) ?_) fun _ => .nx ⟨hs.1, hs.2.1, fun q hq => (hs.2.2 q hq).imp id fun z => ⟨z.1, List.mem_append_left _ z.2⟩⟩) fun s hs => .nx hs
    rw [e31]
    refine ⟨hs.1.snoc ⟨⟨a0, a1⟩, ⟨b0, b1⟩, fun e => hne e.symm⟩, nod_snoc hs.2.1 fun hq => ?_, fun q hq => ?_⟩
    · rcases hs.2.2 _ hq with z | z
      · exact hap z
      · exact hbp z.2
    · rcases List.mem_append.mp hq with z | z
      · exact (hs.2.2 q z).imp id fun z => ⟨z.1, List.mem_append_left _ z.2⟩
      · rw [List.mem_singleton.mp z]
        exact .inr ⟨rfl, by simp⟩
  · rcases hs.2.2 q hq with z | z
    · exact List.mem_append_left _ z
    · rw [z.1]
      simp
theorem ringed_sat {n : Nat} {pegs : List Int} {lanes : List (Int × Int × Unit)} (hpl : pegs.length = n) (n6 : n ≤ 6) (L : LaneOk n lanes) (N : lanes.Nodup) {size : Nat} (s2 : 2 ≤ size) (sn : size ≤ n) {a b : Int} (a0 : 0 ≤ a) (a1 : a < (size : Int)) (b0 : (size : Int) ≤ b) :
    Sat (f_L_ringed (pegs, lanes, ()) (size : Int) (a, b, ())) fun r => r.1 = pegs ∧ LaneOk n r.2.1 ∧ r.2.1.Nodup ∧ (b < (n : Int) → (a, b, ()) ∈ r.2.1) := by
  unfold f_L_ringed m_L_ringed
  refine sat_ret ((Sat.eq (P := fun r => r = upto size) (rng_ok (by omega)) rfl).bind fun d1 e1 => ?_)
  rw [e1]
  refine (Sat.eq (P := fun r => r = (upto size).map fun x => (x, (x + 1) % (size : Int), ())) (mapO_ok fun x hx => ?_) rfl).bind fun d6 e6 => ?_
  · unfold modO
    rw [if_pos (show (0 : Int) < (size : Int) by omega)]
    rfl
  refine (sat_cat (by rw [e6, List.length_map]; unfold upto; simp; omega)).bind fun d8 e8 => ?_
  have hall : ∀ q ∈ d8, (0 ≤ q.1 ∧ q.1 < (n : Int)) ∧ 0 ≤ q.2.1 ∧ q.1 ≠ q.2.1 := fun q hq => by
    rw [e8, e6] at hq
    rcases List.mem_append.mp hq with z | z
    · obtain ⟨x, hx, e⟩ := List.mem_map.mp z
      obtain ⟨x0, x1⟩ := mem_upto.mp hx
      rw [← e]
      refine ⟨⟨x0, by show x < _; omega⟩, Int.emod_nonneg _ (by omega), ?_⟩
      show x ≠ (x + 1) % (size : Int)
      by_cases c : x + 1 < (size : Int)
      · rw [Int.emod_eq_of_lt (by omega) c]
        omega
      · rw [show x + 1 = (size : Int) by omega, Int.emod_self]
        omega
    · rw [List.mem_singleton.mp z]
      exact ⟨⟨a0, by show a < _; omega⟩, by show 0 ≤ b; omega, by show a ≠ b; omega⟩
  refine Sat.go (sat_forL (fun p (s : List (Int × Int × Unit)) => LaneOk n s ∧ s.Nodup ∧ ∀ q ∈ p, q.2.1 < (n : Int) → q ∈ s) (fun p x t s e hs => ?_) ⟨L, N, fun q hq => (by cases hq)⟩) fun s hs => .rt ⟨rfl, fun p hp => hs.1 p ((sortS_perm s).mem_iff.mp hp), (sortS_perm s).nodup_iff.mpr hs.2.1, fun hb => (sortS_perm s).mem_iff.mpr (hs.2.2 _ (by rw [e8]; simp) hb)⟩
  have hx := hall x (by rw [e]; simp)
  have hll := lane_len hs.1 hs.2.1 n6
  refine Sat.go (sat_if (fun h => (sat_app _ (by omega)).bind fun d14 e14 => .nx (P := fun s : List (Int × Int × Unit) => LaneOk n s ∧ s.Nodup ∧ ∀ q ∈ p ++ [x], q.2.1 < (n : Int) → q ∈ s) ?_) fun h => .nx ⟨hs.1, hs.2.1, fun q hq hn => ?_⟩) fun s hs => .nx hs
  · obtain ⟨h1, h2⟩ := Bool.and_eq_true_iff.mp h
    have h1' : x ∉ s := by
      intro hm
      rw [memD_t hm] at h1
      cases h1
    have h2' := of_decide_eq_true h2
    rw [e14]
    refine ⟨hs.1.snoc ⟨hx.1, ⟨hx.2.1, by rw [← hpl]; exact h2'⟩, hx.2.2⟩, nod_snoc hs.2.1 h1', fun q hq hn => ?_⟩
    rcases List.mem_append.mp hq with z | z
    · exact List.mem_append_left _ (hs.2.2 q z hn)
    · rw [List.mem_singleton.mp z]
      simp
  · rcases List.mem_append.mp hq with z | z
    · exact hs.2.2 q z hn
    · rw [List.mem_singleton.mp z] at hn ⊢
      by_cases hm : x ∈ s
      · exact hm
      · have z : memD x s = false := by
          cases q : memD x s with
          | false => rfl
          | true => exact absurd (memD_iff.mp q) hm
        rw [z, decide_eq_true (show x.2.1 < (((pegs, lanes, ()) : (List Int) × (List (Int × Int × Unit)) × Unit).1.length : Int) by show x.2.1 < (pegs.length : Int); rw [hpl]; exact hn)] at h
        cases h
end Pg
set_option Elab.async false
set_option linter.all false
set_option maxRecDepth 100000
set_option maxHeartbeats 1000000
namespace Pg
open L2

/-! ### a town, its houses numbered anew -/
structure Twn (n most : Nat) (pegs : List Int) (lanes : List (Int × Int × Unit)) (ways : List (List Int)) : Prop where
  s : Strt n pegs lanes
  wk : ∀ w ∈ ways, WOk n lanes w ∧ w.length ≤ 7
  lo : ∀ h : Int, 0 ≤ h → h < (n : Int) → (load ways h : Int) ≤ pegs.getD h.toNat 0
  ln : ways.length ≤ most
theorem load_snoc (ws : List (List Int)) (w : List Int) (h : Int) : load (ws ++ [w]) h = load ws h + if isAt h w = true then 1 else 0 := by
  unfold load
  rw [List.filter_append, List.length_append]
  by_cases q : isAt h w = true
  · rw [if_pos q, List.filter_cons_of_pos q]
    rfl
  · rw [if_neg q, List.filter_cons_of_neg q]
    rfl
theorem load_perm {ws vs : List (List Int)} (p : ws.Perm vs) (h : Int) : load ws h = load vs h := (p.filter _).length_eq
def nmF (n : Nat) (turn back : Int) (k : Int) : Int := (turn + k * (1 - 2 * back)) % (n : Int)
theorem nm_rng {n : Nat} (h : 2 ≤ n) (turn back k : Int) : 0 ≤ nmF n turn back k ∧ nmF n turn back k < (n : Int) := ⟨Int.emod_nonneg _ (by omega), Int.emod_lt_of_pos _ (by omega)⟩
theorem nm_inj {n : Nat} (h2 : 2 ≤ n) (h6 : n ≤ 6) {turn back a b : Int} (hb : back = 0 ∨ back = 1) (a0 : 0 ≤ a) (a1 : a < (n : Int)) (b0 : 0 ≤ b) (b1 : b < (n : Int)) (e : nmF n turn back a = nmF n turn back b) : a = b := by
  unfold nmF at e
  have : n = 2 ∨ n = 3 ∨ n = 4 ∨ n = 5 ∨ n = 6 := by omega
  rcases hb with q | q <;> subst q <;> rcases this with r | r | r | r | r <;> subst r <;> omega
theorem nm_sur {n : Nat} (h2 : 2 ≤ n) (h6 : n ≤ 6) {turn back h : Int} (hb : back = 0 ∨ back = 1) (a0 : 0 ≤ h) (a1 : h < (n : Int)) : ∃ j : Nat, j < n ∧ nmF n turn back (j : Int) = h := by
  have hn : (0 : Int) < (n : Int) := by omega
  have r0 := Int.emod_nonneg ((h - turn) * (1 - 2 * back)) (show (n : Int) ≠ 0 by omega)
  have r1 := Int.emod_lt_of_pos ((h - turn) * (1 - 2 * back)) hn
  refine ⟨(((h - turn) * (1 - 2 * back)) % (n : Int)).toNat, by omega, ?_⟩
  rw [Int.toNat_of_nonneg r0]
  unfold nmF
  have : n = 2 ∨ n = 3 ∨ n = 4 ∨ n = 5 ∨ n = 6 := by omega
  rcases hb with q | q <;> subst q <;> rcases this with r | r | r | r | r <;> subst r <;> omega
theorem idxL_mem : ∀ {ys : List Int} {x : Int}, x ∈ ys → ∃ j, idxL ys x = some j
  | y :: ys, x, h => by
    unfold idxL
    by_cases e : y = x
    · exact ⟨0, by rw [if_pos e]⟩
    · rcases List.mem_cons.mp h with q | q
      · exact absurd q.symm e
      · obtain ⟨j, hj⟩ := idxL_mem q
        exact ⟨j + 1, by rw [if_neg e, hj]; rfl⟩
theorem upto_at {n i : Nat} (h : i < n) : (upto n)[i]? = some (i : Int) := by
  unfold upto
  rw [List.getElem?_map, List.getElem?_range h]
  rfl
theorem isAt_map {n : Nat} {lanes : List (Int × Int × Unit)} {w : List Int} {f : Int → Int} {j : Int} (W : WOk n lanes w) (hf : ∀ a b, 0 ≤ a → a < (n : Int) → 0 ≤ b → b < (n : Int) → f a = f b → a = b) (j0 : 0 ≤ j) (j1 : j < (n : Int)) : isAt (f j) (w.map f) = isAt j w := by
  unfold isAt
  rw [List.length_map, wtop_map f W.1]
  have t := W.top
  by_cases e : wtop w = j
  · rw [decide_eq_true e, decide_eq_true (congrArg f e)]
  · rw [decide_eq_false e, decide_eq_false fun q => e (hf _ _ t.1 t.2 j0 j1 q)]
theorem load_map {n : Nat} {lanes : List (Int × Int × Unit)} {ws : List (List Int)} {f : Int → Int} {j : Int} (W : ∀ w ∈ ws, WOk n lanes w) (hf : ∀ a b, 0 ≤ a → a < (n : Int) → 0 ≤ b → b < (n : Int) → f a = f b → a = b) (j0 : 0 ≤ j) (j1 : j < (n : Int)) : load (ws.map (List.map f)) (f j) = load ws j := by
  unfold load
  rw [List.filter_map, List.length_map]
  congr 1
  exact List.filter_congr fun w hw => isAt_map (W w hw) hf j0 j1
theorem renamed_sat {n most : Nat} {pegs : List Int} {lanes : List (Int × Int × Unit)} {ways : List (List Int)} (T : Twn n most pegs lanes ways) {turn back : Int} (ht : 0 ≤ turn ∧ turn < 6) (hb : back = 0 ∨ back = 1) :
    Sat (f_L_renamed (pegs, lanes, ()) ways turn back) fun r => Twn n most r.1.1 r.1.2.1 r.2.1 := by
  have hpl := T.s.pl
  have n2 := T.s.n2
  have n6 := T.s.n6
  unfold f_L_renamed m_L_renamed
  refine sat_ret ((Sat.eq (P := fun r => r = upto n) (by rw [hpl]; exact rng_ok (by omega)) rfl).bind fun d1 e1 => ?_)
  rw [e1]
  refine (Sat.eq (P := fun r => r = (upto n).map (nmF n turn back)) (mapO_ok fun x hx => ?_) rfl).bind fun d8 e8 => ?_
  · obtain ⟨x0, x1⟩ := mem_upto.mp hx
    unfold mulO modO
    rw [if_pos (Or.inl ⟨by omega, by omega⟩), Option.bind_some, hpl, if_pos (show (0 : Int) < (n : Int) by omega)]
    rfl
  have at8 : ∀ h : Int, 0 ≤ h → h < (n : Int) → atI d8 h = some (nmF n turn back h) := fun h h0 h1 => by
    rw [atI_nn _ h0, e8, List.getElem?_map, upto_at (show h.toNat < n by omega), Option.map_some, Int.toNat_of_nonneg h0]
  refine (Sat.eq (P := fun r => r = upto n) (by rw [hpl]; exact rng_ok (by omega)) rfl).bind fun d10 e10 => ?_
  rw [e10]
  refine (sat_map (P := fun x y => ∃ j : Nat, j < n ∧ nmF n turn back (j : Int) = x ∧ y = pegs.getD j 0) fun x hx => ?_).bind fun d17 e17 => ?_
  · obtain ⟨x0, x1⟩ := mem_upto.mp hx
    obtain ⟨j, hj, ej⟩ := nm_sur n2 n6 (turn := turn) hb x0 x1
    obtain ⟨i, hi⟩ := idxL_mem (ys := d8) (x := x) (by
      rw [e8]
      exact List.mem_map.mpr ⟨(j : Int), mem_upto.mpr ⟨by omega, by omega⟩, ej⟩)
    have z := (idxL_some hi).1
    have hin : i < n := by
      have := (List.getElem?_eq_some_iff.mp z).1
      rw [e8, List.length_map, upto_len] at this
      exact this
    rw [e8, List.getElem?_map, upto_at hin] at z
    cases z
    refine (Sat.eq (P := fun r => r = (i : Int)) (by unfold idxO; rw [hi]) rfl).bind fun d13 e13 => ?_
    rw [e13, atI_cast, getD_some (show i < pegs.length by omega)]
    exact .pure ⟨i, hin, rfl, rfl⟩
  refine (Sat.eq (P := fun r => r = lanes.map fun q => (nmF n turn back q.1, nmF n turn back q.2.1, ())) (mapO_ok fun x hx => ?_) rfl).bind fun d24 e24 => ?_
  · obtain ⟨⟨a0, a1⟩, ⟨b0, b1⟩, _⟩ := T.s.la x hx
    rw [at8 _ a0 a1, at8 _ b0 b1]
    rfl
  refine (Sat.eq (P := fun r => r = ways.map (List.map (nmF n turn back))) (mapO_ok fun x hx => ?_) rfl).bind fun d32 e32 => .rt ?_
  · rw [mapO_ok (g := nmF n turn back) fun h hh => by
      obtain ⟨a0, a1⟩ := (T.wk x hx).1.2.1 h hh
      rw [at8 _ a0 a1]
      rfl]
    rfl
  have inj : ∀ a b : Int, 0 ≤ a → a < (n : Int) → 0 ≤ b → b < (n : Int) → nmF n turn back a = nmF n turn back b → a = b := fun a b a0 a1 b0 b1 e => nm_inj n2 n6 hb a0 a1 b0 b1 e
  have hl17 : d17.length = n := by rw [e17.1, upto_len]
  have at17 : ∀ j : Nat, j < n → d17.getD (nmF n turn back (j : Int)).toNat 0 = pegs.getD j 0 := fun j hj => by
    have r := nm_rng n2 turn back (j : Int)
    obtain ⟨y, ey, i, hi, ei, q⟩ := e17.2 (nmF n turn back (j : Int)).toNat _ (upto_at (by omega))
    rw [Int.toNat_of_nonneg r.1] at ei
    have := inj _ _ (by omega) (by omega) (by omega) (by omega) ei
    rw [List.getD_eq_getElem?_getD, ey, q, show i = j by omega] <;> rfl
  have mem24 : ∀ q, q ∈ sortS d24 ↔ ∃ x ∈ lanes, (nmF n turn back x.1, nmF n turn back x.2.1, ()) = q := fun q => by
    rw [(sortS_perm d24).mem_iff, e24, List.mem_map]
  refine ⟨⟨hl17, n2, n6, fun p hp => ?_, fun q hq => ?_, ?_⟩, fun w hw => ?_, fun h h0 h1 => ?_, ?_⟩
  · replace hp : p ∈ d17 := hp
    obtain ⟨i, hi⟩ := List.mem_iff_getElem?.mp hp
    have hin : i < n := by
      have := (List.getElem?_eq_some_iff.mp hi).1
      omega
    obtain ⟨y, ey, j, hj, ej, q⟩ := e17.2 i _ (upto_at hin)
    rw [hi] at ey
    cases ey
    rw [q]
    refine T.s.pp _ ?_
    rw [List.getD_eq_getElem?_getD, List.getElem?_eq_getElem (show j < pegs.length by omega)]
    exact List.getElem_mem _
  · obtain ⟨x, hx, e⟩ := (mem24 q).mp hq
    obtain ⟨⟨a0, a1⟩, ⟨b0, b1⟩, ne⟩ := T.s.la x hx
    rw [← e]
    exact ⟨nm_rng n2 _ _ _, nm_rng n2 _ _ _, fun z => ne (inj _ _ a0 a1 b0 b1 z)⟩
  · rw [(sortS_perm d24).nodup_iff, e24]
    refine List.pairwise_map.mpr (List.Pairwise.imp_of_mem (fun {x y} hx hy ne e => ne ?_) T.s.nd)
    obtain ⟨⟨a0, a1⟩, ⟨b0, b1⟩, _⟩ := T.s.la x hx
    obtain ⟨⟨c0, c1⟩, ⟨d0, d1⟩, _⟩ := T.s.la y hy
    obtain ⟨e1, e2⟩ := Prod.mk.inj e
    obtain ⟨e2, _⟩ := Prod.mk.inj e2
    have p1 := inj _ _ a0 a1 c0 c1 e1
    have p2 := inj _ _ b0 b1 d0 d1 e2
    obtain ⟨x1, x2, ⟨⟩⟩ := x
    obtain ⟨y1, y2, ⟨⟩⟩ := y
    simp at p1 p2
    rw [p1, p2]
  · rw [e32] at hw
    obtain ⟨v, hv, e⟩ := List.mem_map.mp hw
    rw [← e, List.length_map]
    exact ⟨(T.wk v hv).1.map _ (fun h _ _ => nm_rng n2 _ _ _) fun a b hab => (mem24 _).mpr ⟨(a, b, ()), hab, rfl⟩, (T.wk v hv).2⟩
  · obtain ⟨j, hj, ej⟩ := nm_sur n2 n6 (turn := turn) hb h0 h1
    rw [← ej, at17 j hj, e32, load_map (fun w hw => (T.wk w hw).1) inj (by omega) (by omega)]
    have z := T.lo (j : Int) (by omega) (by omega)
    rw [Int.toNat_natCast] at z
    exact z
  · rw [e32, List.length_map]
    exact T.ln
end Pg
set_option Elab.async false
set_option linter.all false
set_option maxRecDepth 100000
set_option maxHeartbeats 1000000
namespace Pg
open L2

/-! ### the whole town -/
structure WW (n : Nat) (lanes : List (Int × Int × Unit)) (room : List Int) (ways : List (List Int)) : Prop where
  wk : ∀ w ∈ ways, WOk n lanes w ∧ w.length ≤ 7
  lo : ∀ h : Int, 0 ≤ h → h < (n : Int) → (load ways h : Int) ≤ room.getD h.toNat 0
section
variable {n : Nat} {lanes : List (Int × Int × Unit)} {room : List Int} {ways : List (List Int)}
theorem WW.snoc (V : WW n lanes room ways) {w : List Int} (W : WOk n lanes w) (hl : w.length ≤ 7) (h : w.length = 1 ∨ (load ways (wtop w) : Int) < room.getD (wtop w).toNat 0) : WW n lanes room (ways ++ [w]) := by
  refine ⟨fun v hv => ?_, fun x h0 h1 => ?_⟩
  · rcases List.mem_append.mp hv with q | q
    · exact V.wk v q
    · rw [List.mem_singleton.mp q]
      exact ⟨W, hl⟩
  · rw [load_snoc]
    have z := V.lo x h0 h1
    by_cases q : isAt x w = true
    · rw [if_pos q]
      unfold isAt at q
      obtain ⟨q1, q2⟩ := Bool.and_eq_true_iff.mp q
      have q1 := of_decide_eq_true q1
      have q2 := of_decide_eq_true q2
      rcases h with h | h
      · omega
      · rw [q2] at h
        omega
    · rw [if_neg q]
      exact z
theorem WW.perm (V : WW n lanes room ways) {vs : List (List Int)} (p : ways.Perm vs) : WW n lanes room vs :=
  ⟨fun w hw => V.wk w (p.mem_iff.mpr hw), fun h h0 h1 => by rw [← load_perm p h]; exact V.lo h h0 h1⟩
theorem WW.cut (V : WW n lanes room ways) : WW n lanes room (ways.map fun w => w.take 1) := by
  refine ⟨fun w hw => ?_, fun h h0 h1 => ?_⟩
  · obtain ⟨v, hv, e⟩ := List.mem_map.mp hw
    rw [← e]
    exact ⟨(V.wk v hv).1.take1, by rw [List.length_take]; omega⟩
  · have z := V.lo h h0 h1
    have : load (ways.map fun w => w.take 1) h = 0 := by
      unfold load
      rw [List.length_eq_zero_iff, List.filter_eq_nil_iff]
      intro w hw q
      obtain ⟨v, hv, e⟩ := List.mem_map.mp hw
      unfold isAt at q
      have q1 := of_decide_eq_true (Bool.and_eq_true_iff.mp q).1
      rw [← e, List.length_take] at q1
      omega
    omega
end
theorem fmax_mem : ∀ (xs : List Int) (a : Int), xs.foldl max a ∈ a :: xs
  | [], a => List.mem_cons_self
  | x :: xs, a => by
    rw [List.foldl_cons]
    rcases List.mem_cons.mp (fmax_mem xs (max a x)) with e | e
    · rw [e]
      by_cases q : a ≤ x
      · rw [Int.max_eq_right q]
        simp
      · rw [Int.max_eq_left (by omega)]
        simp
    · exact List.mem_cons_of_mem _ (List.mem_cons_of_mem _ e)
theorem sat_max {a : Int} {xs : List Int} : Sat (maxL (a :: xs)) fun v => v ∈ a :: xs := .pure (fmax_mem xs a)
theorem mem_rng {lo hi x : Int} (h : x ∈ rng lo hi) : lo ≤ x ∧ x < hi := by
  unfold rng at h
  obtain ⟨i, hi, e⟩ := List.mem_map.mp h
  have := List.mem_range.mp hi
  omega
theorem rows_at {most : Nat} {rows : List (List Int)} (h : rows.length = most ∧ ∀ (i : Nat) x, (upto most)[i]? = some x → ∃ y, rows[i]? = some y ∧ Row7 y) {i : Nat} (hi : i < most) : Sat (atI rows (i : Int)) Row7 := by
  obtain ⟨y, ey, q⟩ := h.2 i _ (upto_at hi)
  rw [atI_cast, ey]
  exact .pure q
theorem cnt_take (l : List Int) (k : Nat) (h : Int) : (l.take k).count h ≤ l.count h := (List.take_sublist k l).count_le h
theorem digs_pos {zs : List Int} (h : (zs.all fun z => decide (0 < z ∧ z < 1073741824)) = true) : ∀ z ∈ zs, 0 < z ∧ z < 1073741824 := fun z hz => of_decide_eq_true (List.all_eq_true.mp h z hz)
def gp (g x : Int) : Int := if decide (x = g) = true then 1 else 0
theorem gp_rng (g x : Int) : 0 ≤ gp g x ∧ gp g x ≤ 1 := by
  unfold gp
  split <;> omega
/-- the filled pegs of the ring's houses -/
theorem held_sat {pegs : List Int} {n size : Nat} (hpl : pegs.length = n) (hpp : ∀ p ∈ pegs, 2 ≤ p ∧ p ≤ 9) (n6 : n ≤ 6) (sn : size ≤ n) (g : Int) {B R : Type} :
    Sat (forO (B := B) (R := R) (fun (x65 : Int) (s64 : (List Int)) => ((atI pegs x65).bind fun d66 => ((repO [x65] (d66 - (if (decide (x65 = g)) = true then 1 else 0 : Int))).bind fun d68 => ((catO s64 d68).bind fun d70 => some (.nx d70))))) (upto size) ([] : (List Int))) (Nx fun s => (∀ x ∈ s, 0 ≤ x ∧ x < (n : Int)) ∧ ∀ h : Int, 0 ≤ h → h < (n : Int) → (s.count h : Int) ≤ pegs.getD h.toNat 0 - gp g h) := by
  have pg2 : ∀ h : Int, 0 ≤ h → h < (n : Int) → 2 ≤ pegs.getD h.toNat 0 ∧ pegs.getD h.toNat 0 ≤ 9 := fun h h0 h1 => by
    refine hpp _ ?_
    rw [List.getD_eq_getElem?_getD, List.getElem?_eq_getElem (show h.toNat < pegs.length by omega)]
    exact List.getElem_mem _
  refine (sat_forU (fun i (s : List Int) => (∀ x ∈ s, 0 ≤ x ∧ x < (i : Int)) ∧ (∀ h : Int, 0 ≤ h → h < (n : Int) → (s.count h : Int) ≤ pegs.getD h.toNat 0 - gp g h) ∧ s.length ≤ 9 * i) (fun i s hi hs => ?_) ⟨fun x hx => (by cases hx), fun h h0 h1 => ?_, by simp⟩).nxm fun s hs => ⟨fun x hx => ⟨(hs.1 x hx).1, by have := (hs.1 x hx).2; omega⟩, hs.2.1⟩
  · have r := gp_rng g (i : Int)
    have q := pg2 (i : Int) (by omega) (by omega)
    rw [Int.toNat_natCast] at q
    refine (Sat.eq (P := fun p => p = pegs.getD i 0) (by rw [atI_cast]; exact getD_some (by omega)) rfl).bind fun d66 e66 => ?_
    refine (Sat.eq (P := fun r => r = List.replicate (pegs.getD i 0 - gp g (i : Int)).toNat (i : Int)) (show repO [(i : Int)] (d66 - gp g (i : Int)) = _ from ?_) rfl).bind fun d68 e68 => (sat_cat ?_).bind fun d70 e70 => .nx ?_
    · unfold repO
      rw [e66, if_pos ⟨by omega, by omega, by simp⟩, List.flatten_replicate_singleton]
    · rw [e68, List.length_replicate]
      omega
    · rw [e70, e68]
      refine ⟨fun x hx => ?_, fun h h0 h1 => ?_, ?_⟩
      · rcases List.mem_append.mp hx with z | z
        · have := hs.1 x z
          omega
        · rw [List.eq_of_mem_replicate z]
          omega
      · rw [List.count_append, List.count_replicate]
        by_cases e : (i : Int) = h
        · have c0 : s.count h = 0 := List.count_eq_zero.mpr fun hm => by
            have := hs.1 h hm
            omega
          rw [if_pos (by simpa using e), c0, ← e, Int.toNat_natCast]
          omega
        · rw [if_neg (by simpa using e)]
          exact hs.2.1 h h0 h1
      · rw [List.length_append, List.length_replicate]
        omega
  · have := pg2 h h0 h1
    have := gp_rng g h
    rw [List.count_nil]
    omega
structure Half (n most : Nat) (pegs : List Int) (x : (((List Int) × (List (Int × Int × Unit)) × Unit) × (List Int) × (List (List Int)))) : Prop where
  e1 : x.1.1 = pegs
  la : LaneOk n x.1.2.1
  nd : x.1.2.1.Nodup
  rl : x.2.1.length = n
  rp : ∀ h : Int, 0 ≤ h → h < (n : Int) → x.2.1.getD h.toNat 0 ≤ pegs.getD h.toNat 0
  ww : WW n x.1.2.1 x.2.1 x.2.2
  wl : x.2.2.length ≤ most
end Pg
set_option Elab.async false
set_option linter.all false
set_option maxRecDepth 100000
set_option maxHeartbeats 2000000
namespace Pg
open L2

theorem sat_rng2 {lo hi : Int} (h : -100000 ≤ lo ∧ lo ≤ 100000 ∧ -100000 ≤ hi ∧ hi ≤ 100000) : Sat (rngO lo hi) fun r => r = rng lo hi := by
  unfold rngO
  rw [if_pos h]
  exact .pure rfl
theorem town_sat (s : List Int) {k : Int} (hk : 0 ≤ k) {menu kinds : List Int} (hm : menu.length = 6) (hv : ∀ m ∈ menu, 2 ≤ m ∧ m ≤ 9) (hkl : kinds.length = 16) (hkk : ∀ m ∈ kinds, 0 ≤ m ∧ m ≤ 7) {most : Nat} (h10 : 10 ≤ most) (h18 : most ≤ 18) :
    Sat (f_L_town s k menu kinds (most : Int)) fun r => ∃ n, Twn n most r.1.1 r.1.2.1 r.2.1 := by
  unfold f_L_town m_L_town
  rw [show (([(8 : Int)] ++ (List.replicate 6 [(6 : Int)]).flatten) ++ (List.replicate 30 [(10 : Int)]).flatten) = Z37 from rfl, show ([(8 : Int)] ++ (List.replicate 6 [(6 : Int)]).flatten) = [8, 6, 6, 6, 6, 6, 6] from rfl]
  refine sat_ret ((cell_sat s hk).bind fun d1 _ => (digits_sat d1 (zs := Z37) (digs_pos (by decide)) (by decide)).bind fun d3 D3 => (street_sat hm hv D3).bind fun d5 e5 => ?_)
  obtain ⟨n, St⟩ := e5
  obtain ⟨pegs, lanes, ⟨⟩⟩ := d5
  dsimp only
  have hpl : pegs.length = n := St.pl
  have n2 := St.n2
  have n6 := St.n6
  have hpp : ∀ p ∈ pegs, 2 ≤ p ∧ p ≤ 9 := St.pp
  refine (cell_sat s (k := k + 1) (by omega)).bind fun d7 _ => (digits_sat d7 (digs_pos (by decide)) (by decide)).bind fun d9 D9 => ?_
  refine (D9.at 0 rfl).bind fun d11 e11 => (sat_mem e11.1 (by rw [hkl]; exact e11.2)).bind fun d13 e13 => ?_
  have k13 := hkk d13 e13
  refine (D9.at 1 rfl).bind fun d15 e15 => (sat_mem e15.1 (by exact e15.2)).bind fun d17 e17 => ?_
  have g13 : 0 ≤ (if (decide (d13 < (7 : Int))) = true then 1 else 0 : Int) ∧ (if (decide (d13 < (7 : Int))) = true then 1 else 0 : Int) ≤ 1 := by split <;> omega
  refine (sat_rng2 (by omega)).bind fun d19 e19 => ?_
  have l19 : d19.length ≤ 100 := by
    rw [e19]
    unfold rng
    rw [List.length_map, List.length_range]
    omega
  refine (sat_cat (by have := List.length_filter_le (fun (x21 : Int) => ((decide (x21 ≤ d17)) && (decide (((cutD pegs none (some x21)).sum) ≤ ((most : Int) - (2 : Int)))))) d19; rw [List.length_singleton]; omega)).bind fun d22 e22 => ?_
  rw [e22]
  refine sat_max.bind fun d24 e24 => ?_
  have b24 : 2 ≤ d24 ∧ d24 ≤ (n : Int) := by
    rcases List.mem_cons.mp e24 with q | q
    · omega
    · have z := (List.mem_filter.mp q).1
      rw [e19] at z
      have := mem_rng z
      omega
  obtain ⟨size, rfl⟩ : ∃ size : Nat, d24 = (size : Int) := ⟨d24.toNat, by omega⟩
  refine (D9.at 2 rfl).bind fun d26 _ => (sat_mod d26 (show (0 : Int) < (size : Int) by omega)).bind fun d28 e28 => (D9.at 3 rfl).bind fun d30 _ => (sat_mod d30 (by split <;> omega)).bind fun d32 e32 => ?_
  have hside : (size : Int) < (n : Int) → (size : Int) + d32 < (n : Int) := fun h => by
    have z := e32.2
    split at z <;> omega
  refine (Sat.eq (P := fun r => r = upto most) (rng_ok (by omega)) rfl).bind fun d34 e34 => ?_
  rw [e34]
  refine (sat_map (P := fun _ y => Row7 y) fun x hx => ?_).bind fun rows hrows => ?_
  · have := mem_upto.mp hx
    exact (cell_sat s (by omega)).bind fun d37 _ => (digits_sat d37 (digs_pos (by decide)) (by decide)).bind fun d39 D39 => .pure D39
  rw [upto_len] at hrows
  have g3 := (D9.at 3 rfl)
  refine Sat.go (P := Half n most pegs) (sat_ifd (fun h5 => ?_) fun h5 => .nx ⟨rfl, St.la, St.nd, hpl, fun h _ _ => Int.le_refl _, ⟨fun w hw => (by cases hw), fun h h0 h1 => ?_⟩, Nat.zero_le _⟩) fun s44 H => ?_
  · refine (ringed_sat hpl n6 St.la St.nd (size := size) (by omega) (by omega) e28.1 e28.2 (b := (size : Int) + d32) (by omega)).bind fun d45 e45 => ?_
    obtain ⟨p45, l45, ⟨⟩⟩ := d45
    obtain ⟨q1, q2, q3, q4⟩ := e45
    dsimp only at q1 q2 q3 q4 ⊢
    subst q1
    refine (D9.at 3 rfl).bind fun d47 _ => (sat_mod d47 (show (0 : Int) < (size : Int) by omega)).bind fun d49 e49 => (sat_mem (by omega) (by show d13 - 5 < 3; omega)).bind fun g _ => ?_
    refine Sat.go (P := fun room : List Int => room.length = n ∧ ∀ h : Int, 0 ≤ h → h < (n : Int) → p45.getD h.toNat 0 - gp g h ≤ room.getD h.toNat 0 ∧ room.getD h.toNat 0 ≤ p45.getD h.toNat 0) (sat_if (fun _ => ?_) fun _ => .nx ⟨hpl, fun h _ _ => by have := gp_rng g h; omega⟩) fun room hroom => ?_
    · refine (Sat.eq (P := fun r => r = upto n) (by rw [hpl]; exact rng_ok (by omega)) rfl).bind fun d55 e55 => ?_
      rw [e55]
      refine (sat_map (P := fun x y => y = p45.getD x.toNat 0 - gp g x) fun x hx => ?_).bind fun d60 e60 => .nx ?_
      · obtain ⟨x0, x1⟩ := mem_upto.mp hx
        refine (Sat.eq (P := fun p => p = p45.getD x.toNat 0) (by rw [atI_nn _ x0]; exact getD_some (by omega)) rfl).bind fun d58 e58 => ?_
        rw [e58]
        exact .pure rfl
      · rw [upto_len] at e60
        refine ⟨e60.1, fun h h0 h1 => ?_⟩
        obtain ⟨y, ey, q⟩ := e60.2 h.toNat _ (upto_at (by omega))
        rw [Int.toNat_natCast, Int.toNat_of_nonneg h0] at q
        have ey' : d60.getD h.toNat 0 = y := by
          rw [List.getD_eq_getElem?_getD, ey] <;> rfl
        have := gp_rng g h
        rw [ey', q]
        omega
    refine (Sat.eq (P := fun r => r = upto size) (rng_ok (by omega)) rfl).bind fun d62 e62 => ?_
    rw [e62]
    refine Sat.go (held_sat hpl hpp n6 (by omega) g) fun held hheld => ?_
    rw [show (most : Int) - 2 = ((most - 2 : Nat) : Int) by omega, cut_take]
    refine Sat.go (P := fun ws : List (List Int) => WW n l45 room ws ∧ ws.length ≤ most - 2) ((sat_forL (fun p (ws : List (List Int)) => (∀ w ∈ ws, WOk n l45 w ∧ w.length ≤ 7) ∧ (∀ h : Int, load ws h ≤ p.count h) ∧ ws.length = p.length) (fun p x t ws e hws => ?_) ⟨fun w hw => (by cases hw), fun h => (by rw [List.count_nil]; exact Nat.le_refl _), rfl⟩).nxm fun ws hws => ⟨⟨hws.1, fun h h0 h1 => ?_⟩, ?_⟩) fun ws hws => ?_
    · have hlt : ws.length < most := by
        have z := congrArg List.length e
        rw [List.length_append, List.length_cons, List.length_take] at z
        omega
      have hx := hheld.1 x ((List.take_sublist _ _).subset (show x ∈ held.take (most - 2) by rw [e]; simp))
      refine (rows_at hrows hlt).bind fun d74 D74 => (waiting_sat q2 hx.1 hx.2 D74).bind fun d76 e76 => (sat_app _ (by omega)).bind fun d78 e78 => .nx ?_
      rw [e78]
      refine ⟨fun w hw => ?_, fun h => ?_, ?_⟩
      · rcases List.mem_append.mp hw with z | z
        · exact hws.1 w z
        · rw [List.mem_singleton.mp z]
          exact ⟨e76.1, by have := e76.2.1; omega⟩
      · rw [load_snoc, List.count_append, List.count_singleton]
        have z := hws.2.1 h
        by_cases q : isAt h d76 = true
        · unfold isAt at q
          have q2 := of_decide_eq_true (Bool.and_eq_true_iff.mp q).2
          rw [e76.2.2] at q2
          rw [if_pos (show (x == h) = true by rw [q2]; simp)]
          split <;> omega
        · rw [if_neg q]
          omega
      · rw [List.length_append, List.length_append, hws.2.2]
        rfl
    · have z1 := hws.2.1 h
      have z2 := cnt_take held (most - 2) h
      have z3 := hheld.2 h h0 h1
      have z4 := (hroom.2 h h0 h1).1
      omega
    · rw [hws.2.2, List.length_take]
      omega
    refine (D9.at 6 rfl).bind fun d80 e80 => ?_
    obtain ⟨m80, rfl⟩ : ∃ m80 : Nat, d80 = (m80 : Int) := ⟨d80.toNat, by omega⟩
    refine (Sat.eq (P := fun r => r = upto (1 + m80)) (by rw [show (1 : Int) + (m80 : Int) = ((1 + m80 : Nat) : Int) by omega]; exact rng_ok (by omega)) rfl).bind fun d82 e82 => ?_
    rw [e82]
    refine Sat.go (P := fun ws : List (List Int) => WW n l45 room ws ∧ ws.length ≤ most) ((sat_forU (fun i (ws : List (List Int)) => WW n l45 room ws ∧ ws.length ≤ most - 2 + i) (fun i ws hi hws => ?_) ⟨hws.1, hws.2⟩).nxm fun ws hws => ⟨hws.1, by omega⟩) fun ws hws => .nx ⟨rfl, q2, q3, hroom.1, fun h h0 h1 => (hroom.2 h h0 h1).2, hws.1, hws.2⟩
    refine Sat.bind (P := fun b : Bool => b = true → (size : Int) + d32 < (n : Int) ∧ (load ws ((size : Int) + d32) : Int) < room.getD ((size : Int) + d32).toNat 0) (sat_ifd (fun _ => sat_ifd (fun hs => ?_) fun _ => .pure fun e => (by cases e)) fun _ => .pure fun e => (by cases e)) fun b hb => ?_
    · rw [hpl] at hs
      have hs2 := hside hs
      rw [L_load_eq, Option.bind_some]
      refine (Sat.eq (P := fun p => p = room.getD ((size : Int) + d32).toNat 0) (by rw [atI_nn _ (show 0 ≤ (size : Int) + d32 by omega)]; exact getD_some (by rw [hroom.1]; omega)) rfl).bind fun d88 e88 => .pure fun e => ⟨hs2, ?_⟩
      have := of_decide_eq_true e
      rw [← e88]
      exact this
    · refine Sat.go (sat_if (fun e => ?_) fun e => .nx (P := fun ws : List (List Int) => WW n l45 room ws ∧ ws.length ≤ most - 2 + (i + 1)) ⟨hws.1, by omega⟩) fun ws hws => .nx hws
      obtain ⟨b1, b2⟩ := hb e
      refine (rows_at hrows (show ws.length < most by omega)).bind fun d94 D94 => (waiting_sat q2 e28.1 (show d28 < (n : Int) by omega) D94).bind fun d96 e96 => (sat_cat (by rw [List.length_singleton]; have := e96.2.1; omega)).bind fun d98 e98 => (sat_app _ (by omega)).bind fun d100 e100 => .nx ?_
      rw [e100, e98]
      refine ⟨hws.1.snoc (e96.1.snoc (by omega) b1 ?_) ?_ (.inr ?_), ?_⟩
      · rw [e96.2.2]
        exact q4 b1
      · rw [List.length_append, List.length_singleton]
        have := e96.2.1
        omega
      · rw [wtop_snoc]
        exact b2
      · rw [List.length_append, List.length_singleton]
        omega
  · have : pegs.getD h.toNat 0 ∈ pegs := by
      rw [List.getD_eq_getElem?_getD, List.getElem?_eq_getElem (show h.toNat < pegs.length by omega)]
      exact List.getElem_mem _
    have z := (hpp _ this).1
    show ((0 : Nat) : Int) ≤ pegs.getD h.toNat 0
    omega
  obtain ⟨⟨p44, l44, ⟨⟩⟩, room, ways0⟩ := s44
  obtain ⟨H1, H2, H3, H4, H5, H6, H7⟩ := H
  dsimp only at H1 H2 H3 H4 H5 H6 H7 ⊢
  subst H1
  refine (D9.at 4 rfl).bind fun d102 e102 => (sat_mem e102.1 (by exact e102.2)).bind fun d104 e104 => ?_
  have b104 : 0 ≤ d104 ∧ d104 ≤ 3 := (by decide : ∀ x ∈ [(0 : Int), 1, 2, 3], 0 ≤ x ∧ x ≤ 3) d104 e104
  refine Sat.go (P := fun m : Int => 0 ≤ m ∧ m ≤ 100) (sat_ifd (fun h5 => ?_) fun _ => .nx (by omega)) fun m hm => ?_
  · refine (D9.at 5 rfl).bind fun d108 e108 => (D9.at 5 rfl).bind fun d110 e110 => (sat_mod d110 (show (0 : Int) < (most : Int) by omega)).bind fun d112 e112 => (sat_mem k13.1 (by show d13 < 5; omega)).bind fun d114 e114 => .nx ?_
    simp only [List.mem_cons, List.not_mem_nil, or_false] at e114
    rcases e114 with e | e | e | e | e <;> omega
  refine (sat_rng hm.1 (by omega)).bind fun d116 e116 => ?_
  refine Sat.go (P := fun ws : List (List Int) => WW n l44 room ws ∧ ws.length ≤ most) (sat_for _ (fun x _ ws hws => ?_) ⟨H6, H7⟩) fun ws hws => ?_
  · refine Sat.go (sat_ifd (fun hl => ?_) fun _ => .nx (P := fun ws : List (List Int) => WW n l44 room ws ∧ ws.length ≤ most) hws) fun ws hws => .nx hws
    refine (rows_at hrows (show ws.length < most by omega)).bind fun d122 D122 => (way_sat ws H2 (by omega) H4 D122).bind fun d124 e124 => (sat_app _ (by omega)).bind fun d126 e126 => .nx ?_
    rw [e126]
    refine ⟨hws.1.snoc e124.1 (by have := e124.2.1; omega) e124.2.2, ?_⟩
    rw [List.length_append, List.length_singleton]
    omega
  refine Sat.go (P := fun ws : List (List Int) => WW n l44 room ws ∧ ws.length ≤ most) (sat_if (fun _ => .nx ?_) fun _ => .nx hws) fun ws hws => ?_
  · rw [show (ws.map fun (x130 : (List Int)) => (cutD x130 none (some (1 : Int)))) = ws.map fun w => w.take 1 from List.map_congr_left fun w _ => cut_take w 1]
    exact ⟨hws.1.cut, by rw [List.length_map]; exact hws.2⟩
  refine (D9.at 5 rfl).bind fun d131 _ => (sat_mod d131 (by split <;> omega)).bind fun d133 e133 => ?_
  obtain ⟨c, rfl⟩ : ∃ c : Nat, d133 = (c : Int) := ⟨d133.toNat, by omega⟩
  rw [cut_drop, cut_take]
  refine (sat_cat (by rw [List.length_drop, List.length_take]; omega)).bind fun d135 e135 => (D9.at 8 rfl).bind fun d137 _ => ?_
  have p135 : ws.Perm d135 := by
    rw [e135]
    have := (List.perm_append_comm (l₁ := ws.drop c) (l₂ := ws.take c))
    rw [List.take_append_drop] at this
    exact this.symm
  refine Sat.go (P := fun vs : List (List Int) => WW n l44 room vs ∧ vs.length ≤ most) (sat_if (fun _ => .nx ⟨(hws.1.perm p135).perm (List.reverse_perm d135).symm, by rw [List.length_reverse, ← p135.length_eq]; exact hws.2⟩) fun _ => .nx ⟨hws.1.perm p135, by rw [← p135.length_eq]; exact hws.2⟩) fun vs hvs => ?_
  refine (D9.at 7 rfl).bind fun d141 e141 => (D9.at 8 rfl).bind fun d143 e143 => (renamed_sat (n := n) (most := most) ⟨⟨hpl, n2, n6, hpp, H2, H3⟩, hvs.1.wk, fun h h0 h1 => ?_, hvs.2⟩ e141 (by omega)).bind fun d145 e145 => .rt ⟨n, e145⟩
  have z1 := hvs.1.lo h h0 h1
  have z2 := H5 h h0 h1
  omega
end Pg
set_option Elab.async false
set_option linter.all false
set_option maxRecDepth 100000
set_option maxHeartbeats 1000000
namespace Pg
open L2

/-! ### two towns, a longer way -/
structure Gen (n : Nat) (pegs : List Int) (lanes : List (Int × Int × Unit)) (ws : List (List Int)) : Prop where
  pl : pegs.length = n
  n1 : 1 ≤ n
  nb : n ≤ 12
  pp : ∀ p ∈ pegs, 2 ≤ p ∧ p ≤ 9
  la : LaneOk n lanes
  ll : lanes.length ≤ 60
  wk : ∀ w ∈ ws, WOk n lanes w ∧ w.length ≤ 40
  lo : ∀ h : Int, 0 ≤ h → h < (n : Int) → (load ws h : Int) ≤ pegs.getD h.toNat 0
  wl : ws.length ≤ 28
theorem load_app (xs ys : List (List Int)) (h : Int) : load (xs ++ ys) h = load xs h + load ys h := by
  unfold load
  rw [List.filter_append, List.length_append]
theorem load_zero {ws : List (List Int)} {h : Int} (z : ∀ w ∈ ws, wtop w ≠ h) : load ws h = 0 := by
  unfold load
  rw [List.length_eq_zero_iff, List.filter_eq_nil_iff]
  intro w hw q
  unfold isAt at q
  exact z w hw (of_decide_eq_true (Bool.and_eq_true_iff.mp q).2)
theorem Twn.gen {n most : Nat} {pegs : List Int} {lanes : List (Int × Int × Unit)} {ways : List (List Int)} (T : Twn n most pegs lanes ways) (hm : most ≤ 18) : Gen n pegs lanes ways := by
  have h2 := T.s.n2
  have h6 := T.s.n6
  have hl := lane_len T.s.la T.s.nd h6
  have hw := T.ln
  exact ⟨T.s.pl, by omega, by omega, T.s.pp, T.s.la, by omega, fun w hw => ⟨(T.wk w hw).1, by have := (T.wk w hw).2; omega⟩, T.lo, by omega⟩
theorem beside_sat {n1 n2 : Nat} {p1 p2 : List Int} {l1 l2 : List (Int × Int × Unit)} {w1 w2 : List (List Int)} (T1 : Twn n1 18 p1 l1 w1) (T2 : Twn n2 10 p2 l2 w2) : Sat (f_L_beside ((p1, l1, ()), w1, ()) ((p2, l2, ()), w2, ())) fun r => ∃ n, Gen n r.1.1 r.1.2.1 r.2.1 := by
  have a1 := T1.s.n2
  have a2 := T2.s.n2
  have b1 := T1.s.n6
  have b2 := T2.s.n6
  have c1 := T1.s.pl
  have c2 := T2.s.pl
  have d1 := lane_len T1.s.la T1.s.nd b1
  have d2 := lane_len T2.s.la T2.s.nd b2
  have e1 := T1.ln
  have e2 := T2.ln
  unfold f_L_beside m_L_beside
  dsimp only
  rw [c1]
  refine sat_ret ((sat_cat (by rw [List.length_map]; omega)).bind fun ls els => ?_)
  have hmv : ∃ mv : List (List Int), mv = (w2.map fun (x4 : (List Int)) => (x4.map fun (x5 : Int) => (x5 + (n1 : Int)))) := ⟨_, rfl⟩
  obtain ⟨mv, emv⟩ := hmv
  rw [← emv]
  have lmv : mv.length = w2.length := by rw [emv, List.length_map]
  refine (Sat.eq (P := fun r => ∃ m : Nat, r = upto m ∧ w1.length ≤ m ∧ mv.length ≤ m) (a := upto (if (mv.length : Int) > (w1.length : Int) then (mv.length : Int) else (w1.length : Int)).toNat) ?_ ⟨_, rfl, by split <;> omega, by split <;> omega⟩).bind fun r er => ?_
  · obtain ⟨a, ea, p⟩ := sat_rng (k := (if (mv.length : Int) > (w1.length : Int) then (mv.length : Int) else (w1.length : Int))) (by split <;> omega) (by split <;> omega)
    rw [ea, p]
  obtain ⟨m, er, m1, m2⟩ := er
  rw [er]
  refine Sat.go (P := fun ws : List (List Int) => ws.Perm (w1 ++ mv)) ((sat_forU (fun i (ws : List (List Int)) => ws.Perm (w1.take i ++ mv.take i)) (fun i ws hi hws => ?_) (List.Perm.refl _)).nxm fun ws hws => by rw [List.take_of_length_le m1, List.take_of_length_le m2] at hws; exact hws) fun ws hws => ?_
  · have hl := hws.length_eq
    rw [List.length_append, List.length_take, List.length_take] at hl
    rw [show (i : Int) + 1 = ((i + 1 : Nat) : Int) by omega, cut_mid _ _ _ (Nat.le_succ i), cut_mid _ _ _ (Nat.le_succ i), show i + 1 - i = 1 by omega]
    refine (sat_cat (by rw [List.length_take]; omega)).bind fun d10 e10 => (sat_cat (by rw [e10, List.length_append, List.length_take, List.length_take]; omega)).bind fun d12 e12 => .nx ?_
    rw [e12, e10, List.take_add, List.take_add]
    have hc := List.perm_iff_count.mp hws
    refine List.perm_iff_count.mpr fun x => ?_
    have z := hc x
    simp only [List.count_append] at z ⊢
    omega
  · refine (sat_cat (by omega)).bind fun d14 e14 => .rt ⟨n1 + n2, ?_⟩
    dsimp only
    have inj : ∀ a b : Int, 0 ≤ a → a < (n2 : Int) → 0 ≤ b → b < (n2 : Int) → a + (n1 : Int) = b + (n1 : Int) → a = b := fun a b _ _ _ _ e => by omega
    rw [e14, els]
    refine ⟨by rw [List.length_append]; omega, by omega, by omega, fun p hp => ?_, fun q hq => ?_, by rw [List.length_append, List.length_map]; omega, fun w hw => ?_, fun h h0 h1 => ?_, by rw [hws.length_eq, List.length_append]; omega⟩
    · rcases List.mem_append.mp hp with z | z
      · exact T1.s.pp p z
      · exact T2.s.pp p z
    · rcases List.mem_append.mp hq with z | z
      · obtain ⟨⟨x0, x1⟩, ⟨y0, y1⟩, ne⟩ := T1.s.la q z
        exact ⟨⟨x0, by omega⟩, ⟨y0, by omega⟩, ne⟩
      · obtain ⟨x, hx, e⟩ := List.mem_map.mp z
        obtain ⟨⟨x0, x1⟩, ⟨y0, y1⟩, ne⟩ := T2.s.la x hx
        rw [← e]
        dsimp only
        exact ⟨⟨by omega, by omega⟩, ⟨by omega, by omega⟩, by omega⟩
    · rcases List.mem_append.mp (hws.mem_iff.mp hw) with z | z
      · obtain ⟨z1, z2⟩ := T1.wk w z
        exact ⟨z1.more (by omega) fun p hp => List.mem_append_left _ hp, by omega⟩
      · rw [emv] at z
        obtain ⟨v, hv, e⟩ := List.mem_map.mp z
        obtain ⟨z1, z2⟩ := T2.wk v hv
        rw [← e, List.length_map]
        exact ⟨z1.map _ (fun h _ _ => by omega) fun a b hab => List.mem_append_right _ (List.mem_map.mpr ⟨(a, b, ()), hab, rfl⟩), by omega⟩
    · rw [load_perm hws, load_app]
      by_cases c : h < (n1 : Int)
      · have z0 : load mv h = 0 := load_zero fun w hw => by
          rw [emv] at hw
          obtain ⟨v, hv, e⟩ := List.mem_map.mp hw
          have W := (T2.wk v hv).1
          have t := W.top
          rw [← e, wtop_map _ W.1]
          omega
        have z := T1.lo h h0 c
        rw [getD_l (by omega), z0]
        exact z
      · have z0 : load w1 h = 0 := load_zero fun w hw => by
          have t := (T1.wk w hw).1.top
          omega
        have z := T2.lo (h - (n1 : Int)) (by omega) (by omega)
        have ee := load_map (f := fun x5 => x5 + (n1 : Int)) (j := h - (n1 : Int)) (fun w hw => (T2.wk w hw).1) inj (by omega) (by omega)
        rw [← emv, show h - (n1 : Int) + (n1 : Int) = h by omega] at ee
        rw [z0, ee, List.getD_eq_getElem?_getD, List.getElem?_append_right (by omega), ← List.getD_eq_getElem?_getD, show h.toNat - p1.length = (h - (n1 : Int)).toNat by omega]
        omega
theorem longer_sat {n : Nat} {pegs row w : List Int} {lanes : List (Int × Int × Unit)} (L : LaneOk n lanes) (W : WOk n lanes w) (hl : w.length ≤ 40) {m : Int} (hm : m ≤ 40) : Sat (f_L_longer (pegs, lanes, ()) w m row) fun v => WOk n lanes v ∧ v.length ≤ 40 ∧ wtop v = wtop w ∧ (1 < v.length ↔ 1 < w.length) := by
  unfold f_L_longer m_L_longer
  refine sat_ret (Sat.go (sat_for (fun v : List Int => WOk n lanes v ∧ v.length ≤ 40 ∧ wtop v = wtop w ∧ (1 < v.length ↔ 1 < w.length)) (fun x _ v hv => ?_) ⟨W, hl, rfl, Iff.rfl⟩) fun v hv => .rt hv)
  rw [filO_ok (q := fun x : Int × Int × Unit => decide (x.2.1 = v.getD 0 0)) fun x _ => by
    rw [atI_0 hv.1.1]
    rfl]
  refine Sat.bind (P := fun d : List Int => ∀ y ∈ d, (y, v.getD 0 0, ()) ∈ lanes) (.pure fun y hy => ?_) fun d6 e6 => ?_
  · obtain ⟨x, hx, e⟩ := List.mem_map.mp hy
    obtain ⟨hx1, hx2⟩ := List.mem_filter.mp hx
    have q := of_decide_eq_true hx2
    rw [← e, ← q]
    exact hx1
  refine Sat.go (sat_if (fun h => ?_) fun _ => .nx (P := fun v : List Int => WOk n lanes v ∧ v.length ≤ 40 ∧ wtop v = wtop w ∧ (1 < v.length ↔ 1 < w.length)) hv) fun v hv => .nx hv
  obtain ⟨h1, h2⟩ := Bool.and_eq_true_iff.mp h
  obtain ⟨h2, h3⟩ := Bool.and_eq_true_iff.mp h2
  have h1 := of_decide_eq_true h1
  have h2 := of_decide_eq_true h2
  have h3 := of_decide_eq_true h3
  refine (sat_mod x h3).bind fun d10 e10 => (sat_mem e10.1 (by exact e10.2)).bind fun d12 e12 => (sat_cat (by rw [List.length_singleton]; omega)).bind fun d14 e14 => .nx ?_
  have l := e6 _ e12
  obtain ⟨⟨a0, a1⟩, _, _⟩ := L _ l
  have hp := hv.1.1
  have h4 := hv.2.2.2
  rw [e14]
  refine ⟨hv.1.cons a0 a1 l, ?_, ?_, ?_⟩
  · rw [List.length_append, List.length_singleton]
    omega
  · rw [← hv.2.2.1]
    exact wtop_cons d12 hp
  · rw [List.length_append, List.length_singleton]
    omega
theorem isAt_same {v w : List Int} (h1 : wtop v = wtop w) (h2 : 1 < v.length ↔ 1 < w.length) (h : Int) : isAt h v = isAt h w := by
  unfold isAt
  rw [h1]
  by_cases q : 1 < w.length
  · rw [decide_eq_true q, decide_eq_true (h2.mpr q)]
  · rw [decide_eq_false q, decide_eq_false fun z => q (h2.mp z)]
theorem Gen.put {n : Nat} {pegs : List Int} {lanes : List (Int × Int × Unit)} {ws : List (List Int)} (G : Gen n pegs lanes ws) {g : Nat} {w v : List Int} (hg : ws[g]? = some w) (W : WOk n lanes v ∧ v.length ≤ 40 ∧ wtop v = wtop w ∧ (1 < v.length ↔ 1 < w.length)) : Gen n pegs lanes (ws.take g ++ [v] ++ ws.drop (g + 1)) := by
  obtain ⟨hlt, hw⟩ := List.getElem?_eq_some_iff.mp hg
  have e : ws = ws.take g ++ [w] ++ ws.drop (g + 1) := by
    rw [List.append_assoc, List.singleton_append, ← hw, ← List.drop_eq_getElem_cons hlt, List.take_append_drop]
  refine ⟨G.pl, G.n1, G.nb, G.pp, G.la, G.ll, fun x hx => ?_, fun h h0 h1 => ?_, ?_⟩
  · rcases List.mem_append.mp hx with z | z
    · rcases List.mem_append.mp z with y | y
      · exact G.wk x ((List.take_sublist _ _).subset y)
      · rw [List.mem_singleton.mp y]
        exact ⟨W.1, W.2.1⟩
    · exact G.wk x ((List.drop_sublist _ _).subset z)
  · have z := G.lo h h0 h1
    have q : load (ws.take g ++ [v] ++ ws.drop (g + 1)) h = load ws h := by
      rw [load_app, load_snoc, isAt_same W.2.2.1 W.2.2.2 h, ← load_snoc, ← load_app, ← e]
    rw [q]
    exact z
  · have := G.wl
    rw [List.length_append, List.length_append, List.length_take, List.length_drop, List.length_singleton]
    omega
theorem Gen.ok {n : Nat} {pegs : List Int} {lanes : List (Int × Int × Unit)} {ws : List (List Int)} (G : Gen n pegs lanes ws) : Ok n pegs lanes ws := by
  have := G.nb
  have := G.wl
  refine ⟨⟨G.pl, by omega, fun p hp => by have := (G.pp p hp).1; omega, by omega, fun w hw => by have := (G.wk w hw).2; omega⟩, fun h h0 h1 => ?_, fun w hw => (G.wk w hw).1.1, fun w hw => (G.wk w hw).1.2.1, fun w hw => (G.wk w hw).1.2.2, fun p hp => (G.la p hp).2.2⟩
  have z := G.lo h h0 h1
  unfold pgOf
  omega
end Pg
set_option Elab.async false
set_option linter.all false
set_option maxRecDepth 100000
set_option maxHeartbeats 1000000
namespace Pg
open L2

/-! ### what the program answers, in both cases -/
structure Facts (n : Nat) (pegs : List Int) (lanes : List (Int × Int × Unit)) (ws : List (List Int)) (t : (Option (List Int)) × (Option (List (Int × Int × Unit)))) (ans : PastD) (com : ComD) : Prop where
  pa : ∀ st, StOk n pegs lanes st → f_pastN (mkS st ws) = some ans
  to : f_L_told ans t.2 (lotW n (pgOf pegs) ws) = some true
  po : f_Past_possible ans = some (decide (lotW n (pgOf pegs) ws = []))
  hc : ∀ st, StOk n pegs lanes st → f_home_coming (mkS st ws) = some com
  cr : com.row = t.1
  cl : com.lot = lotW n (pgOf pegs) ws
  cm : f_Coming_reached com = some (decide (lotW n (pgOf pegs) ws = []))
  ru : t.2.isNone = true ∨ (t.2.isNone = false ∧ ∃ xs, Rets n (pgOf pegs) ws xs (ws.map fun w => w.take 1) ∧ ans.row = some (prs ws xs).reverse)
section
variable {n : Nat} {pegs : List Int} {lanes : List (Int × Int × Unit)} {ws : List (List Int)}
theorem facts_no (O : Ok n pegs lanes ws) (P2 : ∀ p ∈ pegs, 2 ≤ p) (h : lotW n (pgOf pegs) ws ≠ []) : Facts n pegs lanes ws (none, none) ⟨none, lotW n (pgOf pegs) ws⟩ ⟨none, lotW n (pgOf pegs) ws⟩ :=
  ⟨fun st Q => past_lot O Q.pe P2 h, told_none _, by rw [decide_eq_false h]; rfl, fun st Q => by rw [home_coming_eq O Q.pe P2, if_neg h], rfl, rfl, by rw [decide_eq_false h]; rfl, .inl rfl⟩
theorem facts_yes (O : Ok n pegs lanes ws) (P2 : ∀ p ∈ pegs, 2 ≤ p) (N : lotW n (pgOf pegs) ws = []) : ∃ xs, f_L_row (pegs, lanes, ()) ws (ones ws) = some xs ∧ f_L_mirror ws xs = some (prs ws xs).reverse ∧ Facts n pegs lanes ws (some xs, some (prs ws xs).reverse) ⟨some (prs ws xs).reverse, []⟩ ⟨some xs, []⟩ := by
  have NL := lot_nil.mp N
  obtain ⟨v, R, h0⟩ := rets_of P2 (outs ws) O NL rfl
  have hv : v = ws.map fun w => w.take 1 := by rw [← home_of h0, rets_heads R]
  have hl : (rowOf n (pgOf pegs) (outs ws) ws).length ≤ 10000 := Nat.le_trans (row_len (n := n) P2 (outs ws)) O.outs_le
  refine ⟨_, L_row_eq O P2 NL, L_mirror_eq O R hl, fun st Q => past_ok O Q.pe P2 N R, by rw [N]; exact told_some _, by rw [decide_eq_true N]; rfl, fun st Q => by rw [home_coming_eq O Q.pe P2, if_pos N], rfl, N.symm, by rw [decide_eq_true N]; rfl, .inr ⟨rfl, _, hv ▸ R, rfl⟩⟩
end
end Pg
set_option Elab.async false
set_option linter.all false
set_option maxRecDepth 100000
set_option maxHeartbeats 4000000
namespace Pg
open L2

theorem Twn.up {n m m2 : Nat} {pegs : List Int} {lanes : List (Int × Int × Unit)} {ways : List (List Int)} (T : Twn n m pegs lanes ways) (h : m ≤ m2) : Twn n m2 pegs lanes ways := ⟨T.s, T.wk, T.lo, Nat.le_trans T.ln h⟩
def kindsL : List Int := [0, 1, 2, 3, 4, 5, 5, 5, 5, 6, 7, 7, 7, 7, 7, 7]
/-- the law holds at every script -/
theorem law_true (s : List Int) : f_law s = some true := by
  have main : Sat (f_law s) (fun b => b = true) := by
    unfold f_law m_law
    refine sat_ret ((cell_sat s (by omega)).bind fun d1 _ => (digits_sat d1 (digs_pos (by decide)) (by decide)).bind fun d3 D3 => ?_)
    refine (D3.at 1 rfl).bind fun d5 e5 => (sat_mem e5.1 (by exact e5.2)).bind fun menu hmenu => (D3.at 0 rfl).bind fun d9 e9 => ?_
    have hmn := (by decide : ∀ m ∈ [[(2 : Int), (2 : Int), (3 : Int), (2 : Int), (3 : Int), (2 : Int)], [(2 : Int), (2 : Int), (2 : Int), (2 : Int), (2 : Int), (2 : Int)], [(3 : Int), (2 : Int), (3 : Int), (4 : Int), (2 : Int), (3 : Int)], [(2 : Int), (5 : Int), (2 : Int), (9 : Int), (3 : Int), (2 : Int)]], m.length = 6 ∧ ∀ x ∈ m, 2 ≤ x ∧ x ≤ 9) menu hmenu
    refine Sat.go (P := fun t : List Int × Int => t.1.length = 6 ∧ (∀ m ∈ t.1, 2 ≤ m ∧ m ≤ 9) ∧ ∃ k : Nat, t.2 = (k : Int) ∧ 10 ≤ k ∧ k ≤ 18) (sat_ifd (fun _ => .nx ⟨rfl, by decide, 18, rfl, by omega, by omega⟩) fun _ => .nx ⟨hmn.1, hmn.2, 10, rfl, by omega, by omega⟩) fun s12 h12 => ?_
    obtain ⟨mn, mo⟩ := s12
    obtain ⟨h6, h9, k, hk, k10, k18⟩ := h12
    dsimp only at h6 h9 hk ⊢
    subst hk
    refine (town_sat s (k := 1) (by omega) h6 h9 (kinds := kindsL) rfl (by decide) k10 k18).bind fun d13 e13 => (D3.at 0 rfl).bind fun d15 e15 => ?_
    obtain ⟨n1, T1⟩ := e13
    obtain ⟨⟨p1, l1, ⟨⟩⟩, w1, ⟨⟩⟩ := d13
    dsimp only at T1
    refine Sat.go (P := fun t : (((List Int) × (List (Int × Int × Unit)) × Unit) × (List (List Int)) × Unit) => ∃ n, Gen n t.1.1 t.1.2.1 t.2.1) (sat_ifd (fun _ => ?_) fun _ => .nx ⟨n1, T1.gen k18⟩) fun s18 h18 => ?_
    · refine (town_sat s (k := 13) (by omega) h6 h9 (kinds := kindsL) rfl (by decide) (most := 10) (by omega) (by omega)).bind fun d19 e19 => ?_
      obtain ⟨n2, T2⟩ := e19
      obtain ⟨⟨p2, l2, ⟨⟩⟩, w2, ⟨⟩⟩ := d19
      dsimp only at T2
      exact (beside_sat (T1.up k18) T2).bind fun d21 e21 => .nx e21
    obtain ⟨n, G0⟩ := h18
    obtain ⟨⟨pegs, lanes, ⟨⟩⟩, ws0, ⟨⟩⟩ := s18
    dsimp only at G0 ⊢
    refine (D3.at 2 rfl).bind fun d23 _ => Sat.go (P := fun ws : List (List Int) => Gen n pegs lanes ws) (sat_if (fun h => ?_) fun _ => .nx G0) fun ws G => ?_
    · have hpos := of_decide_eq_true (Bool.and_eq_true_iff.mp h).2
      refine (D3.at 3 rfl).bind fun d27 _ => (sat_mod d27 hpos).bind fun d29 e29 => ?_
      obtain ⟨g, rfl⟩ : ∃ g : Nat, d29 = (g : Int) := ⟨d29.toNat, by omega⟩
      refine (sat_at e29.1 e29.2).bind fun d31 e31 => (D3.at 4 rfl).bind fun d33 e33 => (sat_mem e33.1 (by exact e33.2)).bind fun d35 e35 => ?_
      rw [Int.toNat_natCast] at e31
      have b35 := (by decide : ∀ x ∈ [(40 : Int), 40, 23, 9], x ≤ 40) d35 e35
      have hw := G0.wk d31 (List.mem_of_getElem? e31)
      refine (cell_sat s (by omega)).bind fun d37 _ => (digits_sat d37 (digs_pos (by decide)) (by decide)).bind fun d39 _ => (longer_sat G0.la hw.1 hw.2 b35).bind fun d41 e41 => ?_
      have hwl := G0.wl
      rw [show (g : Int) + 1 = ((g + 1 : Nat) : Int) by omega, cut_take, cut_drop]
      refine (sat_cat (by rw [List.length_take, List.length_singleton]; omega)).bind fun d43 e43 => (sat_cat (by rw [e43, List.length_append, List.length_take, List.length_singleton, List.length_drop]; omega)).bind fun d45 e45 => .nx ?_
      rw [e45, e43]
      exact G0.put e31 e41
    have O := G.ok
    have P2 : ∀ p ∈ pegs, 2 ≤ p := fun p hp => (G.pp p hp).1
    refine (Sat.eq (P := fun r => r = ones ws) (L_home_eq ws) rfl).bind fun d47 e47 => ?_
    subst e47
    refine (Sat.eq (P := fun r => r = lotW n (pgOf pegs) ws) (L_lot_eq O.sm) rfl).bind fun d49 e49 => ?_
    subst e49
    refine Sat.go (P := fun t => ∃ ans com, Facts n pegs lanes ws t ans com) (sat_ifd (fun N => ?_) fun N => .nx ⟨_, _, facts_no O P2 N⟩) fun t ht => ?_
    · obtain ⟨xs, q1, q2, F⟩ := facts_yes O P2 N
      rw [q1, Option.bind_some, Option.bind_some, q2, Option.bind_some]
      exact .nx ⟨_, _, F⟩
    obtain ⟨ans, com, F⟩ := ht
    refine (D3.at 5 rfl).bind fun d59 _ => ?_
    obtain ⟨st, Q, hb⟩ := build_eq O (fun p hp => by have := G.pp p hp; omega) G.la (by have := G.ll; omega) d59
    rw [hb, Option.bind_some, F.pa st Q, Option.bind_some, F.to, Option.bind_some]
    refine sat_if (fun h => by cases h) fun _ => ?_
    refine (product_sat O.sm.bl).bind fun d68 e68 => ?_
    refine Sat.bind (P := fun b : Bool => b = false) (sat_ifd (fun h => ?_) fun _ => .pure rfl) fun b hb74 => ?_
    · rw [e68] at h
      obtain ⟨fs, f1, f2⟩ := L_lent_from_eq O P2 (by omega)
      rw [f1, Option.bind_some, F.po, Option.bind_some, f2]
      exact .pure (by simp)
    rw [hb74]
    refine sat_if (fun h => by cases h) fun _ => ?_
    obtain ⟨hs, m1, m2⟩ := heads_eq O
    have hwl := G.wl
    have hnb := G.nb
    have O1 : Ok n pegs lanes (ws.map fun w => w.take 1) := ok_home G.pl (by omega) (fun p hp => by have := G.pp p hp; omega) (by rw [List.length_map]; omega) (fun w hw => by
      obtain ⟨v, hv, e⟩ := List.mem_map.mp hw
      have := (G.wk v hv).1.1
      rw [← e, List.length_take]
      omega) (fun w hw h hh => by
      obtain ⟨v, hv, e⟩ := List.mem_map.mp hw
      rw [← e] at hh
      exact (G.wk v hv).1.2.1 h ((List.take_sublist _ _).subset hh)) O.la
    have h1 : ∀ w ∈ (ws.map fun w => w.take 1), w.length = 1 := fun w hw => by
      obtain ⟨v, hv, e⟩ := List.mem_map.mp hw
      have := (G.wk v hv).1.1
      rw [← e, List.length_take]
      omega
    have hst : f_Standing_home () (mkS st ws).street hs = some (mkS st (ws.map fun w => w.take 1)) := by
      rw [← m2]
      exact home_eq hs (m2 ▸ O1) Q
    rw [m1, Option.bind_some, hst, Option.bind_some]
    refine Sat.go (P := fun _ : Unit => True) ?_ fun u _ => ?_
    · rcases F.ru with r | ⟨r, xs, R, ra⟩
      · rw [r]
        exact .nx trivial
      · rw [r, ra]
        refine sat_if (fun _ => ?_) fun h => by cases h
        rw [Option.bind_some, show (ws.map fun (x86 : (List Int)) => (cutD x86 none (some (1 : Int)))) = ws.map fun w => w.take 1 from List.map_congr_left fun w _ => cut_take w 1, L_lendings_eq O R, Option.bind_some]
        refine sat_if (fun h => by simp at h) fun _ => ?_
        rw [Option.bind_some, is_past_eq O Q R (outs_home h1), Option.bind_some]
        obtain ⟨dd, d1, d2⟩ := Option.bind_eq_some_iff.mp (run_eq O Q R)
        rw [Option.bind_some, d1, Option.bind_some, d2, Option.bind_some, stand_eq, Option.bind_some]
        exact .nx trivial
    rw [F.hc st Q, Option.bind_some]
    refine Sat.bind (P := fun b : Bool => b = false) ?_ fun b hb113 => ?_
    · rw [F.cr, F.cl, F.cm, Option.bind_some, F.po, Option.bind_some]
      simp
      exact .pure rfl
    rw [hb113]
    refine sat_if (fun h => by cases h) fun _ => ?_
    refine (D3.at 4 rfl).bind fun d116 e116 => ?_
    obtain ⟨st2, _, i2, Q2⟩ := street_any (n := 1) (pegs := [1 + d116]) (lanes := []) (ls := []) rfl (by omega) (fun p hp => by
      rw [List.mem_singleton.mp hp]
      omega) (fun _ => Iff.rfl) (fun p hp => by cases hp) (by show 0 < 64; omega)
    rw [i2, Option.bind_some]
    refine (D3.at 1 rfl).bind fun d120 e120 => ?_
    have O2 : Ok 1 [1 + d116] [] ((List.replicate d120.toNat (0 : Int)).map fun x => [x]) := ok_home rfl (by omega) (fun p hp => by
      rw [List.mem_singleton.mp hp]
      omega) (by rw [List.length_map, List.length_replicate]; omega) (fun w hw => by
      obtain ⟨v, hv, e⟩ := List.mem_map.mp hw
      rw [← e]
      rfl) (fun w hw h hh => by
      obtain ⟨v, hv, e⟩ := List.mem_map.mp hw
      rw [← e] at hh
      rw [List.mem_singleton.mp hh, List.eq_of_mem_replicate hv]
      omega) (fun p hp => by cases hp)
    have h2 : ∀ w ∈ ((List.replicate d120.toNat (0 : Int)).map fun x => [x]), w.length = 1 := fun w hw => by
      obtain ⟨v, hv, e⟩ := List.mem_map.mp hw
      rw [← e]
      rfl
    refine (Sat.eq (P := fun r => r = List.replicate d120.toNat (0 : Int)) (by
      unfold repO
      rw [if_pos ⟨by omega, by omega, by simp⟩, List.flatten_replicate_singleton]) rfl).bind fun d122 e122 => ?_
    rw [e122, home_eq _ O2 Q2, Option.bind_some, past_home O1 Q.pe h1, Option.bind_some, told_some, Option.bind_some]
    refine Sat.bind (P := fun b : Bool => b = false) (sat_if (fun h => by cases h) fun _ => ?_) fun b hb134 => ?_
    · rw [past_home O2 Q2.pe h2, Option.bind_some, told_some, Option.bind_some]
      exact .pure rfl
    rw [hb134]
    refine sat_if (fun h => by cases h) fun _ => ?_
    rw [Option.bind_some, F.to, Option.bind_some]
    refine sat_if (fun h => by cases h) fun _ => ?_
    rw [Option.bind_some]
    refine sat_if (fun h => by cases h) fun _ => .rt ?_
    show (decide (ws = ws) && decide (st.pegs = pegs)) = true
    rw [Q.pe]
    simp
  obtain ⟨b, e, q⟩ := main
  rw [e, q]
end Pg
set_option Elab.async false
set_option linter.all false
set_option maxRecDepth 100000
set_option maxHeartbeats 0
namespace Pg
open PySem PySem.Spec PyProof.Rows L2
theorem law_facts {P : Program} {w : World} {h : Heap} {mg : Str → Option Value} {fa : Addr} (Y : SaysP h) (G : h.Ns mainGlobals mg) (hfa : mg ("law" : Str) = some (.ref fa)) :
    ∃ (K : PySem.W.Frag) (fd : FuncData) (sp : Sp), K.In h ∧ (∀ (s : Shared) (u : Value), BindsTo s fd ⟨[u], []⟩ [("_law_script", u)]) ∧
        (∀ (H : Hp) (a : Addr) (ns : List Int), ns.length ≤ 63 → Only H → SqL K H a (ns.map V.int) → sp [.ref a] H (fun v _ => v = .bl true) fun _ _ _ => False) ∧
        ∀ base : Heap, K.In base → base.Ns mainGlobals mg → FnOk P w K mg base CX0 14 fa fd ["_law_script"] sp := by
  obtain ⟨K, KX, c, x⟩ := Y
  obtain ⟨f, fd, F, hm⟩ := (tx_of (P := P) (w := w) (base := h) KX G c x).d_law
  rw [hfa] at hm
  cases hm
  refine ⟨K, fd, SpF (ysC (tScr K) ysN) tBool fun d => f_law d.1, KX, fun s v => FunD.bindsA (ps := ["_law_script"]) F (fun _ _ _ _ _ _ us hl => match us, hl with | [_], _ => rfl) s [v] rfl, fun H a ns _ _ hS => ?_, fun base _ _ => fn_law (tx_of (P := P) (w := w) (base := base) KX G c x) F⟩
  refine ⟨fun b => if b = a then H b else H b, (ns, ()), true, fun b o e => ?_, ⟨.ref a, [], rfl, ⟨a, rfl, ?_⟩, rfl⟩, law_true ns, fun v Hs' H' _ r => r⟩
  · by_cases q : b = a <;> simpa [q] using e
  · have e : (fun b => if b = a then H b else H b) = H := by
      funext b
      by_cases q : b = a <;> simp [q]
    rw [e]
    exact hS
end Pg
open PySem PySem.W PySem.Calls PyProof.Rows
theorem PySem.Challenge.cw_pegstreet_k29_made_by_lendings_whole_holds : PySem.Challenge.rw_pegstreet_k29_made_by_lendings_whole.Holds := by
  w_on; o_law
  refine HandSHeadRun.head_any (r := OpenLaw.row PySem.Challenge.rw_pegstreet_k29_made_by_lendings_whole) (q := Pg.qv) (H := Pg.hookP) (ob := Pg.ob) (M := 30000) (loose := Pg.lnames) (d := HandSHeadRun.topDef (OpenLaw.row PySem.Challenge.rw_pegstreet_k29_made_by_lendings_whole).prog 103) (kwd := []) Pg.ob_eq
    (by kernel_rfl) (fun s => by kernel_rfl) Pg.head_run (by kernel_rfl) (by kernel_rfl) (by kernel_rfl) (by rfl) (by first | assumption | decide +kernel) (by decide +kernel) ⟨rfl, rfl, rfl, rfl, rfl, by decide +kernel⟩ ?hw ?hc
  case hw => w_witness2
  case hc =>
    refine L2.walk_ofE (l := PySem.Challenge.rw_pegstreet_k29_made_by_lendings_whole) (n := 63) (k := 14) (x := "_law_script") (CX := L2.CX0) rfl (by decide) (by kernel_rfl) ⟨rfl, by decide, by decide⟩ ?F (fun _ _ _ _ z => z)
    intro w mg fa h Y G hmg0
    have hmg : mg ("law" : PySem.Str) = some (.ref fa) := by
      have e : (HandSHeadRun.topDef (OpenLaw.row PySem.Challenge.rw_pegstreet_k29_made_by_lendings_whole).prog 103).name = ("law" : PySem.Str) := by kernel_rfl
      rw [← e]
      exact hmg0
    exact Pg.law_facts Y G hmg
