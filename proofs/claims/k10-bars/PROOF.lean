import PyProof.Rows.All
import Wide.All
import OpenK.AllK
import Wide.FinOn
import Lean
import PySem.Challenge.RW_sashscreens_k10_windows_with_a_bar_less
import HandS.ForMost
import HandS.ForExc
import HandS.Wide
import HandS.TupAny
import HandS.TupMul
import HandS.Zip
import HandS.Walk
import HandS.Style
import HandS.Flow
import HandS.Deep
import KE.SortData
import KE.SortUse
import HandS.Defaults
import HandS.HeadHook2
import HandS.TupSets
import HandS.IsInst
import HandS.Zip0
import HandS.HeadHook3
import HandS.HeadHook4
import KE.LtData
import HandS.WordsExc
import HandS.TryOnly
import HandS.Conv
import HandS.Head0
import HandS.Head1
import HandS.Head2
import HandS.HeadEnd
import HandS.HeadHook1
set_option Elab.async false
set_option linter.all false
set_option maxRecDepth 100000
set_option autoImplicit false
/-! DL: mirrors of defs over plain data, and what makes them sound. -/
namespace DL
open PySem PySem.Spec L2

abbrev D := PyData
abbrev St := L2.St

/-! ### heaps -/
/-- the heap without what P hides -/
noncomputable def hd (P : Addr → Prop) (H : Hp) : Hp := fun a => open Classical in if P a then none else H a
theorem hd_some {P : Addr → Prop} {H : Hp} {a : Addr} {u : HO} : hd P H a = some u ↔ ¬ P a ∧ H a = some u := by
  unfold hd
  by_cases h : P a
  · simp [h]
  · simp [h]
/-- every object is kept -/
def Ex (H H' : Hp) : Prop := ∀ a o, H a = some o → H' a = some o
theorem Ex.refl (H : Hp) : Ex H H := fun _ _ h => h
theorem Ex.trans {H H1 H2 : Hp} (a : Ex H H1) (b : Ex H1 H2) : Ex H H2 := fun x o h => b x o (a x o h)
theorem Ex.new {H : Hp} {p : Addr} {o : HO} (h : H p = none) : Ex H (upd H p o) := fun a u e => by
  rw [upd_ne (ne_of_none e h)]
  exact e
theorem ex_hd {P : Addr → Prop} {H : Hp} : Ex (hd P H) H := fun _ _ h => (hd_some.mp h).2
theorem ex_hd_le {P P' : Addr → Prop} {H : Hp} (h : ∀ a, P' a → P a) : Ex (hd P H) (hd P' H) := fun a o e => by
  obtain ⟨n, e⟩ := hd_some.mp e
  exact hd_some.mpr ⟨fun z => n (h a z), e⟩
theorem ex_hd_hd {P : Addr → Prop} {H H' : Hp} (e : Ex H H') : Ex (hd P H) (hd P H') := fun a o h => by
  obtain ⟨n, h⟩ := hd_some.mp h
  exact hd_some.mpr ⟨n, e a o h⟩
theorem ex_rd {H H' : Hp} {a : Addr} {u : HO} (e : Ex H H') (h : Rd H a u) : Rd H' a u := by
  rcases h with h | ⟨o, h⟩
  · exact Or.inl (e a _ h)
  · exact Or.inr ⟨o, e a _ h⟩
theorem ex_l {K : PySem.W.Frag} {H H' : Hp} {a : Addr} {xs : List V} (e : Ex H H') (h : SqL K H a xs) : SqL K H' a xs := by
  rcases h with h | h
  · exact Or.inl (ex_rd e h)
  · exact Or.inr h
theorem ex_t {K : PySem.W.Frag} {H H' : Hp} {a : Addr} {xs : List V} (e : Ex H H') (h : SqT K H a xs) : SqT K H' a xs := by
  rcases h with h | h
  · exact Or.inl (ex_rd e h)
  · exact Or.inr h
mutual
theorem dp_mono {K : PySem.W.Frag} {H H' : Hp} (e : Ex H H') : ∀ {v : V} {d : D}, Dp K H v d → Dp K H' v d
  | _, _, .non => .non
  | _, _, .bl b => .bl b
  | _, _, .int i => .int i
  | _, _, .str x => .str x
  | _, _, .lst h hs => .lst (ex_l e h) (dps_mono e hs)
  | _, _, .tup h hs => .tup (ex_t e h) (dps_mono e hs)
theorem dps_mono {K : PySem.W.Frag} {H H' : Hp} (e : Ex H H') : ∀ {vs : List V} {ds : List D}, DpAll K H vs ds → DpAll K H' vs ds
  | _, _, .nil => .nil
  | _, _, .cons h hs => .cons (dp_mono e h) (dps_mono e hs)
end
theorem dps_get {K : PySem.W.Frag} {H : Hp} : ∀ {vs : List V} {ds : List D} {i : Nat} {v : V}, DpAll K H vs ds → vs[i]? = some v → ∃ d, ds[i]? = some d ∧ Dp K H v d
  | _, _, _, _, .nil, e => by simp at e
  | _, _, 0, _, .cons h _, e => by simp at e; subst e; exact ⟨_, rfl, h⟩
  | _, _, i + 1, v, .cons _ hs, e => by
    obtain ⟨d, h1, h2⟩ := dps_get (i := i) (v := v) hs (by simpa using e)
    exact ⟨d, by simpa using h1, h2⟩
theorem dps_get' {K : PySem.W.Frag} {H : Hp} : ∀ {vs : List V} {ds : List D} {i : Nat} {d : D}, DpAll K H vs ds → ds[i]? = some d → ∃ v, vs[i]? = some v ∧ Dp K H v d
  | _, _, _, _, .nil, e => by simp at e
  | _, _, 0, _, .cons h _, e => by simp at e; subst e; exact ⟨_, rfl, h⟩
  | _, _, i + 1, d, .cons _ hs, e => by
    obtain ⟨v, h1, h2⟩ := dps_get' (i := i) (d := d) hs (by simpa using e)
    exact ⟨v, by simpa using h1, h2⟩
theorem dps_len {K : PySem.W.Frag} {H : Hp} : ∀ {vs : List V} {ds : List D}, DpAll K H vs ds → vs.length = ds.length
  | _, _, .nil => rfl
  | _, _, .cons _ hs => by simp [dps_len hs]
theorem dps_append {K : PySem.W.Frag} {H : Hp} : ∀ {vs ws : List V} {ds es : List D}, DpAll K H vs ds → DpAll K H ws es → DpAll K H (vs ++ ws) (ds ++ es)
  | _, _, _, _, .nil, h => h
  | _, _, _, _, .cons h hs, h2 => .cons h (dps_append hs h2)
theorem dps_take {K : PySem.W.Frag} {H : Hp} : ∀ {vs : List V} {ds : List D} (n : Nat), DpAll K H vs ds → DpAll K H (vs.take n) (ds.take n)
  | _, _, 0, _ => by simp; exact .nil
  | _, _, n + 1, .nil => by simp; exact .nil
  | _, _, n + 1, .cons h hs => by simp; exact .cons h (dps_take n hs)
theorem dps_drop {K : PySem.W.Frag} {H : Hp} : ∀ {vs : List V} {ds : List D} (n : Nat), DpAll K H vs ds → DpAll K H (vs.drop n) (ds.drop n)
  | _, _, 0, h => by simpa using h
  | _, _, n + 1, .nil => by simp; exact .nil
  | _, _, n + 1, .cons h hs => by simpa using dps_drop n hs
theorem dps_set {K : PySem.W.Frag} {H : Hp} {v : V} {d : D} (h0 : Dp K H v d) : ∀ {vs : List V} {ds : List D} (n : Nat), DpAll K H vs ds → DpAll K H (vs.set n v) (ds.set n d)
  | _, _, _, .nil => by simp; exact .nil
  | _, _, 0, .cons h hs => by simp; exact .cons h0 hs
  | _, _, n + 1, .cons h hs => by simp; exact .cons h (dps_set h0 n hs)

/-! ### slots, environments -/
/-- what a slot holds: data, or an object that it alone holds and that may change: a list, a dict -/
inductive S where
  | dat (d : D)
  | own (xs : List D)
  | odk (kvs : List (Key × D))
  | odt (kvs : List (List Key × D))
def S.isOwn : S → Bool
  | .dat _ => false
  | _ => true
abbrev Env := List (Option S)
abbrev Ow := Nat → Option Addr
def Own (o : Ow) (a : Addr) : Prop := ∃ i, o i = some a
/-- what is hidden: the caller's and one's own -/
def hid (P : Addr → Prop) (o : Ow) : Addr → Prop := fun a => P a ∨ Own o a
inductive KvOk (K : PySem.W.Frag) (G : Hp) {κ : Type} : List (κ × V) → List (κ × D) → Prop where
  | nil : KvOk K G [] []
  | cons {k : κ} {v : V} {d : D} {vs : List (κ × V)} {ds : List (κ × D)} : Dp K G v d → KvOk K G vs ds → KvOk K G ((k, v) :: vs) ((k, d) :: ds)
theorem kv_mono {K : PySem.W.Frag} {κ : Type} {H H' : Hp} (e : Ex H H') : ∀ {vs : List (κ × V)} {ds : List (κ × D)}, KvOk K H vs ds → KvOk K H' vs ds
  | _, _, .nil => .nil
  | _, _, .cons h hs => .cons (dp_mono e h) (kv_mono e hs)
/-- the object at a is as told; its parts are data of G -/
def OwnOk (K : PySem.W.Frag) (G H : Hp) (a : Addr) : S → Prop
  | .dat _ => False
  | .own xs => ∃ vs, H a = some (.lst vs) ∧ DpAll K G vs xs
  | .odk kvs => ∃ vs, H a = some (.dK vs) ∧ KvOk K G vs kvs
  | .odt kvs => ∃ vs, H a = some (.dT vs) ∧ KvOk K G vs kvs
theorem OwnOk.there {K : PySem.W.Frag} {G H : Hp} {a : Addr} {s : S} (h : OwnOk K G H a s) : ∃ u, H a = some u := by
  cases s with
  | dat _ => exact False.elim h
  | own xs => obtain ⟨_, h, _⟩ := h; exact ⟨_, h⟩
  | odk xs => obtain ⟨_, h, _⟩ := h; exact ⟨_, h⟩
  | odt xs => obtain ⟨_, h, _⟩ := h; exact ⟨_, h⟩
theorem OwnOk.imp {K : PySem.W.Frag} {G G' H H' : Hp} {a : Addr} {s : S} (h : OwnOk K G H a s) (e : Ex G G') (k : ∀ u, H a = some u → H' a = some u) : OwnOk K G' H' a s := by
  cases s with
  | dat _ => exact False.elim h
  | own xs => obtain ⟨vs, h, q⟩ := h; exact ⟨vs, k _ h, dps_mono e q⟩
  | odk xs => obtain ⟨vs, h, q⟩ := h; exact ⟨vs, k _ h, kv_mono e q⟩
  | odt xs => obtain ⟨vs, h, q⟩ := h; exact ⟨vs, k _ h, kv_mono e q⟩
theorem OwnOk.isOwn {K : PySem.W.Frag} {G H : Hp} {a : Addr} {s : S} (h : OwnOk K G H a s) : s.isOwn = true := by
  cases s <;> first | rfl | exact False.elim h

structure At (K : PySem.W.Frag) (P : Addr → Prop) (o : Ow) (ρ : Env) (σ : St) (H : Hp) : Prop where
  len : ρ.length = σ.length
  dom : ∀ a, P a → ∃ u, H a = some u
  inj : ∀ i j a, o i = some a → o j = some a → i = j
  dis : ∀ i a, o i = some a → ¬ P a
  has : ∀ i a, o i = some a → ∃ s, ρ[i]? = some (some s) ∧ σ[i]? = some (some (V.ref a)) ∧ OwnOk K (hd (hid P o) H) H a s
  dat : ∀ (i : Nat) d, ρ[i]? = some (some (S.dat d)) → ∃ v, σ[i]? = some (some v) ∧ Dp K (hd (hid P o) H) v d
  ow : ∀ (i : Nat) s, ρ[i]? = some (some s) → s.isOwn = true → ∃ a, o i = some a
theorem At.domH {K : PySem.W.Frag} {P : Addr → Prop} {o : Ow} {ρ : Env} {σ : St} {H : Hp} (h : At K P o ρ σ H) {a : Addr} (q : hid P o a) : ∃ u, H a = some u := by
  rcases q with q | ⟨i, q⟩
  · exact h.dom a q
  · obtain ⟨s, _, _, k⟩ := h.has i a q
    exact k.there
/-- all is kept but one's own objects -/
structure Chg (o : Ow) (H H' : Hp) : Prop where
  keep : ∀ a u, H a = some u → ¬ Own o a → H' a = some u
  dom : ∀ a u, H a = some u → ∃ u', H' a = some u'
theorem Chg.refl {o : Ow} {H : Hp} : Chg o H H := ⟨fun _ _ h _ => h, fun _ _ h => ⟨_, h⟩⟩
theorem Chg.trans {o : Ow} {H H1 H2 : Hp} (a : Chg o H H1) (b : Chg o H1 H2) : Chg o H H2 :=
  ⟨fun x u h n => b.keep x u (a.keep x u h n) n, fun x u h => let ⟨_, h1⟩ := a.dom x u h; b.dom x _ h1⟩
theorem Chg.of {o : Ow} {H H' : Hp} (e : Ex H H') : Chg o H H' := ⟨fun a u h _ => e a u h, fun a u h => ⟨u, e a u h⟩⟩
theorem Chg.ex {P : Addr → Prop} {o : Ow} {H H' : Hp} (c : Chg o H H') : Ex (hd (hid P o) H) (hd (hid P o) H') := fun a u h => by
  obtain ⟨n, h⟩ := hd_some.mp h
  exact hd_some.mpr ⟨n, c.keep a u h fun z => n (.inr z)⟩
theorem Chg.back {o : Ow} {H H' : Hp} (c : Chg o H H') {a : Addr} (h : H' a = none) : H a = none := by
  cases q : H a with
  | none => rfl
  | some u =>
    obtain ⟨u', h'⟩ := c.dom a u q
    rw [h] at h'
    cases h'
section
variable {K : PySem.W.Frag} {P : Addr → Prop} {o : Ow} {ρ : Env} {σ : St} {H H' : Hp}
theorem At.ext (h : At K P o ρ σ H) (e : Ex H H') : At K P o ρ σ H' where
  len := h.len
  dom := fun a q => let ⟨u, k⟩ := h.dom a q; ⟨u, e a u k⟩
  inj := h.inj
  dis := h.dis
  has := fun i a q => by
    obtain ⟨s, h1, h2, h3⟩ := h.has i a q
    exact ⟨s, h1, h2, h3.imp (ex_hd_hd e) fun u z => e a u z⟩
  dat := fun i d q => by
    obtain ⟨v, h1, h2⟩ := h.dat i d q
    exact ⟨v, h1, dp_mono (ex_hd_hd e) h2⟩
  ow := h.ow
theorem At.ownNe (h : At K P o ρ σ H) {i : Nat} {a p : Addr} (q : o i = some a) (hp : H p = none) : a ≠ p := fun z => by
  obtain ⟨_, _, _, k⟩ := h.has i a q
  obtain ⟨u, k⟩ := k.there
  rw [z, hp] at k
  cases k
/-- the same sets, told otherwise -/
theorem At.hid_eq {P' : Addr → Prop} {o' : Ow} (e : ∀ a, hid P' o' a ↔ hid P o a) : hd (hid P' o') H = hd (hid P o) H := by
  have : hid P' o' = hid P o := funext fun a => propext (e a)
  rw [this]
/-- a new object, hidden -/
theorem At.plus (h : At K P o ρ σ H) {p : Addr} {u : HO} (hp : H p = none) : At K (fun a => P a ∨ a = p) o ρ σ (upd H p u) := by
  have ex : Ex (hd (hid P o) H) (hd (hid (fun a => P a ∨ a = p) o) (upd H p u)) := fun a w q => by
    obtain ⟨n, q⟩ := hd_some.mp q
    have hne : a ≠ p := ne_of_none q hp
    refine hd_some.mpr ⟨fun z => ?_, by rw [upd_ne hne]; exact q⟩
    rcases z with (z | z) | z
    · exact n (.inl z)
    · exact hne z
    · exact n (.inr z)
  refine ⟨h.len, fun a q => ?_, h.inj, fun i a q z => z.elim (h.dis i a q) (h.ownNe q hp), fun i a q => ?_, fun i d q => ?_, h.ow⟩
  · rcases q with q | q
    · obtain ⟨w, k⟩ := h.dom a q
      exact ⟨w, Ex.new hp a w k⟩
    · subst q
      exact ⟨u, upd_same⟩
  · obtain ⟨s, h1, h2, h3⟩ := h.has i a q
    exact ⟨s, h1, h2, h3.imp ex fun w z => Ex.new hp a w z⟩
  · obtain ⟨v, h1, h2⟩ := h.dat i d q
    exact ⟨v, h1, dp_mono ex h2⟩
/-- less is hidden -/
theorem At.less {P' : Addr → Prop} (h : At K P o ρ σ H) (l : ∀ a, P' a → P a) : At K P' o ρ σ H := by
  have ex : Ex (hd (hid P o) H) (hd (hid P' o) H) := ex_hd_le fun a z => z.elim (fun z => .inl (l a z)) .inr
  refine ⟨h.len, fun a q => h.dom a (l a q), h.inj, fun i a q z => h.dis i a q (l a z), fun i a q => ?_, fun i d q => ?_, h.ow⟩
  · obtain ⟨s, h1, h2, h3⟩ := h.has i a q
    exact ⟨s, h1, h2, h3.imp ex fun w z => z⟩
  · obtain ⟨v, h1, h2⟩ := h.dat i d q
    exact ⟨v, h1, dp_mono ex h2⟩
end

/-! ### results -/
inductive R where
  | ok (s : S)
  | ex (c : Str) (p : Option D)
abbrev EM := Env → Option (R × Env)
abbrev plusA (P : Addr → Prop) (a : Addr) : Addr → Prop := fun b => P b ∨ b = a
def OkP (K : PySem.W.Frag) (P : Addr → Prop) (o : Ow) (ρ : Env) (σ : St) (H0 H : Hp) (v : V) : S → Prop
  | .dat d => At K P o ρ σ H ∧ Dp K (hd (hid P o) H) v d
  | s => ∃ a, v = .ref a ∧ H0 a = none ∧ ¬ hid P o a ∧ At K (plusA P a) o ρ σ H ∧ OwnOk K (hd (hid (plusA P a) o) H) H a s
/-- an exception: its class by its name in the module; its one field -/
def XR (K : PySem.W.Frag) (mg : Str → Option Value) (G H : Hp) (c : Str) (p : Option D) (cls : Value) (dx : Option Addr) : Prop :=
  ∃ C, mg c = some (.ref C) ∧ cls = .ref C ∧ match p with
    | none => dx = none
    | some d => ∃ a f v, dx = some a ∧ H a = some (.xd [(f, v)]) ∧ Dp K G v d
def Post (K : PySem.W.Frag) (mg : Str → Option Value) (E : XK) (P : Addr → Prop) (o : Ow) (σ : St) (H : Hp) (Q : VK) : R × Env → Prop
  | (.ok s, ρ') => ∀ v H', Chg o H H' → OkP K P o ρ' σ H H' v s → Q v H'
  | (.ex c p, ρ') => ∀ cls dx H', Chg o H H' → At K P o ρ' σ H' → XR K mg (hd (hid P o) H') H' c p cls dx → E cls dx H'
def tE (K : PySem.W.Frag) (mg : Str → Option Value) (E : XK) (f : EM) : TE := fun σ H Q => ∃ P o ρ res, At K P o ρ σ H ∧ f ρ = some res ∧ Post K mg E P o σ H Q res
abbrev PD (X : Cx) (E : XK) (e : Expr) (f : EM) : Prop := PE X e (tE X.K X.mg E f)
theorem PE.imp {X : Cx} {e : Expr} {t t' : TE} (h : PE X e t) (i : ∀ σ H Q, t' σ H Q → t σ H Q) : PE X e t' := ⟨fun pins s σ H Q I q => h.run pins s σ H Q I (i σ H Q q)⟩
theorem PT.imp {X : Cx} {e : Expr} {t t' : TT} (h : PT X e t) (i : ∀ σ H Q, t' σ H Q → t σ H Q) : PT X e t' := ⟨fun pins s σ H Q I q => h.run pins s σ H Q I (i σ H Q q)⟩
theorem PS.imp {X : Cx} {e : Stmt} {t t' : TS} (h : PS X e t) (i : ∀ D σ H, t' D σ H → t D σ H) : PS X e t' := ⟨fun pins s σ H D I q => h.run pins s σ H D I (i D σ H q)⟩
theorem PSs.imp {X : Cx} {e : List Stmt} {t t' : TS} (h : PSs X e t) (i : ∀ D σ H, t' D σ H → t D σ H) : PSs X e t' := ⟨fun pins s σ H D I q => h.run pins s σ H D I (i D σ H q)⟩
section
variable {K : PySem.W.Frag} {mg : Str → Option Value} {E : XK} {P : Addr → Prop} {o : Ow} {ρ : Env} {σ : St} {H H' H0 H1 : Hp} {Q Q' : VK} {f : EM} {v : V} {d : D}
theorem OkP.older {s : S} (c : Chg o H0 H1) (h : OkP K P o ρ σ H1 H v s) : OkP K P o ρ σ H0 H v s := by
  cases s with
  | dat d => exact h
  | own xs => obtain ⟨a, h1, h2, h3⟩ := h; exact ⟨a, h1, c.back h2, h3⟩
  | odk xs => obtain ⟨a, h1, h2, h3⟩ := h; exact ⟨a, h1, c.back h2, h3⟩
  | odt xs => obtain ⟨a, h1, h2, h3⟩ := h; exact ⟨a, h1, c.back h2, h3⟩
theorem Post.later {res : R × Env} (c : Chg o H0 H1) (h : Post K mg E P o σ H0 Q res) : Post K mg E P o σ H1 Q res := by
  obtain ⟨r, ρ'⟩ := res
  cases r with
  | ok s => exact fun v H' c' k => h v H' (c.trans c') (OkP.older c k)
  | ex x p => exact fun cls dx H' c' k => h cls dx H' (c.trans c') k
theorem tE_mono (i : ∀ v H, Q v H → Q' v H) (h : tE K mg E f σ H Q) : tE K mg E f σ H Q' := by
  obtain ⟨P, o, ρ, res, a, e, q⟩ := h
  refine ⟨P, o, ρ, res, a, e, ?_⟩
  obtain ⟨r, ρ'⟩ := res
  cases r with
  | ok s => exact fun v H' c k => i _ _ (q v H' c k)
  | ex x p => exact q
/-- data of what is held: an own list becomes plain data -/
def S.toD : S → Option D
  | .dat d => some d
  | .own xs => some (.list xs)
  | _ => none
theorem OkP.toD {s : S} (h : OkP K P o ρ σ H0 H v s) (e : s.toD = some d) : At K P o ρ σ H ∧ Dp K (hd (hid P o) H) v d := by
  cases s with
  | dat d' => cases e; exact h
  | own xs =>
    cases e
    obtain ⟨a, rfl, h2, hn, h3, vs, h4, h5⟩ := h
    have hno : ∀ b, hid P o b → hid (plusA P a) o b := fun b z => z.elim (fun z => .inl (.inl z)) .inr
    exact ⟨h3.less fun b z => .inl z, .lst (.inl (.inl (hd_some.mpr ⟨hn, h4⟩))) (dps_mono (ex_hd_le hno) h5)⟩
  | odk _ => cases e
  | odt _ => cases e
end
end DL

namespace DL
open PySem PySem.Spec L2
section
variable {K : PySem.W.Frag} {P : Addr → Prop} {o : Ow} {ρ : Env} {σ : St} {H H' H0 H1 : Hp}
theorem At.plusE (h : At K P o ρ σ H) {p : Addr} {u : HO} (hp : H p = none) (e : Ex H H') (hu : H' p = some u) : At K (plusA P p) o ρ σ H' := by
  have ex : Ex (hd (hid P o) H) (hd (hid (plusA P p) o) H') := fun a w q => by
    obtain ⟨n, q⟩ := hd_some.mp q
    have hne : a ≠ p := ne_of_none q hp
    refine hd_some.mpr ⟨fun z => ?_, e a w q⟩
    rcases z with (z | z) | z
    · exact n (.inl z)
    · exact hne z
    · exact n (.inr z)
  refine ⟨h.len, fun a q => ?_, h.inj, fun i a q z => z.elim (h.dis i a q) (h.ownNe q hp), fun i a q => ?_, fun i d q => ?_, h.ow⟩
  · rcases q with q | q
    · obtain ⟨w, k⟩ := h.dom a q
      exact ⟨w, e a w k⟩
    · subst q
      exact ⟨u, hu⟩
  · obtain ⟨s, h1, h2, h3⟩ := h.has i a q
    exact ⟨s, h1, h2, h3.imp ex fun w z => e a w z⟩
  · obtain ⟨v, h1, h2⟩ := h.dat i d q
    exact ⟨v, h1, dp_mono ex h2⟩
/-- a value's result, P hidden -/
def VOk (K : PySem.W.Frag) (P : Addr → Prop) (H0 H : Hp) (v : V) : S → Prop
  | .dat d => Dp K (hd P H) v d
  | s => ∃ p, v = .ref p ∧ H0 p = none ∧ OwnOk K (hd (plusA P p) H) H p s
theorem VOk.ok (a : At K P o ρ σ H) (e : Ex H H') {v : V} {s : S} (h : VOk K (hid P o) H H' v s) : OkP K P o ρ σ H H' v s := by
  have hh : ∀ p, hd (plusA (hid P o) p) H' = hd (hid (plusA P p) o) H' := fun p => by
    have e : plusA (hid P o) p = hid (plusA P p) o := funext fun a => propext ⟨fun z => by
      rcases z with (z | z) | z
      · exact .inl (.inl z)
      · exact .inr z
      · exact .inl (.inr z), fun z => by
      rcases z with (z | z) | z
      · exact .inl (.inl z)
      · exact .inr z
      · exact .inl (.inr z)⟩
    rw [e]
  have gen : ∀ p, H p = none → v = .ref p → OwnOk K (hd (plusA (hid P o) p) H') H' p s → ∃ a, v = .ref a ∧ H a = none ∧ ¬ hid P o a ∧ At K (plusA P a) o ρ σ H' ∧ OwnOk K (hd (hid (plusA P a) o) H') H' a s := fun p hp hv ho => by
    obtain ⟨u, hu⟩ := ho.there
    refine ⟨p, hv, hp, fun z => ?_, a.plusE hp e hu, ?_⟩
    · obtain ⟨w, k⟩ := a.domH z
      rw [hp] at k
      cases k
    · rw [hh] at ho
      exact ho
  cases s with
  | dat d => exact ⟨a.ext e, h⟩
  | own xs => obtain ⟨p, h1, h2, h3⟩ := h; exact gen p h2 h1 h3
  | odk xs => obtain ⟨p, h1, h2, h3⟩ := h; exact gen p h2 h1 h3
  | odt xs => obtain ⟨p, h1, h2, h3⟩ := h; exact gen p h2 h1 h3
end

/-! ### the mirrors' words -/
def bindE (f : EM) (k : S → EM) : EM := fun ρ => match f ρ with
  | some (.ok s, ρ1) => k s ρ1
  | some (.ex c p, ρ1) => some (.ex c p, ρ1)
  | none => none
def failE : EM := fun _ => none
def retS (s : S) : EM := fun ρ => some (.ok s, ρ)
def retD (d : D) : EM := fun ρ => some (.ok (.dat d), ρ)
def optD (d : Option D) : EM := fun ρ => match d with
  | some d => some (.ok (.dat d), ρ)
  | none => none
def optS (d : Option S) : EM := fun ρ => match d with
  | some d => some (.ok d, ρ)
  | none => none
def bindD (f : EM) (k : D → EM) : EM := bindE f fun s => match s.toD with
  | some d => k d
  | none => failE
def mV (i : Nat) : EM := fun ρ => match ρ[i]? with
  | some (some (.dat d)) => some (.ok (.dat d), ρ)
  | _ => none
def mC (d : D) : EM := retD d
def op2 (g : D → D → Option D) (fa fb : EM) : EM := bindD fa fun x => bindD fb fun y => optD (g x y)
def op1 (g : D → Option D) (fa : EM) : EM := bindD fa fun x => optD (g x)

section
variable {K : PySem.W.Frag} {mg : Str → Option Value} {E : XK} {P : Addr → Prop} {o : Ow} {ρ : Env} {σ : St} {H H' H0 H1 : Hp} {Q Q' : VK} {f : EM} {k : S → EM} {v : V} {d : D} {res : R × Env}
/-- THE STEP: f is evaluated, then k goes on -/
theorem bind_go (a : At K P o ρ σ H) (c : Chg o H0 H) (e : bindE f k ρ = some res) (p : Post K mg E P o σ H0 Q res) :
    tE K mg E f σ H fun x H1 => ∃ ρ1 s, Chg o H H1 ∧ Chg o H0 H1 ∧ OkP K P o ρ1 σ H H1 x s ∧ k s ρ1 = some res := by
  unfold bindE at e
  cases hf : f ρ with
  | none => rw [hf] at e; cases e
  | some r1 =>
    obtain ⟨r, ρ1⟩ := r1
    rw [hf] at e
    refine ⟨P, o, ρ, _, a, hf, ?_⟩
    cases r with
    | ok s => exact fun x H1 c1 q => ⟨ρ1, s, c1, c.trans c1, q, e⟩
    | ex n pl =>
      cases e
      exact fun cls dx H1 c1 a1 x => p cls dx H1 (c.trans c1) a1 x
theorem bindD_go {k : D → EM} (a : At K P o ρ σ H) (c : Chg o H0 H) (e : bindD f k ρ = some res) (p : Post K mg E P o σ H0 Q res) :
    tE K mg E f σ H fun x H1 => ∃ ρ1 d, Chg o H H1 ∧ Chg o H0 H1 ∧ At K P o ρ1 σ H1 ∧ Dp K (hd (hid P o) H1) x d ∧ k d ρ1 = some res := by
  refine tE_mono (fun x H1 h => ?_) (bind_go a c e p)
  obtain ⟨ρ1, s, c1, c2, q, e⟩ := h
  cases hs : s.toD with
  | none => rw [hs] at e; cases e
  | some d =>
    rw [hs] at e
    exact ⟨ρ1, d, c1, c2, (q.toD hs).1, (q.toD hs).2, e⟩
theorem optD_some {x : Option D} (e : optD x ρ = some res) : ∃ d, x = some d ∧ res = (.ok (.dat d), ρ) := by
  cases x with
  | none => cases e
  | some d => cases e; exact ⟨d, rfl, rfl⟩
theorem optS_some {x : Option S} (e : optS x ρ = some res) : ∃ d, x = some d ∧ res = (.ok d, ρ) := by
  cases x with
  | none => cases e
  | some d => cases e; exact ⟨d, rfl, rfl⟩
end

/-! ### operations, by values -/
def OpD (K : PySem.W.Frag) (r : R2) (g : D → D → Option D) : Prop := ∀ (P : Addr → Prop) (H : Hp) (x y : V) (d e z : D), (∀ a, P a → ∃ u, H a = some u) → Dp K (hd P H) x d → Dp K (hd P H) y e → g d e = some z →
  ∀ Q : VK, (∀ v H', Ex H H' → Dp K (hd P H') v z → Q v H') → r x y H Q
def CallD (K : PySem.W.Frag) (r : List V → Hp → VK → Prop) (g : List D → Option S) : Prop := ∀ (P : Addr → Prop) (H : Hp) (vs : List V) (ds : List D) (z : S), (∀ a, P a → ∃ u, H a = some u) → DpAll K (hd P H) vs ds → g ds = some z →
  ∀ Q : VK, (∀ v H', Ex H H' → VOk K P H H' v z → Q v H') → r vs H Q

section
variable {X : Cx} {E : XK} {e a b : Expr} {fa fb : EM} {pos : Pos}
theorem pd_var {i : Nat} {x : Str} (hN : X.N[i]? = some x) (hv : Vis X.env.scope x) (hd : (x == ("__debug__" : Str)) = false := by decide) (hcd : (x == ("__classdict__" : Str)) = false := by decide) : PD X E (.Name x pos) (mV i) := by
  refine PE.imp (pe_var hN hv hd hcd) fun σ H Q h => ?_
  obtain ⟨P, o, ρ, res, at0, e, p⟩ := h
  unfold mV at e
  cases hi : ρ[i]? with
  | none => rw [hi] at e; cases e
  | some s =>
    rw [hi] at e
    cases s with
    | none => cases e
    | some s =>
      cases s with
      | dat d =>
        cases e
        obtain ⟨v, h1, h2⟩ := at0.dat i d hi
        exact ⟨v, h1, p v H .refl ⟨at0, h2⟩⟩
      | own _ => cases e
      | odk _ => cases e
      | odt _ => cases e
theorem pd_const {v : V} {d : D} (h : PE X e (tC v)) (r : ∀ K H, Dp K H v d) : PD X E e (mC d) := by
  refine PE.imp h fun σ H Q h => ?_
  obtain ⟨P, o, ρ, res, at0, e, p⟩ := h
  cases e
  exact p v H .refl ⟨at0, r _ _⟩
theorem pd_int {i j} : PD X E (.Constant (.int i) j pos) (mC (.int i)) := pd_const pe_int fun _ _ => .int i
theorem pd_bl {i j} : PD X E (.Constant (.bool i) j pos) (mC (.bool i)) := pd_const pe_bl fun _ _ => .bl i
theorem pd_str {i j} : PD X E (.Constant (.str i) j pos) (mC (.str i)) := pd_const pe_str fun _ _ => .str i
theorem pd_non {j} : PD X E (.Constant .none j pos) (mC .none) := pd_const pe_non fun _ _ => .non
theorem op2_imp {K : PySem.W.Frag} {mg : Str → Option Value} {r : R2} {g : D → D → Option D} (hg : OpD K r g) {σ : St} {H : Hp} {Q : VK} (h : tE K mg E (op2 g fa fb) σ H Q) : tOp r (tE K mg E fa) (tE K mg E fb) σ H Q := by
  obtain ⟨P, o, ρ, res, at0, e, p⟩ := h
  refine tE_mono (fun x H1 h => ?_) (bindD_go at0 .refl e p)
  obtain ⟨ρ1, d, c1, c2, at1, dx, e⟩ := h
  refine tE_mono (fun y H2 h => ?_) (bindD_go at1 c2 e p)
  obtain ⟨ρ2, d', c3, c4, at2, dy, e⟩ := h
  obtain ⟨z, hz, rfl⟩ := optD_some e
  refine hg (hid P o) H2 x y d d' z (fun a q => at2.domH q) (dp_mono c3.ex dx) dy hz Q fun v H' ex dv => ?_
  exact p v H' (c4.trans (.of ex)) ⟨at2.ext ex, dv⟩
theorem pd_op {op : Operator} {r : R2} {g : D → D → Option D} (ho : OpR X (binaryOp op) r) (hg : OpD X.K r g) (ha : PD X E a fa) (hb : PD X E b fb) : PD X E (.BinOp a op b pos) (op2 g fa fb) :=
  PE.imp (pe_op ho ha hb) fun _ _ _ h => op2_imp hg h
theorem pd_cmp {op : CmpOp} {r : R2} {g : D → D → Option D} (ho : OpR X (compareOp op) r) (hg : OpD X.K r g) (ha : PD X E a fa) (hb : PD X E b fb) (hm : behindInMarks op b = false) : PD X E (.Compare a [op] [b] pos) (op2 g fa fb) :=
  PE.imp (pe_cmpR ho ha hb hm) fun _ _ _ h => op2_imp hg h
theorem pd_ix {r : R2} {g : D → D → Option D} (hr : IxR X r) (hg : OpD X.K r g) (ha : PD X E a fa) (hb : PD X E b fb) (hs : PlainIx b) : PD X E (.Subscript a b pos) (op2 g fa fb) :=
  PE.imp (pe_ix hr ha hb hs) fun _ _ _ h => op2_imp hg h
def UnD (K : PySem.W.Frag) (r : V → Hp → VK → Prop) (g : D → Option D) : Prop := ∀ (P : Addr → Prop) (H : Hp) (x : V) (d z : D), Dp K (hd P H) x d → g d = some z → ∀ Q : VK, (∀ v H', Ex H H' → Dp K (hd P H') v z → Q v H') → r x H Q
theorem pd_un {op : UnaryOp} {r : V → Hp → VK → Prop} {g : D → Option D} (ho : UnR X (unaryOp op) r) (hg : UnD X.K r g) (ha : PD X E a fa) : PD X E (.UnaryOp op a pos) (op1 g fa) := by
  refine PE.imp (pe_un ho ha) fun σ H Q h => ?_
  obtain ⟨P, o, ρ, res, at0, e, p⟩ := h
  refine tE_mono (fun x H1 h => ?_) (bindD_go at0 .refl e p)
  obtain ⟨ρ1, d, c1, c2, at1, dx, e⟩ := h
  obtain ⟨z, hz, rfl⟩ := optD_some e
  exact hg (hid P o) H1 x d z dx hz Q fun v H' ex dv => p v H' (c2.trans (.of ex)) ⟨at1.ext ex, dv⟩
end
end DL

namespace DL
open PySem PySem.Spec L2

/-! ### tests -/
def ExPost (K : PySem.W.Frag) (mg : Str → Option Value) (E : XK) (P : Addr → Prop) (o : Ow) (ρ' : Env) (σ : St) (H : Hp) (c : Str) (p : Option D) : Prop :=
  ∀ cls dx H', Chg o H H' → At K P o ρ' σ H' → XR K mg (hd (hid P o) H') H' c p cls dx → E cls dx H'
theorem ExPost.later {K : PySem.W.Frag} {mg : Str → Option Value} {E : XK} {P : Addr → Prop} {o : Ow} {ρ' : Env} {σ : St} {H H1 : Hp} {c : Str} {p : Option D} (h : ExPost K mg E P o ρ' σ H c p) (k : Chg o H H1) : ExPost K mg E P o ρ' σ H1 c p :=
  fun cls dx H' c' => h cls dx H' (k.trans c')
def PostT (K : PySem.W.Frag) (mg : Str → Option Value) (E : XK) (P : Addr → Prop) (o : Ow) (σ : St) (H : Hp) (Q : Bool → Hp → Prop) : R × Env → Prop
  | (.ok (.dat (.bool b)), ρ') => ∀ H', Chg o H H' → At K P o ρ' σ H' → Q b H'
  | (.ok _, _) => False
  | (.ex c p, ρ') => ExPost K mg E P o ρ' σ H c p
def tT (K : PySem.W.Frag) (mg : Str → Option Value) (E : XK) (f : EM) : TT := fun σ H Q => ∃ P o ρ res, At K P o ρ σ H ∧ f ρ = some res ∧ PostT K mg E P o σ H Q res
abbrev PDT (X : Cx) (E : XK) (e : Expr) (f : EM) : Prop := PT X e (tT X.K X.mg E f)
abbrev PDW (X : Cx) (E : XK) (e : Expr) (f : EM) : Prop := PW X e (tT X.K X.mg E f)
def boolK (ka kb : EM) : D → EM
  | .bool true => ka
  | .bool false => kb
  | _ => failE
def mIfE (ft fa fb : EM) : EM := bindD ft (boolK fa fb)
def mAnd (fa fb : EM) : EM := bindD fa (boolK fb (retD (.bool false)))
def mOr (fa fb : EM) : EM := bindD fa (boolK (retD (.bool true)) fb)
def mNot (fa : EM) : EM := bindD fa (boolK (retD (.bool false)) (retD (.bool true)))
section
variable {K : PySem.W.Frag} {mg : Str → Option Value} {E : XK} {P : Addr → Prop} {o : Ow} {ρ : Env} {σ : St} {H H' H0 H1 : Hp} {f ka kb : EM} {d : D} {res : R × Env}
/-- a test is evaluated, then one of two ways is gone -/
theorem boolT_go (a : At K P o ρ σ H) (c : Chg o H0 H) (e : bindD f (boolK ka kb) ρ = some res) (px : ∀ n pl ρ', res = (.ex n pl, ρ') → ExPost K mg E P o ρ' σ H0 n pl) :
    tT K mg E f σ H fun b H1 => ∃ ρ1, Chg o H H1 ∧ Chg o H0 H1 ∧ At K P o ρ1 σ H1 ∧ (if b = true then ka ρ1 = some res else kb ρ1 = some res) := by
  unfold bindD bindE at e
  cases hf : f ρ with
  | none => rw [hf] at e; cases e
  | some r1 =>
    obtain ⟨r, ρ1⟩ := r1
    rw [hf] at e
    refine ⟨P, o, ρ, _, a, hf, ?_⟩
    cases r with
    | ok s =>
      cases s with
      | dat d =>
        cases d with
        | bool b => cases b with
          | true => exact fun H1 c1 a1 => ⟨ρ1, c1, c.trans c1, a1, e⟩
          | false => exact fun H1 c1 a1 => ⟨ρ1, c1, c.trans c1, a1, e⟩
        | _ => cases e
      | own _ => cases e
      | odk _ => cases e
      | odt _ => cases e
    | ex n pl =>
      cases e
      exact (px n pl ρ1 rfl).later c
theorem Post.exp {Q : VK} (p : Post K mg E P o σ H Q res) : ∀ n pl ρ', res = (.ex n pl, ρ') → ExPost K mg E P o ρ' σ H n pl := fun n pl ρ' e => by
  subst e
  exact p
theorem PostT.exp {Q : Bool → Hp → Prop} (p : PostT K mg E P o σ H Q res) : ∀ n pl ρ', res = (.ex n pl, ρ') → ExPost K mg E P o ρ' σ H n pl := fun n pl ρ' e => by
  subst e
  exact p
/-- what is wanted of a test's end, by a known answer -/
theorem PostT.ret {Q : Bool → Hp → Prop} {b : Bool} (p : PostT K mg E P o σ H Q res) (c : Chg o H H1) (a : At K P o ρ σ H1) (e : retD (.bool b) ρ = some res) : Q b H1 := by
  cases e
  exact p H1 c a
theorem PostT.later {Q : Bool → Hp → Prop} (c : Chg o H H1) (p : PostT K mg E P o σ H Q res) : PostT K mg E P o σ H1 Q res := by
  obtain ⟨r, ρ'⟩ := res
  cases r with
  | ok s =>
    cases s with
    | dat d => cases d <;> first | exact fun H' c' => p H' (c.trans c') | exact False.elim p
    | own _ => exact False.elim p
    | odk _ => exact False.elim p
    | odt _ => exact False.elim p
  | ex n pl => exact ExPost.later p c
theorem PostT.imp {Q Q' : Bool → Hp → Prop} (i : ∀ b H, Q b H → Q' b H) (p : PostT K mg E P o σ H Q res) : PostT K mg E P o σ H Q' res := by
  obtain ⟨r, ρ'⟩ := res
  cases r with
  | ok s =>
    cases s with
    | dat d => cases d <;> first | exact fun H' c' a => i _ _ (p H' c' a) | exact False.elim p
    | own _ => exact False.elim p
    | odk _ => exact False.elim p
    | odt _ => exact False.elim p
  | ex n pl => exact p
theorem tT_mono {Q Q' : Bool → Hp → Prop} (i : ∀ b H, Q b H → Q' b H) (h : tT K mg E f σ H Q) : tT K mg E f σ H Q' := by
  obtain ⟨P, o, ρ, res, a, e, q⟩ := h
  exact ⟨P, o, ρ, res, a, e, q.imp i⟩
theorem Post.ret {Q : VK} (p : Post K mg E P o σ H Q res) (c : Chg o H H1) (a : At K P o ρ σ H1) (e : retD d ρ = some res) {v : V} (r : Dp K (hd (hid P o) H1) v d) : Q v H1 := by
  cases e
  exact p v H1 c ⟨a, r⟩
/-- a value's post, as a test's -/
theorem PostT.val {Q : Bool → Hp → Prop} (p : PostT K mg E P o σ H Q res) : Post K mg E P o σ H (fun x H1 => ∃ c, x = .bl c ∧ Q c H1) res := by
  obtain ⟨r, ρ'⟩ := res
  cases r with
  | ok s =>
    cases s with
    | dat d =>
      cases d with
      | bool b =>
        intro v H' c k
        obtain ⟨a, k⟩ := k
        cases k
        exact ⟨b, rfl, p H' c a⟩
      | _ => exact False.elim p
    | own _ => exact False.elim p
    | odk _ => exact False.elim p
    | odt _ => exact False.elim p
  | ex n pl => exact p
end
section
variable {X : Cx} {E : XK} {e a b c : Expr} {fa fb fc : EM} {pos : Pos} {rest : List Expr}
theorem pdt_val (h : PD X E e fa) (he : ∀ whole, isTrue e X.env whole = (do let v ← whole; standAt e.pos; holding [v] (truthy v)) := by intro _; rfl) : PDT X E e fa := by
  refine PT.imp (pt_val h he) fun σ H Q h => ?_
  obtain ⟨P, o, ρ, res, a, e, p⟩ := h
  exact ⟨P, o, ρ, res, a, e, p.val⟩
theorem pdt_cmp {op : CmpOp} {r : R2} {g : D → D → Option D} (ho : OpR X (compareOp op) r) (hg : OpD X.K r g) (ha : PD X E a fa) (hb : PD X E b fb) (hm : behindInMarks op b = false) : PDT X E (.Compare a [op] [b] pos) (op2 g fa fb) := by
  refine PT.imp (pt_cmpR ho ha hb hm) fun σ H Q h => ?_
  obtain ⟨P, o, ρ, res, a, e, p⟩ := h
  exact op2_imp hg ⟨P, o, ρ, res, a, e, p.val⟩
theorem pdt_not (ha : PDT X E a fa) : PDT X E (.UnaryOp .Not a pos) (mNot fa) := by
  refine PT.imp (pt_not ha) fun σ H Q h => ?_
  obtain ⟨P, o, ρ, res, a, e, p⟩ := h
  refine tT_mono (fun b H1 h => ?_) (boolT_go a .refl e p.exp)
  obtain ⟨ρ1, c1, c2, a1, e⟩ := h
  cases b with
  | true => exact p.ret c1 a1 e
  | false => exact p.ret c1 a1 e
theorem pd_not (ha : PD X E a fa) : PD X E (.UnaryOp .Not a pos) (mNot fa) := by
  refine PE.imp (pe_not ha) fun σ H Q h => ?_
  obtain ⟨P, o, ρ, res, a, e, p⟩ := h
  refine tE_mono (fun x H1 h => ?_) (bindD_go a .refl e p)
  obtain ⟨ρ1, d, c1, c2, a1, dx, e⟩ := h
  cases d with
  | bool b =>
    cases dx
    cases b with
    | true => exact ⟨true, rfl, p.ret c1 a1 e (.bl _)⟩
    | false => exact ⟨false, rfl, p.ret c1 a1 e (.bl _)⟩
  | _ => cases e
theorem pdw_and1 (ha : PDT X E a fa) : PDW X E (.BoolOp .And [a] pos) fa := pw_and1 ha
theorem pdw_or1 (ha : PDT X E a fa) : PDW X E (.BoolOp .Or [a] pos) fa := pw_or1 ha
theorem PW.imp {X : Cx} {e : Expr} {t t' : TT} (h : PW X e t) (i : ∀ σ H Q, t' σ H Q → t σ H Q) : PW X e t' := ⟨fun w pins s σ H Q I q => h.run w pins s σ H Q I (i σ H Q q)⟩
theorem pdw_and (ha : PDT X E a fa) (hb : PDW X E (.BoolOp .And (b :: rest) pos) fb) : PDW X E (.BoolOp .And (a :: b :: rest) pos) (mAnd fa fb) := by
  refine PW.imp (pw_and ha hb) fun σ H Q h => ?_
  obtain ⟨P, o, ρ, res, a, e, p⟩ := h
  refine tT_mono (fun b H1 h => ?_) (boolT_go a .refl e p.exp)
  obtain ⟨ρ1, c1, c2, a1, e⟩ := h
  cases b with
  | true => exact ⟨P, o, ρ1, res, a1, e, p.later c1⟩
  | false => exact p.ret c1 a1 e
theorem pdw_or (ha : PDT X E a fa) (hb : PDW X E (.BoolOp .Or (b :: rest) pos) fb) : PDW X E (.BoolOp .Or (a :: b :: rest) pos) (mOr fa fb) := by
  refine PW.imp (pw_or ha hb) fun σ H Q h => ?_
  obtain ⟨P, o, ρ, res, a, e, p⟩ := h
  refine tT_mono (fun b H1 h => ?_) (boolT_go a .refl e p.exp)
  obtain ⟨ρ1, c1, c2, a1, e⟩ := h
  cases b with
  | true => exact p.ret c1 a1 e
  | false => exact ⟨P, o, ρ1, res, a1, e, p.later c1⟩
theorem pdt_w (h : PDW X E a fa) : PDT X E a fa := h.pt
theorem pd_one {op} (h : PD X E a fa) : PD X E (.BoolOp op [a] pos) fa := pe_one h
theorem pd_and (ha : PD X E a fa) (hb : PD X E (.BoolOp .And (b :: rest) pos) fb) : PD X E (.BoolOp .And (a :: b :: rest) pos) (mAnd fa fb) := by
  refine PE.imp (pe_and ha hb) fun σ H Q h => ?_
  obtain ⟨P, o, ρ, res, a, e, p⟩ := h
  refine tE_mono (fun x H1 h => ?_) (bindD_go a .refl e p)
  obtain ⟨ρ1, d, c1, c2, a1, dx, e⟩ := h
  cases d with
  | bool b =>
    cases dx
    cases b with
    | true => exact ⟨true, rfl, P, o, ρ1, res, a1, e, p.later c1⟩
    | false => exact ⟨false, rfl, p.ret c1 a1 e (.bl _)⟩
  | _ => cases e
theorem pd_or (ha : PD X E a fa) (hb : PD X E (.BoolOp .Or (b :: rest) pos) fb) : PD X E (.BoolOp .Or (a :: b :: rest) pos) (mOr fa fb) := by
  refine PE.imp (pe_or ha hb) fun σ H Q h => ?_
  obtain ⟨P, o, ρ, res, a, e, p⟩ := h
  refine tE_mono (fun x H1 h => ?_) (bindD_go a .refl e p)
  obtain ⟨ρ1, d, c1, c2, a1, dx, e⟩ := h
  cases d with
  | bool b =>
    cases dx
    cases b with
    | true => exact ⟨true, rfl, p.ret c1 a1 e (.bl _)⟩
    | false => exact ⟨false, rfl, P, o, ρ1, res, a1, e, p.later c1⟩
  | _ => cases e
theorem pd_if (hc : PDT X E c fc) (ha : PD X E a fa) (hb : PD X E b fb) : PD X E (.IfExp c a b pos) (mIfE fc fa fb) := by
  refine PE.imp (pe_ifExp hc ha hb) fun σ H Q h => ?_
  obtain ⟨P, o, ρ, res, a, e, p⟩ := h
  refine tT_mono (fun b H1 h => ?_) (boolT_go a .refl e p.exp)
  obtain ⟨ρ1, c1, c2, a1, e⟩ := h
  cases b with
  | true => exact ⟨P, o, ρ1, res, a1, e, p.later c1⟩
  | false => exact ⟨P, o, ρ1, res, a1, e, p.later c1⟩
/-- low <= value <= high -/
def mChain (g g' : D → D → Option D) (fa fb fc : EM) : EM := bindD fa fun x => bindD fb fun y => bindD (optD (g x y)) (boolK (bindD fc fun z => optD (g' y z)) (retD (.bool false)))
theorem chain_imp {K : PySem.W.Frag} {mg : Str → Option Value} {r r' : R2} {g g' : D → D → Option D} (hg : OpD K r g) (hg' : OpD K r' g') {σ : St} {H : Hp} {Q : VK} (h : tE K mg E (mChain g g' fa fb fc) σ H Q) : tChain r r' (tE K mg E fa) (tE K mg E fb) (tE K mg E fc) σ H Q := by
  obtain ⟨P, o, ρ, res, at0, e, p⟩ := h
  refine tE_mono (fun x H1 h => ?_) (bindD_go at0 .refl e p)
  obtain ⟨ρ1, d, c1, c2, at1, dx, e⟩ := h
  refine tE_mono (fun y H2 h => ?_) (bindD_go at1 c2 e p)
  obtain ⟨ρ2, d', c3, c4, at2, dy, e⟩ := h
  unfold bindD bindE optD at e
  cases hz : g d d' with
  | none => rw [hz] at e; cases e
  | some z =>
    rw [hz] at e
    refine hg (hid P o) H2 x y d d' z (fun a q => at2.domH q) (dp_mono c3.ex dx) dy hz _ fun v H3 ex dv => ?_
    cases z with
    | bool b =>
      cases dv
      refine ⟨b, rfl, ?_⟩
      cases b with
      | false =>
        have e : retD (.bool false) ρ2 = some res := e
        exact p.ret (c4.trans (.of ex)) (at2.ext ex) e (.bl _)
      | true =>
        have e : bindD fc (fun z => optD (g' d' z)) ρ2 = some res := e
        refine tE_mono (fun w H4 h => ?_) (bindD_go (at2.ext ex) (c4.trans (.of ex)) e p)
        obtain ⟨ρ4, d4, c5, c6, at4, dw, e⟩ := h
        obtain ⟨z, hz, rfl⟩ := optD_some e
        refine hg' (hid P o) H4 y w d' d4 z (fun a q => at4.domH q) (dp_mono ((Chg.of ex).trans c5).ex dy) dw hz Q fun v H' ex' dv => ?_
        exact p v H' (c6.trans (.of ex')) ⟨at4.ext ex', dv⟩
    | _ => cases e
theorem pd_chain {op op' : CmpOp} {r r' : R2} {g g' : D → D → Option D} (ho : OpR X (compareOp op) r) (hg : OpD X.K r g) (ho' : OpR X (compareOp op') r') (hg' : OpD X.K r' g') (ha : PD X E a fa) (hb : PD X E b fb) (hc : PD X E c fc)
    (hm : lastMarks [op, op'] [b, c] = false := by with_unfolding_all rfl) : PD X E (.Compare a [op, op'] [b, c] pos) (mChain g g' fa fb fc) :=
  PE.imp (pe_chain ho ho' ha hb hc hm) fun _ _ _ h => chain_imp hg hg' h
theorem pdt_chain {op op' : CmpOp} {r r' : R2} {g g' : D → D → Option D} (ho : OpR X (compareOp op) r) (hg : OpD X.K r g) (ho' : OpR X (compareOp op') r') (hg' : OpD X.K r' g') (ha : PD X E a fa) (hb : PD X E b fb) (hc : PD X E c fc)
    (hm : lastMarks [op, op'] [b, c] = false := by with_unfolding_all rfl) : PDT X E (.Compare a [op, op'] [b, c] pos) (mChain g g' fa fb fc) :=
  PT.imp (pt_chain ho ho' ha hb hc hm) fun σ H Q h => by
    obtain ⟨P, o, ρ, res, a, e, p⟩ := h
    exact chain_imp hg hg' ⟨P, o, ρ, res, a, e, p.val⟩
end
end DL

namespace DL
open PySem PySem.Spec L2

/-! ### arguments -/
inductive Arg where
  | dat (d : D)
  | ref (i : Nat)
abbrev AM := Env → Option (Sum (List Arg) (Str × Option D) × Env)
def mA0 : AM := fun ρ => some (.inl [], ρ)
def consA (a : Arg) : Option (Sum (List Arg) (Str × Option D) × Env) → Option (Sum (List Arg) (Str × Option D) × Env)
  | some (.inl as, ρ) => some (.inl (a :: as), ρ)
  | some (.inr x, ρ) => some (.inr x, ρ)
  | none => none
def mAc (f : EM) (fs : AM) : AM := fun ρ => match f ρ with
  | some (.ok s, ρ1) => (match s.toD with
    | some d => consA (.dat d) (fs ρ1)
    | none => none)
  | some (.ex c p, ρ1) => some (.inr (c, p), ρ1)
  | none => none
/-- an own object of slot i, handed on -/
def mAr (i : Nat) (fs : AM) : AM := fun ρ => match ρ[i]? with
  | some (some s) => if s.isOwn = true then consA (.ref i) (fs ρ) else none
  | _ => none
inductive ArgOk (K : PySem.W.Frag) (G : Hp) (o : Ow) : List V → List Arg → Prop where
  | nil : ArgOk K G o [] []
  | dat {v : V} {d : D} {vs : List V} {as : List Arg} : Dp K G v d → ArgOk K G o vs as → ArgOk K G o (v :: vs) (.dat d :: as)
  | ref {i : Nat} {a : Addr} {vs : List V} {as : List Arg} : o i = some a → ArgOk K G o vs as → ArgOk K G o (.ref a :: vs) (.ref i :: as)
theorem ArgOk.mono {K : PySem.W.Frag} {G G' : Hp} {o : Ow} (e : Ex G G') : ∀ {vs : List V} {as : List Arg}, ArgOk K G o vs as → ArgOk K G' o vs as
  | _, _, .nil => .nil
  | _, _, .dat h r => .dat (dp_mono e h) (ArgOk.mono e r)
  | _, _, .ref h r => .ref h (ArgOk.mono e r)
def PostA (K : PySem.W.Frag) (mg : Str → Option Value) (E : XK) (P : Addr → Prop) (o : Ow) (σ : St) (H : Hp) (Q : List V → Hp → Prop) : Sum (List Arg) (Str × Option D) × Env → Prop
  | (.inl as, ρ') => ∀ vs H', Chg o H H' → At K P o ρ' σ H' → ArgOk K (hd (hid P o) H') o vs as → Q vs H'
  | (.inr (c, p), ρ') => ExPost K mg E P o ρ' σ H c p
def tA (K : PySem.W.Frag) (mg : Str → Option Value) (E : XK) (f : AM) : TA := fun σ H Q => ∃ P o ρ res, At K P o ρ σ H ∧ f ρ = some res ∧ PostA K mg E P o σ H Q res
abbrev PDA (X : Cx) (E : XK) (es : List Expr) (f : AM) : Prop := PA X es (tA X.K X.mg E f)
theorem PA.imp {X : Cx} {es : List Expr} {t t' : TA} (h : PA X es t) (i : ∀ σ H Q, t' σ H Q → t σ H Q) : PA X es t' := ⟨fun pos pins s σ H Q I q => h.run pos pins s σ H Q I (i σ H Q q)⟩
theorem tA_mono {K : PySem.W.Frag} {mg : Str → Option Value} {E : XK} {f : AM} {σ : St} {H : Hp} {Q Q' : List V → Hp → Prop} (i : ∀ v H, Q v H → Q' v H) (h : tA K mg E f σ H Q) : tA K mg E f σ H Q' := by
  obtain ⟨P, o, ρ, res, a, e, q⟩ := h
  refine ⟨P, o, ρ, res, a, e, ?_⟩
  obtain ⟨r, ρ'⟩ := res
  cases r with
  | inl s => exact fun v H' c k w => i _ _ (q v H' c k w)
  | inr x => exact q
theorem PostA.later {K : PySem.W.Frag} {mg : Str → Option Value} {E : XK} {P : Addr → Prop} {o : Ow} {σ : St} {H H1 : Hp} {Q : List V → Hp → Prop} {res : Sum (List Arg) (Str × Option D) × Env} (c : Chg o H H1) (h : PostA K mg E P o σ H Q res) : PostA K mg E P o σ H1 Q res := by
  obtain ⟨r, ρ'⟩ := res
  cases r with
  | inl s => exact fun v H' c' k w => h v H' (c.trans c') k w
  | inr x => exact ExPost.later h c
theorem consA_inl {a : Arg} {r : Option (Sum (List Arg) (Str × Option D) × Env)} {res : Sum (List Arg) (Str × Option D) × Env} (h : consA a r = some res) :
    (∃ as ρ', r = some (.inl as, ρ') ∧ res = (.inl (a :: as), ρ')) ∨ (∃ x ρ', r = some (.inr x, ρ') ∧ res = (.inr x, ρ')) := by
  cases r with
  | none => cases h
  | some r =>
    obtain ⟨r, ρ'⟩ := r
    cases r with
    | inl as => cases h; exact .inl ⟨as, ρ', rfl, rfl⟩
    | inr x => cases h; exact .inr ⟨x, ρ', rfl, rfl⟩
section
variable {X : Cx} {E : XK} {e : Expr} {es : List Expr} {fe : EM} {fs : AM} {pos : Pos}
theorem pda_nil : PDA X E [] mA0 := PA.imp pa_nil fun σ H Q h => by
  obtain ⟨P, o, ρ, res, a, e, p⟩ := h
  cases e
  exact p [] H .refl a .nil
theorem pda_cons (he : PD X E e fe) (hr : PDA X E es fs) (hs : starEach (e :: es) X.env = (false, eval e X.env) :: starEach es X.env := by rfl) : PDA X E (e :: es) (mAc fe fs) := by
  refine PA.imp (pa_cons he hr hs) fun σ H Q h => ?_
  obtain ⟨P, o, ρ, res, a, e, p⟩ := h
  unfold mAc at e
  cases hf : fe ρ with
  | none => rw [hf] at e; cases e
  | some r1 =>
    obtain ⟨r, ρ1⟩ := r1
    rw [hf] at e
    refine ⟨P, o, ρ, _, a, hf, ?_⟩
    cases r with
    | ex n pl =>
      cases e
      exact p
    | ok s =>
      intro x H1 c1 ok
      cases hs : s.toD with
      | none => simp only [hs] at e; cases e
      | some d =>
        simp only [hs] at e
        obtain ⟨a1, dx⟩ := ok.toD hs
        rcases consA_inl e with ⟨as, ρ2, h2, rfl⟩ | ⟨y, ρ2, h2, rfl⟩
        · refine ⟨P, o, ρ1, _, a1, h2, fun vs H2 c2 a2 k => ?_⟩
          exact p (x :: vs) H2 (c1.trans c2) a2 (.dat (dp_mono c2.ex dx) k)
        · refine ⟨P, o, ρ1, _, a1, h2, ExPost.later p c1⟩
theorem pda_ref {i : Nat} {x : Str} {npos : Pos} (hN : X.N[i]? = some x) (hv : Vis X.env.scope x) (hr : PDA X E es fs) (hs : starEach (.Name x npos :: es) X.env = (false, eval (.Name x npos) X.env) :: starEach es X.env := by rfl)
    (hd : (x == ("__debug__" : Str)) = false := by decide) (hcd : (x == ("__classdict__" : Str)) = false := by decide) : PDA X E (.Name x npos :: es) (mAr i fs) := by
  refine PA.imp (pa_cons (pe_var hN hv hd hcd) hr hs) fun σ H Q h => ?_
  obtain ⟨P, o, ρ, res, a, e, p⟩ := h
  unfold mAr at e
  cases hi : ρ[i]? with
  | none => rw [hi] at e; cases e
  | some s =>
    rw [hi] at e
    cases s with
    | none => cases e
    | some s =>
      by_cases hs : s.isOwn = true
      · simp only [hs, if_true] at e
        obtain ⟨ad, ho⟩ := a.ow i s hi hs
        obtain ⟨s', h1, h2, _⟩ := a.has i ad ho
        refine ⟨.ref ad, h2, ?_⟩
        rcases consA_inl e with ⟨as, ρ2, h2, rfl⟩ | ⟨y, ρ2, h2, rfl⟩
        · exact ⟨P, o, ρ, _, a, h2, fun vs H2 c2 a2 k => p (.ref ad :: vs) H2 c2 a2 (.ref ho k)⟩
        · exact ⟨P, o, ρ, _, a, h2, p⟩
      · simp only [hs] at e
        cases e
end
/-- the data of arguments that are all data -/
def datsOf : List Arg → Option (List D)
  | [] => some []
  | .dat d :: r => (datsOf r).map (d :: ·)
  | .ref _ :: _ => none
theorem datsOf_ok {K : PySem.W.Frag} {G : Hp} {o : Ow} : ∀ {vs : List V} {as : List Arg} {ds : List D}, ArgOk K G o vs as → datsOf as = some ds → DpAll K G vs ds
  | _, _, _, .nil, e => by cases e; exact .nil
  | _, _, _, .dat (as := as) h r, e => by
    unfold datsOf at e
    cases hr : datsOf as with
    | none => rw [hr] at e; cases e
    | some ds => rw [hr] at e; cases e; exact .cons h (datsOf_ok r hr)
  | _, _, _, .ref _ _, e => by cases e
/-- a built-in's call, a display: g of the arguments' data -/
def mCB (g : List D → Option S) (fs : AM) : EM := fun ρ => match fs ρ with
  | some (.inl as, ρ1) => (match datsOf as with
    | some ds => optS (g ds) ρ1
    | none => none)
  | some (.inr (c, p), ρ1) => some (.ex c p, ρ1)
  | none => none
section
variable {K : PySem.W.Frag} {mg : Str → Option Value} {E : XK} {fs : AM} {r : List V → Hp → VK → Prop} {g : List D → Option S} {σ : St} {H : Hp} {Q : VK}
theorem cb_at {P : Addr → Prop} {o : Ow} {ρ : Env} {res : R × Env} (a : At K P o ρ σ H) (e : mCB g fs ρ = some res) (p : Post K mg E P o σ H Q res) :
    tA K mg E fs σ H fun vs H1 => ∃ ρ1 ds z, Chg o H H1 ∧ At K P o ρ1 σ H1 ∧ DpAll K (hd (hid P o) H1) vs ds ∧ g ds = some z ∧ ∀ v H', Chg o H1 H' → OkP K P o ρ1 σ H1 H' v z → Q v H' := by
  unfold mCB at e
  cases hf : fs ρ with
  | none => rw [hf] at e; cases e
  | some r1 =>
    obtain ⟨r, ρ1⟩ := r1
    rw [hf] at e
    refine ⟨P, o, ρ, _, a, hf, ?_⟩
    cases r with
    | inr x =>
      cases e
      exact p
    | inl as =>
      intro vs H1 c1 a1 k
      cases hd : datsOf as with
      | none => simp only [hd] at e; cases e
      | some ds =>
        simp only [hd] at e
        obtain ⟨z, hz, rfl⟩ := optS_some e
        exact ⟨ρ1, ds, z, c1, a1, datsOf_ok k hd, hz, fun v H' c2 ok => p v H' (c1.trans c2) (OkP.older c1 ok)⟩
theorem cb_go (h : tE K mg E (mCB g fs) σ H Q) : tA K mg E fs σ H fun vs H1 => ∃ P o ρ1 ds z, At K P o ρ1 σ H1 ∧ DpAll K (hd (hid P o) H1) vs ds ∧ g ds = some z ∧ ∀ v H', Chg o H1 H' → OkP K P o ρ1 σ H1 H' v z → Q v H' := by
  obtain ⟨P, o, ρ, res, a, e, p⟩ := h
  refine tA_mono (fun vs H1 h => ?_) (cb_at a e p)
  obtain ⟨ρ1, ds, z, _, h⟩ := h
  exact ⟨P, o, ρ1, ds, z, h⟩
theorem cb_imp (hg : CallD K r g) (h : tE K mg E (mCB g fs) σ H Q) : tCB r (tA K mg E fs) σ H Q := by
  refine tA_mono (fun vs H1 h => ?_) (cb_go h)
  obtain ⟨P, o, ρ1, ds, z, a1, k, hz, p⟩ := h
  exact hg (hid P o) H1 vs ds z (fun a q => a1.domH q) k hz Q fun v H' ex ok => p v H' (.of ex) (ok.ok a1 ex)
end
/-- a length that fits -/
def big : Nat := 1000000
theorem big_line {n : Nat} (h : n ≤ big) : n ≤ sizeLine := by
  have : sizeLine = 16777216 := sizeLine_eq
  unfold big at h
  omega
def gTup' (ds : List D) : Option S := if ds.length ≤ big then some (.dat (.tuple ds)) else none
def gLst (ds : List D) : Option S := if ds.length ≤ big then some (.dat (.list ds)) else none
def gLstO (ds : List D) : Option S := if ds.length ≤ big then some (.own ds) else none
section
variable {X : Cx} {E : XK} {e : Expr} {es : List Expr} {fe : EM} {fs : AM} {pos : Pos}
/-- a new tuple, a new list -/
theorem vok_tup {K : PySem.W.Frag} {P : Addr → Prop} {H : Hp} {p : Addr} {vs : List V} {ds : List D} (hP : ∀ a, P a → ∃ u, H a = some u) (hp : H p = none) (h : DpAll K (hd P H) vs ds) : VOk K P H (upd H p (.tup vs)) (.ref p) (.dat (.tuple ds)) := by
  refine Dp.tup (.inl (.inl (hd_some.mpr ⟨fun z => ?_, upd_same⟩))) (dps_mono (ex_hd_hd (Ex.new hp)) h)
  obtain ⟨u, k⟩ := hP p z
  rw [hp] at k
  cases k
theorem vok_lst {K : PySem.W.Frag} {P : Addr → Prop} {H : Hp} {p : Addr} {vs : List V} {ds : List D} (hP : ∀ a, P a → ∃ u, H a = some u) (hp : H p = none) (h : DpAll K (hd P H) vs ds) : VOk K P H (upd H p (.lst vs)) (.ref p) (.dat (.list ds)) := by
  refine Dp.lst (.inl (.inl (hd_some.mpr ⟨fun z => ?_, upd_same⟩))) (dps_mono (ex_hd_hd (Ex.new hp)) h)
  obtain ⟨u, k⟩ := hP p z
  rw [hp] at k
  cases k
theorem ex_plus {P : Addr → Prop} {H : Hp} {p : Addr} {u : HO} (hp : H p = none) : Ex (hd P H) (hd (plusA P p) (upd H p u)) := fun a w q => by
  obtain ⟨n, q⟩ := hd_some.mp q
  have hne : a ≠ p := ne_of_none q hp
  refine hd_some.mpr ⟨fun z => ?_, by rw [upd_ne hne]; exact q⟩
  rcases z with z | z
  · exact n z
  · exact hne z
theorem vok_own {K : PySem.W.Frag} {P : Addr → Prop} {H : Hp} {p : Addr} {vs : List V} {ds : List D} (hp : H p = none) (h : DpAll K (hd P H) vs ds) : VOk K P H (upd H p (.lst vs)) (.ref p) (.own ds) :=
  ⟨p, rfl, hp, vs, upd_same, dps_mono (ex_plus hp) h⟩
theorem pd_tup {x1} (h : PDA X E es fs) : PD X E (.Tuple es x1 pos) (mCB gTup' fs) := by
  refine PE.imp (pe_tup h) fun σ H Q h => tA_mono (fun vs H1 h => ?_) (cb_go h)
  obtain ⟨P, o, ρ1, ds, z, a1, k, hz, p⟩ := h
  unfold gTup' at hz
  split at hz
  · rename_i hl
    cases hz
    refine ⟨by rw [dps_len k]; exact big_line hl, fun q hq => p _ _ (.of (.new hq)) ((vok_tup (P := hid P o) (fun a q => a1.domH q) hq k).ok a1 (.new hq))⟩
  · cases hz
theorem pd_lst (h : PDA X E es fs) : PD X E (.List es pos) (mCB gLst fs) := by
  refine PE.imp (pe_lst h) fun σ H Q h => tA_mono (fun vs H1 h => ?_) (cb_go h)
  obtain ⟨P, o, ρ1, ds, z, a1, k, hz, p⟩ := h
  unfold gLst at hz
  split at hz
  · rename_i hl
    cases hz
    refine ⟨by rw [dps_len k]; exact big_line hl, fun q hq => p _ _ (.of (.new hq)) ((vok_lst (P := hid P o) (fun a q => a1.domH q) hq k).ok a1 (.new hq))⟩
  · cases hz
theorem pd_lstO (h : PDA X E es fs) : PD X E (.List es pos) (mCB gLstO fs) := by
  refine PE.imp (pe_lst h) fun σ H Q h => tA_mono (fun vs H1 h => ?_) (cb_go h)
  obtain ⟨P, o, ρ1, ds, z, a1, k, hz, p⟩ := h
  unfold gLstO at hz
  split at hz
  · rename_i hl
    cases hz
    refine ⟨by rw [dps_len k]; exact big_line hl, fun q hq => p _ _ (.of (.new hq)) ((vok_own hq k).ok a1 (.new hq))⟩
  · cases hz
theorem pd_cb {id : String} {x : Str} {p : Pos} {r : List V → Hp → VK → Prop} {g : List D → Option S} (hc : CallR X (.builtin id) r) (hD : CallD X.K r g) (hg : Gl X x) (hm : X.mg x = none) (hv : bootBuiltins x = some (.builtin id)) (ha : PDA X E (e :: es) fs) (hn : x ≠ "__name__" := by decide) (hdb : (x == ("__debug__" : Str)) = false := by decide)
    (he : starEach (e :: es) X.env = (false, eval e X.env) :: starEach es X.env := by rfl) (hpl : (backTo pos (starEach es X.env)).any (·.1) = false := by rfl) : PD X E (.Call (.Name x p) (e :: es) [] pos) (mCB g fs) :=
  PE.imp (pe_callB hc hg hm hv ha hn hdb he hpl) fun _ _ _ h => cb_imp hD h
theorem pd_ct {T : String} {x : Str} {p : Pos} {r : List V → Hp → VK → Prop} {g : List D → Option S} (hc : CallR X (.type T) r) (hD : CallD X.K r g) (hg : Gl X x) (hm : X.mg x = none) (hv : bootBuiltins x = some (.type T)) (ha : PDA X E (e :: es) fs) (hn : x ≠ "__name__" := by decide) (hdb : (x == ("__debug__" : Str)) = false := by decide)
    (he : starEach (e :: es) X.env = (false, eval e X.env) :: starEach es X.env := by rfl) (hpl : (backTo pos (starEach es X.env)).any (·.1) = false := by rfl) : PD X E (.Call (.Name x p) (e :: es) [] pos) (mCB g fs) :=
  PE.imp (pe_callTy hc hg hm hv ha hn hdb he hpl) fun _ _ _ h => cb_imp hD h
/-! ### slices -/
def mPart (f : EM) : Env → Option (Sum (Option Int) (Str × Option D) × Env) := fun ρ => match f ρ with
  | some (.ok (.dat (.int i)), ρ1) => some (.inl (some i), ρ1)
  | some (.ex c p, ρ1) => some (.inr (c, p), ρ1)
  | _ => none
def mNoPart : Env → Option (Sum (Option Int) (Str × Option D) × Env) := fun ρ => some (.inl none, ρ)
def tO (K : PySem.W.Frag) (mg : Str → Option Value) (E : XK) (f : Env → Option (Sum (Option Int) (Str × Option D) × Env)) : TO := fun σ H Q => ∃ P o ρ res ρ', At K P o ρ σ H ∧ f ρ = some (res, ρ') ∧ match res with
  | .inl i => ∀ H', Chg o H H' → At K P o ρ' σ H' → Q i H'
  | .inr (c, p) => ExPost K mg E P o ρ' σ H c p
abbrev PDO (X : Cx) (E : XK) (e : Option Expr) (f : Env → Option (Sum (Option Int) (Str × Option D) × Env)) : Prop := PO X e (tO X.K X.mg E f)
theorem PO.imp {X : Cx} {e : Option Expr} {t t' : TO} (h : PO X e t) (i : ∀ σ H Q, t' σ H Q → t σ H Q) : PO X e t' := by
  constructor
  intro pins s σ H Q I q
  exact h.run pins s σ H Q I (i σ H Q q)
theorem pdo_none : PDO X E none mNoPart := PO.imp po_none fun σ H Q h => by
  obtain ⟨P, o, ρ, res, ρ', a, e, p⟩ := h
  cases e
  exact p H .refl a
theorem pdo_some (h : PD X E e fe) : PDO X E (some e) (mPart fe) := PO.imp (po_some h) fun σ H Q h => by
  obtain ⟨P, o, ρ, res, ρ', a, e, p⟩ := h
  unfold mPart at e
  cases hf : fe ρ with
  | none => rw [hf] at e; cases e
  | some r1 =>
    obtain ⟨r, ρ1⟩ := r1
    rw [hf] at e
    refine ⟨P, o, ρ, _, a, hf, ?_⟩
    cases r with
    | ex n pl => cases e; exact p
    | ok s =>
      cases s with
      | dat d =>
        cases d with
        | int i =>
          cases e
          intro v H' c k
          obtain ⟨a1, k⟩ := k
          cases k
          exact ⟨i, rfl, p H' c a1⟩
        | _ => cases e
      | _ => cases e
def mSl (g : D → Option Int → Option Int → Option D) (f : EM) (fl fh : Env → Option (Sum (Option Int) (Str × Option D) × Env)) : EM := bindD f fun d ρ => match fl ρ with
  | some (.inl lo, ρ1) => (match fh ρ1 with
    | some (.inl hi, ρ2) => optD (g d lo hi) ρ2
    | some (.inr (c, p), ρ2) => some (.ex c p, ρ2)
    | none => none)
  | some (.inr (c, p), ρ1) => some (.ex c p, ρ1)
  | none => none
def SlD (K : PySem.W.Frag) (r : V → Option Int → Option Int → Hp → VK → Prop) (g : D → Option Int → Option Int → Option D) : Prop := ∀ (P : Addr → Prop) (H : Hp) (x : V) (d z : D) (lo hi : Option Int), (∀ a, P a → ∃ u, H a = some u) → Dp K (hd P H) x d → g d lo hi = some z →
  ∀ Q : VK, (∀ v H', Ex H H' → Dp K (hd P H') v z → Q v H') → r x lo hi H Q
theorem pd_slice {r : V → Option Int → Option Int → Hp → VK → Prop} {g : D → Option Int → Option Int → Option D} {lo hi : Option Expr} {p2 : Pos} {fl fh : Env → Option (Sum (Option Int) (Str × Option D) × Env)} (hr : SlR X r) (hg : SlD X.K r g) (he : PD X E e fe) (hl : PDO X E lo fl) (hu : PDO X E hi fh) : PD X E (.Subscript e (.Slice lo hi none p2) pos) (mSl g fe fl fh) := by
  refine PE.imp (pe_slice hr he hl hu) fun σ H Q h => ?_
  obtain ⟨P, o, ρ, res, a, e, p⟩ := h
  refine tE_mono (fun x H1 h => ?_) (bindD_go a .refl e p)
  obtain ⟨ρ1, d, c1, c2, a1, dx, e⟩ := h
  cases h1 : fl ρ1 with
  | none => rw [h1] at e; cases e
  | some q1 =>
    obtain ⟨q1, ρ2⟩ := q1
    rw [h1] at e
    refine ⟨P, o, ρ1, _, ρ2, a1, h1, ?_⟩
    cases q1 with
    | inr z => cases e; exact ExPost.later p c1
    | inl lo =>
      intro H2 c3 a2
      cases h2 : fh ρ2 with
      | none => simp only [h2] at e; cases e
      | some q2 =>
        obtain ⟨q2, ρ3⟩ := q2
        simp only [h2] at e
        refine ⟨P, o, ρ2, _, ρ3, a2, h2, ?_⟩
        cases q2 with
        | inr z => cases e; exact ExPost.later p (c1.trans c3)
        | inl hi =>
          intro H3 c4 a3
          obtain ⟨z, hz, rfl⟩ := optD_some e
          refine hg (hid P o) H3 x d z lo hi (fun a q => a3.domH q) (dp_mono (c3.trans c4).ex dx) hz Q fun v H' ex dv => ?_
          exact p v H' (((c2.trans c3).trans c4).trans (.of ex)) ⟨a3.ext ex, dv⟩
/-! ### methods of built-in types -/
def mBM (ty : D → Bool) (g : D → List D → Option S) (f : EM) (fs : AM) : EM := bindD f fun d => if ty d = true then mCB (g d) fs else failE
def MtD (K : PySem.W.Frag) (r : V → List V → Hp → VK → Prop) (g : D → List D → Option S) : Prop := ∀ (P : Addr → Prop) (H : Hp) (x : V) (d : D) (vs : List V) (ds : List D) (z : S), (∀ a, P a → ∃ u, H a = some u) → Dp K (hd P H) x d → DpAll K (hd P H) vs ds → g d ds = some z →
  ∀ Q : VK, (∀ v H', Ex H H' → VOk K P H H' v z → Q v H') → r x vs H Q
def TyD (K : PySem.W.Frag) (T : String) (ty : D → Bool) : Prop := ∀ (H : Hp) (x : V) (d : D), Dp K H x d → ty d = true → tyV K T x H
theorem bm_imp {K : PySem.W.Frag} {mg : Str → Option Value} {T : String} {r : V → List V → Hp → VK → Prop} {ty : D → Bool} {g : D → List D → Option S} (hT : TyD K T ty) (hg : MtD K r g) {σ : St} {H : Hp} {Q : VK} (h : tE K mg E (mBM ty g fe fs) σ H Q) :
    tBM K T r (tE K mg E fe) (tA K mg E fs) σ H Q := by
  obtain ⟨P, o, ρ, res, a, e, p⟩ := h
  refine tE_mono (fun x H1 h => ?_) (bindD_go a .refl e p)
  obtain ⟨ρ1, d, c1, c2, a1, dx, e⟩ := h
  by_cases ht : ty d = true
  · rw [if_pos ht] at e
    refine ⟨hT H1 x d (dp_mono ex_hd dx : Dp K H1 x d) ht, ?_⟩
    refine tA_mono (fun vs H2 h => ?_) (cb_at a1 e (p.later c1))
    obtain ⟨ρ2, ds, z, c3, a2, k, hz, q⟩ := h
    exact hg (hid P o) H2 x d vs ds z (fun a q => a2.domH q) (dp_mono c3.ex dx) k hz Q fun v H' ex ok => q v H' (.of ex) (ok.ok a2 ex)
  · rw [if_neg ht] at e; cases e
theorem pd_bm {T id : String} {name : Str} {r : V → List V → Hp → VK → Prop} {ty : D → Bool} {g : D → List D → Option S} {ob : Expr} {apos cpos : Pos} (hT : TyD X.K T ty) (hg : MtD X.K r g) (pa : PlainAttrs T) (slot : PySem.Slot T name id) (hty : typeOf (.builtin id) = pure (.type "method_descriptor")) (hm : MtR X id r) (ho : PD X E ob fe) (ha : PDA X E (e :: es) fs)
    (hbase : attributeBase ob name X.env (eval ob X.env) = eval ob X.env := by rfl)
    (hfew : ((backTo cpos (starEach (e :: es) X.env)).all (fun x => !x.1) && (backToKw cpos (keywordEach [] X.env)).all (fun x => x.1.isSome)
      && decide ((e :: es).length + ([] : List Keyword).length + (if ([] : List Keyword).isEmpty then 0 else 1) < 30)) = true := by rfl)
    (hline : (apos.endLine == cpos.line) = true := by rfl) (hs : starEach (e :: es) X.env = (false, eval e X.env) :: starEach es X.env := by rfl) (hplain : (backTo cpos (starEach es X.env)).any (·.1) = false := by rfl) :
    PD X E (.Call (.Attribute ob name apos) (e :: es) [] cpos) (mBM ty g fe fs) :=
  PE.imp (pe_bm pa slot hty hm ho ha hbase hfew hline hs hplain) fun _ _ _ h => bm_imp hT hg h
end
end DL

namespace DL
open PySem PySem.Spec L2

/-! ### statements -/
inductive Fl where
  | nx (ρ : Env)
  | rt (s : S) (ρ : Env)
  | bk (ρ : Env)
  | ct (ρ : Env)
  | ex (c : Str) (p : Option D) (ρ : Env)
abbrev SM := Env → Option Fl
structure ChgS (np : Nat) (o o' : Ow) (H H' : Hp) : Prop where
  keep : ∀ a u, H a = some u → ¬ Own o a → H' a = some u
  dom : ∀ a u, H a = some u → ∃ u', H' a = some u'
  new : ∀ a, Own o' a → Own o a ∨ H a = none
  par : ∀ i a, i < np → o i = some a → o' i = some a
section
variable {np : Nat} {o o1 o2 : Ow} {H H' H1 H2 : Hp}
theorem ChgS.refl : ChgS np o o H H := ⟨fun _ _ h _ => h, fun _ _ h => ⟨_, h⟩, fun _ h => .inl h, fun _ _ _ h => h⟩
theorem ChgS.back (c : ChgS np o o1 H H1) {a : Addr} (h : H1 a = none) : H a = none := by
  cases q : H a with
  | none => rfl
  | some u =>
    obtain ⟨u', h'⟩ := c.dom a u q
    rw [h] at h'
    cases h'
theorem ChgS.orig (c : ChgS np o o1 H H1) {a : Addr} (h : Own o1 a ∨ H1 a = none) : Own o a ∨ H a = none := h.elim (c.new a) fun h => .inr (c.back h)
theorem ChgS.trans (a : ChgS np o o1 H H1) (b : ChgS np o1 o2 H1 H2) : ChgS np o o2 H H2 where
  keep := fun x u h n => b.keep x u (a.keep x u h n) fun z => (a.new x z).elim n fun q => by rw [h] at q; cases q
  dom := fun x u h => let ⟨_, h1⟩ := a.dom x u h; b.dom x _ h1
  new := fun x z => a.orig (b.new x z)
  par := fun i x h q => b.par i x h (a.par i x h q)
theorem ChgS.of (c : Chg o H H') : ChgS np o o H H' := ⟨c.keep, c.dom, fun _ h => .inl h, fun _ _ _ h => h⟩
end
def RtP (K : PySem.W.Frag) (P : Addr → Prop) (o o' : Ow) (ρ : Env) (σ : St) (H0 H : Hp) (v : V) : S → Prop
  | .dat d => At K P o' ρ σ H ∧ Dp K (hd (hid P o') H) v d
  | s => ∃ a, v = .ref a ∧ (Own o a ∨ H0 a = none) ∧ ¬ Own o' a ∧ At K (plusA P a) o' ρ σ H ∧ OwnOk K (hd (hid (plusA P a) o') H) H a s
def PostS (K : PySem.W.Frag) (mg : Str → Option Value) (E : XK) (np : Nat) (P : Addr → Prop) (o : Ow) (H : Hp) (D : Ends) : Fl → Prop
  | .nx ρ' => ∀ o' σ' H', ChgS np o o' H H' → At K P o' ρ' σ' H' → D.nx σ' H'
  | .bk ρ' => ∀ o' σ' H', ChgS np o o' H H' → At K P o' ρ' σ' H' → D.bk σ' H'
  | .ct ρ' => ∀ o' σ' H', ChgS np o o' H H' → At K P o' ρ' σ' H' → D.ct σ' H'
  | .rt s ρ' => ∀ o' σ' v H', ChgS np o o' H H' → RtP K P o o' ρ' σ' H H' v s → D.rt v H'
  | .ex c p ρ' => ∀ o' σ' cls dx H', ChgS np o o' H H' → At K P o' ρ' σ' H' → XR K mg (hd (hid P o') H') H' c p cls dx → E cls dx H'
def tS (K : PySem.W.Frag) (mg : Str → Option Value) (E : XK) (np : Nat) (f : SM) : TS := fun D σ H => ∃ P o ρ fl, At K P o ρ σ H ∧ f ρ = some fl ∧ PostS K mg E np P o H D fl
abbrev PDS (X : Cx) (E : XK) (np : Nat) (st : Stmt) (f : SM) : Prop := PS X st (tS X.K X.mg E np f)
abbrev PDB (X : Cx) (E : XK) (np : Nat) (st : List Stmt) (f : SM) : Prop := PSs X st (tS X.K X.mg E np f)
section
variable {K : PySem.W.Frag} {mg : Str → Option Value} {E : XK} {np : Nat} {P : Addr → Prop} {o o1 : Ow} {ρ : Env} {σ : St} {H H' H0 H1 : Hp} {D D' : Ends} {fl : Fl} {v : V} {s : S}
theorem RtP.older (c : ChgS np o o1 H H1) {o2 : Ow} {H2 : Hp} (h : RtP K P o1 o2 ρ σ H1 H2 v s) : RtP K P o o2 ρ σ H H2 v s := by
  cases s with
  | dat d => exact h
  | own xs => obtain ⟨a, h1, h2, h3⟩ := h; exact ⟨a, h1, c.orig h2, h3⟩
  | odk xs => obtain ⟨a, h1, h2, h3⟩ := h; exact ⟨a, h1, c.orig h2, h3⟩
  | odt xs => obtain ⟨a, h1, h2, h3⟩ := h; exact ⟨a, h1, c.orig h2, h3⟩
theorem PostS.later (c : ChgS np o o1 H H1) (h : PostS K mg E np P o H D fl) : PostS K mg E np P o1 H1 D fl := by
  cases fl with
  | nx ρ' => exact fun o' σ' H' c' a => h o' σ' H' (c.trans c') a
  | bk ρ' => exact fun o' σ' H' c' a => h o' σ' H' (c.trans c') a
  | ct ρ' => exact fun o' σ' H' c' a => h o' σ' H' (c.trans c') a
  | rt s ρ' => exact fun o' σ' v H' c' a => h o' σ' v H' (c.trans c') (a.older c)
  | ex n p ρ' => exact fun o' σ' cls dx H' c' a => h o' σ' cls dx H' (c.trans c') a
theorem PostS.exp {n : Str} {pl : Option DL.D} {ρ' : Env} (h : PostS K mg E np P o H D fl) (e : fl = .ex n pl ρ') : ExPost K mg E P o ρ' σ H n pl := by
  subst e
  exact fun cls dx H' c a x => h o σ cls dx H' (.of c) a x
end
/-- f is evaluated, then k goes on with the value -/
def bindS (f : EM) (k : S → SM) : SM := fun ρ => match f ρ with
  | some (.ok s, ρ1) => k s ρ1
  | some (.ex c p, ρ1) => some (.ex c p ρ1)
  | none => none
def seqS (f g : SM) : SM := fun ρ => match f ρ with
  | some (.nx ρ1) => g ρ1
  | r => r
def nextS : SM := fun ρ => some (.nx ρ)
def failS : SM := fun _ => none
def retS' (f : EM) : SM := bindS f fun s ρ => some (.rt s ρ)
def retNS : SM := fun ρ => some (.rt (.dat .none) ρ)
def brkS : SM := fun ρ => some (.bk ρ)
def cntS : SM := fun ρ => some (.ct ρ)
def dropS (f : EM) : SM := bindS f fun _ ρ => some (.nx ρ)
def boolS (ka kb : SM) : S → SM
  | .dat (.bool true) => ka
  | .dat (.bool false) => kb
  | _ => failS
def ifS (ft : EM) (fa fb : SM) : SM := bindS ft (boolS fa fb)
section
variable {K : PySem.W.Frag} {mg : Str → Option Value} {E : XK} {np : Nat} {P : Addr → Prop} {o o1 : Ow} {ρ : Env} {σ : St} {H H' H0 H1 : Hp} {D D' : Ends} {fl : Fl} {f : EM} {k : S → SM} {ka kb : SM}
theorem bindS_go (a : At K P o ρ σ H) (e : bindS f k ρ = some fl) (p : PostS K mg E np P o H D fl) : tE K mg E f σ H fun x H1 => ∃ ρ1 s, Chg o H H1 ∧ OkP K P o ρ1 σ H H1 x s ∧ k s ρ1 = some fl := by
  unfold bindS at e
  cases hf : f ρ with
  | none => rw [hf] at e; cases e
  | some r1 =>
    obtain ⟨r, ρ1⟩ := r1
    rw [hf] at e
    refine ⟨P, o, ρ, _, a, hf, ?_⟩
    cases r with
    | ok s => exact fun x H1 c1 q => ⟨ρ1, s, c1, q, e⟩
    | ex n pl =>
      have e' : fl = .ex n pl ρ1 := by cases e; rfl
      exact p.exp e'
theorem boolS_go (a : At K P o ρ σ H) (e : bindS f (boolS ka kb) ρ = some fl) (p : PostS K mg E np P o H D fl) : tT K mg E f σ H fun b H1 => ∃ ρ1, Chg o H H1 ∧ At K P o ρ1 σ H1 ∧ (if b = true then ka ρ1 = some fl else kb ρ1 = some fl) := by
  unfold bindS at e
  cases hf : f ρ with
  | none => rw [hf] at e; cases e
  | some r1 =>
    obtain ⟨r, ρ1⟩ := r1
    rw [hf] at e
    refine ⟨P, o, ρ, _, a, hf, ?_⟩
    cases r with
    | ok s =>
      cases s with
      | dat d =>
        cases d with
        | bool b => cases b with
          | true => exact fun H1 c1 a1 => ⟨ρ1, c1, a1, e⟩
          | false => exact fun H1 c1 a1 => ⟨ρ1, c1, a1, e⟩
        | _ => cases e
      | own _ => cases e
      | odk _ => cases e
      | odt _ => cases e
    | ex n pl =>
      have e' : fl = .ex n pl ρ1 := by cases e; rfl
      exact p.exp e'
end
section
variable {X : Cx} {E : XK} {np : Nat} {st : Stmt} {rest sa sb : List Stmt} {e : Expr} {fe : EM} {f g : SM} {pos : Pos}
theorem pdb_nil : PDB X E np [] nextS := PSs.imp pss_nil fun D σ H h => by
  obtain ⟨P, o, ρ, fl, a, e, p⟩ := h
  cases e
  exact p o σ H .refl a
theorem pdb_cons (h1 : PDS X E np st f) (h2 : PDB X E np rest g) : PDB X E np (st :: rest) (seqS f g) := by
  refine PSs.imp (pss_cons h1 h2) fun D σ H h => ?_
  obtain ⟨P, o, ρ, fl, a, e, p⟩ := h
  unfold seqS at e
  cases hf : f ρ with
  | none => rw [hf] at e; cases e
  | some r =>
    rw [hf] at e
    refine ⟨P, o, ρ, r, a, hf, ?_⟩
    cases r with
    | nx ρ1 => exact fun o' σ' H' c a' => ⟨P, o', ρ1, fl, a', e, p.later c⟩
    | rt s ρ1 => cases e; exact p
    | bk ρ1 => cases e; exact p
    | ct ρ1 => cases e; exact p
    | ex n pl ρ1 => cases e; exact p
theorem pdb_one (h1 : PDS X E np st f) : PDB X E np [st] f := pss_one h1
theorem pds_never : PDS X E np st failS := PS.imp ps_never fun D σ H h => by
  obtain ⟨P, o, ρ, fl, a, e, p⟩ := h
  cases e
theorem pds_pass : PDS X E np (.Pass pos) nextS := PS.imp ps_pass fun D σ H h => by
  obtain ⟨P, o, ρ, fl, a, e, p⟩ := h
  cases e
  exact p o σ H .refl a
theorem pds_break : PDS X E np (.Break pos) brkS := PS.imp ps_break fun D σ H h => by
  obtain ⟨P, o, ρ, fl, a, e, p⟩ := h
  cases e
  exact p o σ H .refl a
theorem pds_continue : PDS X E np (.Continue pos) cntS := PS.imp ps_continue fun D σ H h => by
  obtain ⟨P, o, ρ, fl, a, e, p⟩ := h
  cases e
  exact p o σ H .refl a
theorem pds_expr (he : PD X E e fe) (hs : swapsWith e none pos.line X.env = pure false := by rfl) : PDS X E np (.Expr e pos) (dropS fe) := PS.imp (ps_expr he hs) fun D σ H h => by
  obtain ⟨P, o, ρ, fl, a, e, p⟩ := h
  refine tE_mono (fun x H1 h => ?_) (bindS_go a e p)
  obtain ⟨ρ1, s, c, ok, e⟩ := h
  cases e
  have a1 : At X.K P o ρ1 σ H1 := by
    cases s with
    | dat d => exact ok.1
    | own xs => obtain ⟨_, _, _, _, h, _⟩ := ok; exact h.less fun b z => .inl z
    | odk xs => obtain ⟨_, _, _, _, h, _⟩ := ok; exact h.less fun b z => .inl z
    | odt xs => obtain ⟨_, _, _, _, h, _⟩ := ok; exact h.less fun b z => .inl z
  exact p o σ H1 (.of c) a1
theorem pds_ret (he : PD X E e fe) : PDS X E np (.Return (some e) pos) (retS' fe) := PS.imp (ps_ret he) fun D σ H h => by
  obtain ⟨P, o, ρ, fl, a, e, p⟩ := h
  refine tE_mono (fun x H1 h => ?_) (bindS_go a e p)
  obtain ⟨ρ1, s, c, ok, e⟩ := h
  cases e
  refine p o σ x H1 (.of c) ?_
  cases s with
  | dat d => exact ok
  | own xs => obtain ⟨a, h1, h2, h3, h4⟩ := ok; exact ⟨a, h1, .inr h2, fun z => h3 (.inr z), h4⟩
  | odk xs => obtain ⟨a, h1, h2, h3, h4⟩ := ok; exact ⟨a, h1, .inr h2, fun z => h3 (.inr z), h4⟩
  | odt xs => obtain ⟨a, h1, h2, h3, h4⟩ := ok; exact ⟨a, h1, .inr h2, fun z => h3 (.inr z), h4⟩
theorem pds_retN : PDS X E np (.Return none pos) retNS := PS.imp ps_retN fun D σ H h => by
  obtain ⟨P, o, ρ, fl, a, e, p⟩ := h
  cases e
  exact p o σ .non H .refl ⟨a, .non⟩
theorem pds_if {c : Expr} (hc : PDT X E c fe) (ha : PDB X E np sa f) (hb : PDB X E np sb g) : PDS X E np (.If c sa sb pos) (ifS fe f g) := PS.imp (ps_if hc ha hb) fun D σ H h => by
  obtain ⟨P, o, ρ, fl, a, e, p⟩ := h
  refine tT_mono (fun b H1 h => ?_) (boolS_go a e p)
  obtain ⟨ρ1, c, a1, e⟩ := h
  cases b with
  | true => exact ⟨P, o, ρ1, fl, a1, e, p.later (.of c)⟩
  | false => exact ⟨P, o, ρ1, fl, a1, e, p.later (.of c)⟩
end

/-! ### targets -/
def clr (o : Ow) (i : Nat) : Ow := fun j => if j = i then none else o j
def ups (o : Ow) (i : Nat) (a : Addr) : Ow := fun j => if j = i then some a else o j
theorem own_clr {o : Ow} {i : Nat} {a : Addr} (h : Own (clr o i) a) : Own o a := by
  obtain ⟨j, h⟩ := h
  unfold clr at h
  split at h
  · cases h
  · exact ⟨j, h⟩
def okset (np i : Nat) (ρ : Env) : Bool := decide (i < ρ.length) && (decide (np ≤ i) || match ρ[i]? with
  | some (some s) => !s.isOwn
  | _ => true)
section
variable {K : PySem.W.Frag} {np : Nat} {P : Addr → Prop} {o : Ow} {ρ : Env} {σ : St} {H : Hp} {i : Nat} {v : V} {d : D} {s : S} {a : Addr}
theorem At.setD (h : At K P o ρ σ H) (r : Dp K (hd (hid P o) H) v d) (hi : i < ρ.length) : At K P (clr o i) (ρ.set i (some (.dat d))) (σ.set i (some v)) H := by
  have ex : Ex (hd (hid P o) H) (hd (hid P (clr o i)) H) := ex_hd_le fun a z => z.elim .inl fun z => .inr (own_clr z)
  have cl : ∀ j a, clr o i j = some a → j ≠ i ∧ o j = some a := fun j a q => by
    unfold clr at q
    split at q
    · cases q
    · rename_i hne
      exact ⟨hne, q⟩
  refine ⟨by simp [h.len], h.dom, fun j j' a q q' => h.inj j j' a (cl j a q).2 (cl j' a q').2, fun j a q => h.dis j a (cl j a q).2, fun j a q => ?_, fun j e q => ?_, fun j t q hs => ?_⟩
  · obtain ⟨hne, q⟩ := cl j a q
    obtain ⟨t, h1, h2, h3⟩ := h.has j a q
    exact ⟨t, by rw [List.getElem?_set_ne (Ne.symm hne)]; exact h1, by rw [List.getElem?_set_ne (Ne.symm hne)]; exact h2, h3.imp ex fun _ z => z⟩
  · by_cases hj : j = i
    · subst hj
      rw [List.getElem?_set_self hi] at q
      cases q
      exact ⟨v, List.getElem?_set_self (by rw [← h.len]; exact hi), dp_mono ex r⟩
    · rw [List.getElem?_set_ne (Ne.symm hj)] at q
      obtain ⟨w, h1, h2⟩ := h.dat j e q
      exact ⟨w, by rw [List.getElem?_set_ne (Ne.symm hj)]; exact h1, dp_mono ex h2⟩
  · by_cases hj : j = i
    · subst hj
      rw [List.getElem?_set_self hi] at q
      cases q
      cases hs
    · rw [List.getElem?_set_ne (Ne.symm hj)] at q
      obtain ⟨a, q⟩ := h.ow j t q hs
      exact ⟨a, by unfold clr; rw [if_neg hj]; exact q⟩
theorem At.setO (h : At K (plusA P a) o ρ σ H) (hn : ¬ hid P o a) (r : OwnOk K (hd (hid (plusA P a) o) H) H a s) (hi : i < ρ.length) : At K P (ups o i a) (ρ.set i (some s)) (σ.set i (some (.ref a))) H := by
  have sub : ∀ b, hid P (ups o i a) b → hid (plusA P a) o b := fun b z => by
    rcases z with z | ⟨j, z⟩
    · exact .inl (.inl z)
    · unfold ups at z
      split at z
      · cases z; exact .inl (.inr rfl)
      · exact .inr ⟨j, z⟩
  have ex : Ex (hd (hid (plusA P a) o) H) (hd (hid P (ups o i a)) H) := ex_hd_le sub
  have cl : ∀ j b, ups o i a j = some b → (j = i ∧ b = a) ∨ (j ≠ i ∧ o j = some b) := fun j b q => by
    unfold ups at q
    split at q
    · rename_i e
      cases q
      exact .inl ⟨e, rfl⟩
    · rename_i hne
      exact .inr ⟨hne, q⟩
  refine ⟨by simp [h.len], fun b z => h.dom b (.inl z), fun j j' b q q' => ?_, fun j b q z => (cl j b q).elim (fun w => hn (.inl (by rw [← w.2]; exact z))) fun w => h.dis j b w.2 (.inl z), fun j b q => ?_, fun j e q => ?_, fun j t q hs => ?_⟩
  · rcases cl j b q with ⟨e1, e2⟩ | ⟨n1, q1⟩ <;> rcases cl j' b q' with ⟨e3, e4⟩ | ⟨n2, q2⟩
    · rw [e1, e3]
    · subst e2; exact absurd (.inr ⟨_, q2⟩) hn
    · subst e4; exact absurd (.inr ⟨_, q1⟩) hn
    · exact h.inj j j' b q1 q2
  · rcases cl j b q with ⟨rfl, rfl⟩ | ⟨hne, q⟩
    · exact ⟨s, List.getElem?_set_self hi, List.getElem?_set_self (by rw [← h.len]; exact hi), r.imp ex fun _ z => z⟩
    · obtain ⟨t, h1, h2, h3⟩ := h.has j b q
      exact ⟨t, by rw [List.getElem?_set_ne (Ne.symm hne)]; exact h1, by rw [List.getElem?_set_ne (Ne.symm hne)]; exact h2, h3.imp ex fun _ z => z⟩
  · by_cases hj : j = i
    · subst hj
      rw [List.getElem?_set_self hi] at q
      cases q
      exact False.elim r
    · rw [List.getElem?_set_ne (Ne.symm hj)] at q
      obtain ⟨w, h1, h2⟩ := h.dat j e q
      exact ⟨w, by rw [List.getElem?_set_ne (Ne.symm hj)]; exact h1, dp_mono ex h2⟩
  · by_cases hj : j = i
    · exact ⟨a, by unfold ups; rw [if_pos hj]⟩
    · rw [List.getElem?_set_ne (Ne.symm hj)] at q
      obtain ⟨b, q⟩ := h.ow j t q hs
      exact ⟨b, by unfold ups; rw [if_neg hj]; exact q⟩
theorem okset_lt (h : okset np i ρ = true) : i < ρ.length := by
  unfold okset at h
  simp only [Bool.and_eq_true, decide_eq_true_eq] at h
  exact h.1
/-- a parameter's own object is not set -/
theorem okset_par {b : Addr} (A : At K P o ρ σ H) (h : okset np i ρ = true) (hj : i < np) : o i = some b → False := fun q => by
  unfold okset at h
  simp only [Bool.and_eq_true, decide_eq_true_eq, Bool.or_eq_true] at h
  obtain ⟨s, h1, _, h3⟩ := A.has i b q
  rcases h.2 with z | z
  · omega
  · rw [h1] at z
    simp only [h3.isOwn] at z
    cases z
theorem chgS_clr (A : At K P o ρ σ H) (h : okset np i ρ = true) : ChgS np o (clr o i) H H := by
  refine ⟨fun _ _ h _ => h, fun _ _ h => ⟨_, h⟩, fun _ z => .inl (own_clr z), fun j b hj q => ?_⟩
  unfold clr
  split
  · rename_i e
    subst e
    exact (okset_par A h hj q).elim
  · exact q
end
structure TgRel (np : Nat) (sl : List Nat) (o o' : Ow) (σ σ' : St) : Prop where
  sub : ∀ a, Own o' a → Own o a
  par : ∀ i a, i < np → o i = some a → o' i = some a
  len : σ'.length = σ.length
  off : ∀ (j : Nat), j ∉ sl → σ'[j]? = σ[j]?
  oth : ∀ (j : Nat), j ∉ sl → o' j = o j
abbrev TgM := D → Env → Option Env
def tG (K : PySem.W.Frag) (np : Nat) (T : TgM) (sl : List Nat) : TG := fun v σ H Q => ∃ P o ρ d ρ', At K P o ρ σ H ∧ Dp K (hd (hid P o) H) v d ∧ T d ρ = some ρ' ∧ ∀ o' σ', TgRel np sl o o' σ σ' → At K P o' ρ' σ' H → Q σ' H
def tGs (K : PySem.W.Frag) (np : Nat) (T : List D → Env → Option Env) (sl : List Nat) : TGs := fun vs σ H Q => ∃ P o ρ ds ρ', At K P o ρ σ H ∧ DpAll K (hd (hid P o) H) vs ds ∧ T ds ρ = some ρ' ∧ ∀ o' σ', TgRel np sl o o' σ σ' → At K P o' ρ' σ' H → Q σ' H
abbrev PDG (X : Cx) (np : Nat) (tg : Expr) (T : TgM) (sl : List Nat) : Prop := PG X tg (tG X.K np T sl)
abbrev PDGs (X : Cx) (np : Nat) (tg : List Expr) (T : List D → Env → Option Env) (sl : List Nat) : Prop := PGs X tg (tGs X.K np T sl)
theorem PG.imp {X : Cx} {e : Expr} {t t' : TG} (h : PG X e t) (i : ∀ v σ H Q, t' v σ H Q → t v σ H Q) : PG X e t' := ⟨fun pins s σ H v u Q I r q => h.run pins s σ H v u Q I r (i v σ H Q q)⟩
theorem PGs.imp {X : Cx} {e : List Expr} {t t' : TGs} (h : PGs X e t) (i : ∀ v σ H Q, t' v σ H Q → t v σ H Q) : PGs X e t' := ⟨fun pins s σ H v u Q I r q => h.run pins s σ H v u Q I r (i v σ H Q q)⟩
def gNm (np i : Nat) : TgM := fun d ρ => if okset np i ρ = true then some (ρ.set i (some (.dat d))) else none
def gNl : List D → Env → Option Env := fun ds ρ => match ds with
  | [] => some ρ
  | _ => none
def gCs (t : TgM) (ts : List D → Env → Option Env) : List D → Env → Option Env := fun ds ρ => match ds with
  | d :: r => (t d ρ).bind (ts r)
  | [] => none
def gTp (n : Nat) (ts : List D → Env → Option Env) : TgM := fun d ρ => match d with
  | .tuple ds => if ds.length = n then ts ds ρ else none
  | _ => none
section
variable {X : Cx} {np i : Nat} {x : Str} {e : Expr} {es : List Expr} {T : TgM} {Ts : List D → Env → Option Env} {sl sl' : List Nat} {pos : Pos}
theorem pdg_name (hN : X.N.Nodup) (hi : X.N[i]? = some x) (hx : Loc X.env.scope x) (hf : X.fn x = true ∨ X.env.scope.names.lookup x = some .local := by first | exact .inl rfl | exact .inr rfl | assumption) : PDG X np (.Name x pos) (gNm np i) [i] := by
  refine PG.imp (pg_name hN hi hx hf) fun v σ H Q h => ?_
  obtain ⟨P, o, ρ, d, ρ', a, r, e, p⟩ := h
  unfold gNm at e
  split at e
  · rename_i hok
    cases e
    refine p (clr o i) (σ.set i (some v)) ⟨fun _ z => own_clr z, (chgS_clr a hok).par, by simp, fun j hj => ?_, fun j hj => ?_⟩ (a.setD r (okset_lt hok))
    · exact List.getElem?_set_ne (fun z => hj (by simp [z]))
    · unfold clr
      rw [if_neg fun z => hj (by simp [z])]
  · cases e
theorem pdgs_nil : PDGs X np [] gNl [] := PGs.imp pgs_nil fun vs σ H Q h => by
  obtain ⟨P, o, ρ, ds, ρ', a, r, e, p⟩ := h
  cases r with
  | nil => cases e; exact ⟨rfl, p o σ ⟨fun _ z => z, fun _ _ _ z => z, rfl, fun _ _ => rfl, fun _ _ => rfl⟩ a⟩
  | cons _ _ => cases e
theorem pdgs_cons (h1 : PDG X np e T sl) (h2 : PDGs X np es Ts sl') (hs : (assignEach (e :: es) X.env).map (·.2) = assign e X.env :: (assignEach es X.env).map (·.2) := by rfl) : PDGs X np (e :: es) (gCs T Ts) (sl ++ sl') := PGs.imp (pgs_cons h1 h2 hs) fun vs σ H Q h => by
  obtain ⟨P, o, ρ, ds, ρ', a, r, e, p⟩ := h
  cases r with
  | nil => cases e
  | @cons v vs d ds r rr =>
    unfold gCs at e
    cases hT : T d ρ with
    | none => simp only [hT] at e; cases e
    | some ρ1 =>
      simp only [hT] at e
      refine ⟨v, vs, rfl, P, o, ρ, d, ρ1, a, r, hT, fun o1 σ1 t1 a1 => ?_⟩
      refine ⟨P, o1, ρ1, ds, ρ', a1, dps_mono (ex_hd_le fun b z => z.elim .inl fun z => .inr (t1.sub b z)) rr, e, fun o2 σ2 t2 a2 => ?_⟩
      exact p o2 σ2 ⟨fun b z => t1.sub b (t2.sub b z), fun j b hj q => t2.par j b hj (t1.par j b hj q), t2.len.trans t1.len, fun j hj => (t2.off j fun z => hj (List.mem_append_right _ z)).trans (t1.off j fun z => hj (List.mem_append_left _ z)), fun j hj => (t2.oth j fun z => hj (List.mem_append_right _ z)).trans (t1.oth j fun z => hj (List.mem_append_left _ z))⟩ a2
theorem pdg_tup {k n : Nat} (hc : X.calm = true) (h : PDGs X np es Ts sl) (hn : (assignEach es X.env).length = n := by rfl) (hst : (assignEach es X.env).findIdx? (·.1) = none := by rfl) : PDG X np (.Tuple es k pos) (gTp n Ts) sl := PG.imp (pg_tup hc h hn hst) fun v σ H Q h => by
  obtain ⟨P, o, ρ, d, ρ', a, r, e, p⟩ := h
  unfold gTp at e
  cases r with
  | @tup ad xs ds hq hs =>
    simp only at e
    split at e
    · rename_i hl
      exact ⟨ad, xs, rfl, ex_t ex_hd hq, by rw [dps_len hs]; exact hl, P, o, ρ, ds, ρ', a, hs, e, p⟩
    · cases e
  | _ => cases e
end

/-! ### assignments -/
def asgN (np i : Nat) (f : EM) : SM := bindS f fun s ρ => if okset np i ρ = true then some (.nx (ρ.set i (some s))) else none
def asgT (T : TgM) (f : EM) : SM := bindS f fun s ρ => match s.toD with
  | some d => (match T d ρ with
    | some ρ' => some (.nx ρ')
    | none => none)
  | none => none
section
variable {X : Cx} {E : XK} {np i : Nat} {x : Str} {e tg : Expr} {fe : EM} {T : TgM} {sl : List Nat} {pos pos' : Pos}
theorem asgN_go {K : PySem.W.Frag} {mg : Str → Option Value} {σ : St} {H : Hp} {D : Ends} (h : tS K mg E np (asgN np i fe) D σ H) : tE K mg E fe σ H fun y H1 => D.nx (σ.set i (some y)) H1 := by
  obtain ⟨P, o, ρ, fl, a, e, p⟩ := h
  refine tE_mono (fun y H1 h => ?_) (bindS_go a e p)
  obtain ⟨ρ1, s, c, ok, e⟩ := h
  split at e
  · rename_i hok
    cases e
    have own : (∃ b, y = .ref b ∧ H b = none ∧ ¬ hid P o b ∧ At K (plusA P b) o ρ1 σ H1 ∧ OwnOk K (hd (hid (plusA P b) o) H1) H1 b s) → D.nx (σ.set i (some y)) H1 := by
      rintro ⟨b, rfl, h2, h3, h4, h5⟩
      refine p (ups o i b) _ H1 ⟨c.keep, c.dom, fun z q => ?_, fun j z hj q => ?_⟩ (h4.setO h3 h5 (okset_lt hok))
      · obtain ⟨j, q⟩ := q
        unfold ups at q
        split at q
        · cases q; exact .inr h2
        · exact .inl ⟨j, q⟩
      · unfold ups
        split
        · rename_i ej
          subst ej
          exact (okset_par h4 hok hj q).elim
        · exact q
    cases s with
    | dat d =>
      obtain ⟨a1, r⟩ := ok
      exact p (clr o i) _ H1 ((ChgS.of c).trans (chgS_clr a1 hok)) (a1.setD r (okset_lt hok))
    | own xs => exact own ok
    | odk xs => exact own ok
    | odt xs => exact own ok
  · cases e
theorem pds_set (hN : X.N.Nodup) (hi : X.N[i]? = some x) (hx : Loc X.env.scope x) (he : PD X E e fe) (hs : swapsWith e (some (.Name x pos')) pos.line X.env = pure false := by rfl) (hf : X.fn x = true ∨ X.env.scope.names.lookup x = some .local := by first | exact .inl rfl | exact .inr rfl | assumption) :
    PDS X E np (.Assign [.Name x pos'] e pos) (asgN np i fe) := PS.imp (ps_set hN hi hx he hs hf) fun D σ H h => asgN_go h
theorem pds_asg (he : PD X E e fe) (hg : PDG X np tg T sl) (hs : swapsWithSole [tg] e pos.line X.env = pure false := by rfl) (hw : swappedStores [tg] e X.env = pure none := by rfl)
    (h1 : (assignEach [tg] X.env).map (·.2) = [assign tg X.env] := by rfl) : PDS X E np (.Assign [tg] e pos) (asgT T fe) := PS.imp (ps_asg he hg hs hw h1) fun D σ H h => by
  obtain ⟨P, o, ρ, fl, a, e, p⟩ := h
  refine tE_mono (fun y H1 h => ?_) (bindS_go a e p)
  obtain ⟨ρ1, s, c, ok, e⟩ := h
  cases hs : s.toD with
  | none => simp only [hs] at e; cases e
  | some d =>
    simp only [hs] at e
    obtain ⟨a1, r⟩ := ok.toD hs
    cases hT : T d ρ1 with
    | none => simp only [hT] at e; cases e
    | some ρ' =>
      simp only [hT] at e
      cases e
      refine ⟨P, o, ρ1, d, ρ', a1, r, hT, fun o' σ' t a' => ?_⟩
      exact p o' σ' H1 ⟨c.keep, c.dom, fun b z => .inl (t.sub b z), t.par⟩ a'
end
end DL

namespace DL
open PySem PySem.Spec L2

/-! ### iterators -/
def ItD (K : PySem.W.Frag) (G : Hp) (J : It) (ds : List D) : Prop := ∃ (Gp : Hp → Prop) (Y : Nat → Hp → V → Hp → Prop), Walk J ds.length Gp Y ∧
  (∀ P' H', Ex G (hd P' H') → Gp H') ∧
  ∀ P' i H' x H'', i < ds.length → (∀ a, P' a → ∃ u, H' a = some u) → Ex G (hd P' H') → Y i H' x H'' → Ex H' H'' ∧ ∃ d, ds[i]? = some d ∧ Dp K (hd P' H'') x d
abbrev IM := Env → Option (Sum (List D) (Str × Option D) × Env)
def tI (K : PySem.W.Frag) (mg : Str → Option Value) (E : XK) (f : IM) : TI := fun σ H R => ∃ P o ρ res ρ', At K P o ρ σ H ∧ f ρ = some (res, ρ') ∧ match res with
  | .inl ds => ∀ J H', Chg o H H' → At K P o ρ' σ H' → ItD K (hd (hid P o) H') J ds → R J H'
  | .inr (c, p) => ExPost K mg E P o ρ' σ H c p
abbrev PDI (X : Cx) (E : XK) (tg e : Expr) (f : IM) : Prop := PI X tg e (tI X.K X.mg E f)
theorem PI.imp {X : Cx} {tg e : Expr} {t t' : TI} (h : PI X tg e t) (i : ∀ σ H R, t' σ H R → t σ H R) : PI X tg e t' := ⟨fun pins s σ H R I q => h.run pins s σ H R I (i σ H R q)⟩
theorem itd_seq {K : PySem.W.Frag} {G : Hp} {J : It} {vs : List V} {ds : List D} {Gp : Hp → Prop} (w : Walk J vs.length Gp (YAt vs)) (hG : ∀ P' H', Ex G (hd P' H') → Gp H') (h : DpAll K G vs ds) : ItD K G J ds := by
  refine ⟨Gp, YAt vs, by rw [← dps_len h]; exact w, hG, fun P' i H' x H'' _ _ ex y => ?_⟩
  obtain ⟨rfl, hx⟩ := y
  obtain ⟨d, h1, h2⟩ := dps_get h hx
  exact ⟨Ex.refl _, d, h1, dp_mono ex h2⟩
theorem itd_pair {K : PySem.W.Frag} {G : Hp} {J : It} {n : Nat} {xs ys : Nat → Option V} {ds : List D} {Gp : Hp → Prop} (hn : ds.length = n) (w : Walk J n Gp (YPair xs ys)) (hG : ∀ P' H', Ex G (hd P' H') → Gp H')
    (h : ∀ i x y, xs i = some x → ys i = some y → ∃ d e, ds[i]? = some (.tuple [d, e]) ∧ Dp K G x d ∧ Dp K G y e) : ItD K G J ds := by
  refine ⟨Gp, YPair xs ys, by rw [hn]; exact w, hG, fun P' i H' v H'' _ hP ex y => ?_⟩
  obtain ⟨T, x, y, rfl, hT, rfl, h1, h2⟩ := y
  obtain ⟨d, e, h3, h4, h5⟩ := h i x y h1 h2
  refine ⟨Ex.new hT, _, h3, .tup (.inl (.inl (hd_some.mpr ⟨fun z => ?_, upd_same⟩))) (.cons ?_ (.cons ?_ .nil))⟩
  · obtain ⟨u, k⟩ := hP T z
    rw [hT] at k
    cases k
  · exact dp_mono (ex.trans (ex_hd_hd (Ex.new hT))) h4
  · exact dp_mono (ex.trans (ex_hd_hd (Ex.new hT))) h5
/-- a list or a tuple, walked -/
def seqOf : D → Option (List D)
  | .list xs => some xs
  | .tuple xs => some xs
  | _ => none
def iSeq (f : EM) : IM := fun ρ => match f ρ with
  | some (.ok s, ρ1) => (match s.toD with
    | some d => (match seqOf d with
      | some ds => some (.inl ds, ρ1)
      | none => none)
    | none => none)
  | some (.ex c p, ρ1) => some (.inr (c, p), ρ1)
  | none => none
/-- of an iterator made by a built-in of data -/
def iCB (g : List D → Option (List D)) (fs : AM) : IM := fun ρ => match fs ρ with
  | some (.inl as, ρ1) => (match datsOf as with
    | some ds => (match g ds with
      | some r => some (.inl r, ρ1)
      | none => none)
    | none => none)
  | some (.inr (c, p), ρ1) => some (.inr (c, p), ρ1)
  | none => none
theorem icb_go {K : PySem.W.Frag} {mg : Str → Option Value} {E : XK} {fs : AM} {g : List D → Option (List D)} {σ : St} {H : Hp} {R : It → Hp → Prop} (h : tI K mg E (iCB g fs) σ H R) :
    tA K mg E fs σ H fun vs H1 => ∃ G ds rs, Ex G H1 ∧ DpAll K G vs ds ∧ g ds = some rs ∧ ∀ J, ItD K G J rs → R J H1 := by
  obtain ⟨P, o, ρ, res, ρ', a, e, p⟩ := h
  unfold iCB at e
  cases hf : fs ρ with
  | none => rw [hf] at e; cases e
  | some r1 =>
    obtain ⟨r, ρ1⟩ := r1
    rw [hf] at e
    refine ⟨P, o, ρ, _, a, hf, ?_⟩
    cases r with
    | inr x => cases e; exact p
    | inl as =>
      intro vs H1 c1 a1 k
      cases hd' : datsOf as with
      | none => simp only [hd'] at e; cases e
      | some ds =>
        simp only [hd'] at e
        cases hg : g ds with
        | none => simp only [hg] at e; cases e
        | some rs =>
          simp only [hg] at e
          cases e
          exact ⟨hd (hid P o) H1, ds, rs, ex_hd, datsOf_ok k hd', hg, fun J hJ => p J H1 c1 a1 hJ⟩
section
variable {X : Cx} {E : XK} {tg e : Expr} {fe : EM} {fs : AM}
def iSq (K : PySem.W.Frag) (tl : TE) : TI := fun σ H R => tl σ H fun x H1 => ∃ a, x = .ref a ∧ (((∃ xs, SqL K H1 a xs) ∧ R (Itl K a) H1) ∨ ((∃ xs, SqT K H1 a xs) ∧ R (Itt K a) H1))
theorem pi_sq {l : Expr} {tl : TE} (hl : PE X l tl) : PI X tg l (iSq X.K tl) := by
  refine ⟨fun pins s σ H R I h => ?_⟩
  refine thn (hl.run pins s σ H _ I h) fun v s1 ⟨x, H1, I1, r1, q1⟩ => ?_
  obtain ⟨a, e, ⟨⟨xs, hq⟩, q⟩ | ⟨⟨xs, hq⟩, q⟩⟩ := q1
  · subst e
    cases r1
    obtain ⟨its, rv, p, hz⟩ := I1.list hq
    refine wpAny_pyIter_list p.isList ?_
    refine ⟨s1.heap.objs.size, [s1.heap.objs.size], _, _, H1, rfl, I1.kept (t' := s1.toks) fun b o e => Heap.get?_push_of_some _ e, turn_list a _, ⟨_, Heap.get?_push_size _ rfl, rfl, rfl⟩, fun b hb => ?_, q⟩
    have e : b = s1.heap.objs.size := by simpa using hb
    subst e
    exact I1.fpOk (Nat.le_refl _) (I1.hok.fresh (Nat.le_refl _))
  · subst e
    cases r1
    obtain ⟨its, rv, p, hz⟩ := I1.tuple hq
    refine wpAny_pyIter_tuple (show s1.heap.IsTuple a its.toArray from p) ?_
    refine ⟨s1.heap.objs.size, [s1.heap.objs.size], _, _, H1, rfl, I1.kept (t' := s1.toks) fun b o e => Heap.get?_push_of_some _ e, turn_tuple a _, ⟨_, Heap.get?_push_size _ rfl, rfl, rfl⟩, fun b hb => ?_, q⟩
    have e : b = s1.heap.objs.size := by simpa using hb
    subst e
    exact I1.fpOk (Nat.le_refl _) (I1.hok.fresh (Nat.le_refl _))
theorem pdi_seq (he : PD X E e fe) : PDI X E tg e (iSeq fe) := PI.imp (pi_sq he) fun σ H R h => by
  obtain ⟨P, o, ρ, res, ρ', a, e, p⟩ := h
  unfold iSeq at e
  cases hf : fe ρ with
  | none => rw [hf] at e; cases e
  | some r1 =>
    obtain ⟨r, ρ1⟩ := r1
    rw [hf] at e
    refine ⟨P, o, ρ, _, a, hf, ?_⟩
    cases r with
    | ex n pl => cases e; exact p
    | ok s =>
      intro x H1 c1 ok
      cases hs : s.toD with
      | none => simp only [hs] at e; cases e
      | some d =>
        simp only [hs] at e
        cases hq : seqOf d with
        | none => simp only [hq] at e; cases e
        | some ds =>
          simp only [hq] at e
          cases e
          obtain ⟨a1, dx⟩ := ok.toD hs
          cases dx with
          | @lst ad xs ds' h1 h2 =>
            cases hq
            exact ⟨ad, rfl, .inl ⟨⟨xs, ex_l ex_hd h1⟩, p _ H1 c1 a1 (itd_seq walk_list (fun P' H' ex => ex_l ex_hd (ex_l ex h1)) h2)⟩⟩
          | @tup ad xs ds' h1 h2 =>
            cases hq
            exact ⟨ad, rfl, .inr ⟨⟨xs, ex_t ex_hd h1⟩, p _ H1 c1 a1 (itd_seq walk_tup (fun P' H' ex => ex_t ex_hd (ex_t ex h1)) h2)⟩⟩
          | _ => cases hq
/-- range(n), range(a, b): small bounds -/
def rngD (lo : Int) (n : Nat) : List D := (List.range n).map fun (i : Nat) => .int (lo + i)
def gRng1 : List D → Option (List D)
  | [.int j] => if j < 2 ^ 62 then (if -(2 ^ 62) ≤ j then some (rngD 0 j.toNat) else none) else none
  | _ => none
def gRng2 : List D → Option (List D)
  | [.int i, .int j] => if -(2 ^ 62) ≤ i ∧ i < 2 ^ 62 ∧ -(2 ^ 62) ≤ j ∧ j < 2 ^ 62 then some (rngD i (j - i).toNat) else none
  | _ => none
theorem itd_rng {K : PySem.W.Frag} {G : Hp} (lo : Int) (n : Nat) : ItD K G (Itr lo n) (rngD lo n) := by
  refine ⟨fun _ => True, YFn fun i => .int (lo + i), ?_, fun _ _ _ => trivial, fun P' i H' x H'' hi _ ex y => ?_⟩
  · have : (rngD lo n).length = n := by simp [rngD]
    rw [this]
    exact walk_range
  · obtain ⟨rfl, rfl⟩ := y
    have hi' : i < n := by simpa [rngD] using hi
    exact ⟨Ex.refl _, .int (lo + i), by simp [rngD, hi'], .int _⟩
theorem pdi_range1 {a : Expr} {p pos : Pos} (hg : Gl X "range") (hm : X.mg "range" = none) (ha : PDA X E [a] fs) (hs : starEach [a] X.env = [(false, eval a X.env)] := by rfl) : PDI X E tg (.Call (.Name "range" p) [a] [] pos) (iCB gRng1 fs) := PI.imp (pi_range1 hg hm ha hs) fun σ H R h => by
  refine tA_mono (fun vs H1 h => ?_) (icb_go h)
  obtain ⟨G, ds, rs, ex, k, hz, p⟩ := h
  unfold gRng1 at hz
  split at hz
  · rename_i j
    split at hz
    · split at hz
      · rename_i h1 h2
        cases hz
        cases k with
        | cons k1 k2 =>
          cases k1
          cases k2
          exact ⟨j, rfl, h2, h1, p _ (itd_rng 0 j.toNat)⟩
      · cases hz
    · cases hz
  · cases hz
theorem pdi_range2 {a b : Expr} {p pos : Pos} (hg : Gl X "range") (hm : X.mg "range" = none) (ha : PDA X E [a, b] fs) (hs : starEach [a, b] X.env = [(false, eval a X.env), (false, eval b X.env)] := by rfl) (hs2 : starEach [b] X.env = [(false, eval b X.env)] := by rfl) : PDI X E tg (.Call (.Name "range" p) [a, b] [] pos) (iCB gRng2 fs) := PI.imp (pi_range2 hg hm ha hs hs2) fun σ H R h => by
  refine tA_mono (fun vs H1 h => ?_) (icb_go h)
  obtain ⟨G, ds, rs, ex, k, hz, p⟩ := h
  unfold gRng2 at hz
  split at hz
  · rename_i i j
    split at hz
    · rename_i hc
      cases hz
      cases k with
      | cons k1 k2 =>
        cases k1
        cases k2 with
        | cons k2 k3 =>
          cases k2
          cases k3
          exact ⟨i, j, rfl, hc, p _ (itd_rng i _)⟩
    · cases hz
  · cases hz
/-- zip of two lists, of two tuples -/
def zipD (xs ys : List D) : List D := (xs.zip ys).map fun p => .tuple [p.1, p.2]
def gZip : List D → Option (List D)
  | [.list xs, .list ys] => some (zipD xs ys)
  | [.tuple xs, .tuple ys] => some (zipD xs ys)
  | _ => none
/-- enumerate of a list -/
def enumD (xs : List D) : List D := zipD (rngD 0 xs.length) xs
def gEnum : List D → Option (List D)
  | [.list xs] => some (enumD xs)
  | _ => none
theorem zipD_len (xs ys : List D) : (zipD xs ys).length = min xs.length ys.length := by simp [zipD]
theorem zipD_get : ∀ {xs ys : List D} {i : Nat} {d e : D}, xs[i]? = some d → ys[i]? = some e → (zipD xs ys)[i]? = some (.tuple [d, e])
  | [], _, _, _, _, h, _ => by simp at h
  | _ :: _, [], _, _, _, _, h => by simp at h
  | x :: xs, y :: ys, 0, d, e, h1, h2 => by
    simp at h1 h2
    subst h1 h2
    rfl
  | x :: xs, y :: ys, i + 1, d, e, h1, h2 => by
    have := zipD_get (xs := xs) (ys := ys) (i := i) (by simpa using h1) (by simpa using h2)
    simpa [zipD] using this
theorem zip_itd {K : PySem.W.Frag} {G : Hp} {J : It} {vs ws : List V} {xs ys : List D} {Gp : Hp → Prop} (w : Walk J (min vs.length ws.length) Gp (YPair (fun i => vs[i]?) (fun i => ws[i]?))) (hG : ∀ P' H', Ex G (hd P' H') → Gp H') (h1 : DpAll K G vs xs) (h2 : DpAll K G ws ys) : ItD K G J (zipD xs ys) := by
  refine itd_pair (by rw [zipD_len, dps_len h1, dps_len h2]) w hG fun i x y e1 e2 => ?_
  obtain ⟨d, e3, k1⟩ := dps_get h1 e1
  obtain ⟨e, e4, k2⟩ := dps_get h2 e2
  refine ⟨d, e, ?_, k1, k2⟩
  exact zipD_get e3 e4
theorem walk_zipT {K : PySem.W.Frag} {a b : Addr} {xs ys : List V} {n : Nat} (hn : n = min xs.length ys.length) : Walk (RZ.ItzT K a b) n (fun H => SqT K H a xs ∧ SqT K H b ys) (YPair (fun i => xs[i]?) (fun i => ys[i]?)) := by
  subst hn
  refine ⟨fun i _ hi q => ?_, fun _ q => ⟨xs, ys, q.1, q.2, by omega⟩, fun i H v H' _ q y => ?_⟩
  · have h1 : i < xs.length := by omega
    have h2 : i < ys.length := by omega
    exact ⟨xs, ys, xs[i], ys[i], q.1, q.2, by simp [h1], by simp [h2]⟩
  · obtain ⟨T, x, z, h1, h2, h3, h4, h5⟩ := y
    exact ⟨T, x, z, h1, h2, h3, h4 xs q.1, h5 ys q.2⟩
theorem pdi_zip {a b : Expr} {p pos tpos : Pos} {elts : List Expr} {kk : Nat} (hg : Gl X "zip") (hm : X.mg "zip" = none) (ha : PDA X E [a, b] fs)
    (hs : starEach [a, b] X.env = (false, eval a X.env) :: starEach [b] X.env := by rfl) (hpl : (backTo pos (starEach [b] X.env)).any (·.1) = false := by rfl) : PDI X E (.Tuple elts kk tpos) (.Call (.Name "zip" p) [a, b] [] pos) (iCB gZip fs) := PI.imp (RZ.pi_zipA hg hm ha hs hpl) fun σ H R h => by
  refine tA_mono (fun vs H1 h => ?_) (icb_go h)
  obtain ⟨G, ds, rs, ex, k, hz, p⟩ := h
  unfold gZip at hz
  split at hz
  · cases hz
    cases k with
    | cons k1 k2 =>
      cases k2 with
      | cons k2 k3 =>
        cases k3
        cases k1 with
        | @lst a xs _ q1 r1 =>
          cases k2 with
          | @lst b ys _ q2 r2 =>
            exact ⟨a, b, xs, ys, rfl, .inl ⟨ex_l ex q1, ex_l ex q2, p _ (zip_itd (walk_zip rfl) (fun P' H' e => ⟨ex_l ex_hd (ex_l e q1), ex_l ex_hd (ex_l e q2)⟩) r1 r2)⟩⟩
  · cases hz
    cases k with
    | cons k1 k2 =>
      cases k2 with
      | cons k2 k3 =>
        cases k3
        cases k1 with
        | @tup a xs _ q1 r1 =>
          cases k2 with
          | @tup b ys _ q2 r2 =>
            exact ⟨a, b, xs, ys, rfl, .inr ⟨ex_t ex q1, ex_t ex q2, p _ (zip_itd (walk_zipT rfl) (fun P' H' e => ⟨ex_t ex_hd (ex_t e q1), ex_t ex_hd (ex_t e q2)⟩) r1 r2)⟩⟩
  · cases hz
theorem rngD_get {lo : Int} {n i : Nat} (h : i < n) : (rngD lo n)[i]? = some (.int (lo + i)) := by simp [rngD, h]
theorem rngD_len {lo : Int} {n : Nat} : (rngD lo n).length = n := by simp [rngD]
theorem pdi_enum {a : Expr} {p pos tpos : Pos} {elts : List Expr} {kk : Nat} (hg : Gl X "enumerate") (hm : X.mg "enumerate" = none) (ha : PDA X E [a] fs)
    (hs : starEach [a] X.env = [(false, eval a X.env)] := by rfl) : PDI X E (.Tuple elts kk tpos) (.Call (.Name "enumerate" p) [a] [] pos) (iCB gEnum fs) := PI.imp (pi_enum hg hm ha hs) fun σ H R h => by
  refine tA_mono (fun vs H1 h => ?_) (icb_go h)
  obtain ⟨G, ds, rs, ex, k, hz, p⟩ := h
  unfold gEnum at hz
  split at hz
  · cases hz
    cases k with
    | cons k1 k2 =>
      cases k2
      cases k1 with
      | @lst a vs xs q1 r1 =>
        refine ⟨a, vs, rfl, ex_l ex q1, p _ ?_⟩
        have hl := dps_len r1
        refine itd_pair (n := vs.length) (by rw [enumD, zipD_len, rngD_len, Nat.min_self, hl]) walk_enum (fun P' H' e => ex_l ex_hd (ex_l e q1)) fun i x y e1 e2 => ?_
        cases e1
        obtain ⟨e, e4, k2⟩ := dps_get r1 e2
        obtain ⟨hi, _⟩ := List.getElem?_eq_some_iff.mp e4
        refine ⟨.int (i : Nat), e, ?_, .int _, k2⟩
        unfold enumD
        exact zipD_get (by rw [rngD_get hi]; simp) e4
  · cases hz
end

/-! ### for -/
def loopS (T : TgM) (fb : SM) : List D → SM
  | [], ρ => some (.nx ρ)
  | d :: ds, ρ => match T d ρ with
    | none => none
    | some ρ1 => match fb ρ1 with
      | some (.nx ρ2) => loopS T fb ds ρ2
      | some (.ct ρ2) => loopS T fb ds ρ2
      | some (.bk ρ2) => some (.nx ρ2)
      | r => r
def forS (fi : IM) (T : TgM) (fb : SM) : SM := fun ρ => match fi ρ with
  | some (.inl ds, ρ1) => loopS T fb ds ρ1
  | some (.inr (c, p), ρ1) => some (.ex c p ρ1)
  | none => none
theorem ChgS.ex {np : Nat} {P : Addr → Prop} {o o' : Ow} {H H' : Hp} (c : ChgS np o o' H H') : Ex (hd (hid P o) H) (hd (hid P o') H') := fun a u h => by
  obtain ⟨n, h⟩ := hd_some.mp h
  refine hd_some.mpr ⟨fun z => ?_, c.keep a u h fun z => n (.inr z)⟩
  rcases z with z | z
  · exact n (.inl z)
  · rcases c.new a z with z | z
    · exact n (.inr z)
    · rw [h] at z; cases z
section
variable {X : Cx} {E : XK} {np : Nat} {tg it : Expr} {body : List Stmt} {fi : IM} {T : TgM} {sl : List Nat} {fb : SM} {pos : Pos}
theorem pds_for (hp : PassesOwn (model X.prog X.w) X.A X.env X.xe) (hc : X.calm = true) (hi : PDI X E tg it fi) (hg : PDG X np tg T sl) (hb : PDB X E np body fb)
    (hs : ∀ x, foldedSetIterable it X.env x = pure x := by intro _; rfl) : PDS X E np (.For tg it body [] pos) (forS fi T fb) := PS.imp (ps_for hp hc hi hg hb hs) fun D σ H h => by
  obtain ⟨P, o, ρ, fl, a, e, p⟩ := h
  unfold forS at e
  cases hf : fi ρ with
  | none => rw [hf] at e; cases e
  | some r1 =>
    obtain ⟨r, ρ1⟩ := r1
    rw [hf] at e
    refine ⟨P, o, ρ, _, _, a, hf, ?_⟩
    cases r with
    | inr x =>
      have e' : fl = .ex x.1 x.2 ρ1 := by cases e; rfl
      exact p.exp e'
    | inl ds =>
      intro J H1 c1 a1 ij
      obtain ⟨Gp, Y, w, hG, hY⟩ := ij
      have e : loopS T fb ds ρ1 = some fl := e
      refine for_it w (fun i σ' H' => ∃ o' ρ', ChgS np o o' H H' ∧ Ex (hd (hid P o) H1) (hd (hid P o') H') ∧ At X.K P o' ρ' σ' H' ∧ loopS T fb (ds.drop i) ρ' = some fl)
        ⟨o, ρ1, .of c1, Ex.refl _, a1, by simpa using e⟩ (fun i σ' H' _ ⟨o', ρ', _, ex, _⟩ => hG _ _ ex) (fun i x σ' H' H'' hi' hp' y => ?_) (fun σ' H' ⟨o', ρ', c', _, a', e'⟩ => ?_)
      · obtain ⟨o', ρ', c', ex, a', e'⟩ := hp'
        obtain ⟨ex2, d, hd1, hd2⟩ := hY (hid P o') i H' x H'' hi' (fun a q => a'.domH q) ex y
        have hdrop : ds.drop i = d :: ds.drop (i + 1) := by
          obtain ⟨h1, h2⟩ := List.getElem?_eq_some_iff.mp hd1
          rw [List.drop_eq_getElem_cons h1, h2]
        rw [hdrop] at e'
        unfold loopS at e'
        cases hT : T d ρ' with
        | none => simp only [hT] at e'; cases e'
        | some ρ2 =>
          simp only [hT] at e'
          refine ⟨P, o', ρ', d, ρ2, a'.ext ex2, hd2, hT, fun o2 σ2 t2 a2 => ?_⟩
          have c2 : ChgS np o o2 H H'' := c'.trans ⟨fun a u h _ => ex2 a u h, fun a u h => ⟨u, ex2 a u h⟩, fun a z => .inl (t2.sub a z), t2.par⟩
          have ex3 : Ex (hd (hid P o) H1) (hd (hid P o2) H'') := ex.trans ((ex_hd_hd ex2).trans (ex_hd_le fun a z => z.elim .inl fun z => .inr (t2.sub a z)))
          have go : ∀ ρ3, loopS T fb (ds.drop (i + 1)) ρ3 = some fl → ∀ o3 σ3 H3, ChgS np o2 o3 H'' H3 → At X.K P o3 ρ3 σ3 H3 → ∃ o' ρ', ChgS np o o' H H3 ∧ Ex (hd (hid P o) H1) (hd (hid P o') H3) ∧ At X.K P o' ρ' σ3 H3 ∧ loopS T fb (ds.drop (i + 1)) ρ' = some fl :=
            fun ρ3 e3 o3 σ3 H3 c3 a3 => ⟨o3, ρ3, c2.trans c3, ex3.trans c3.ex, a3, e3⟩
          cases hb' : fb ρ2 with
          | none => simp only [hb'] at e'; cases e'
          | some r =>
            simp only [hb'] at e'
            refine ⟨P, o2, ρ2, r, a2, hb', ?_⟩
            cases r with
            | nx ρ3 => exact go ρ3 e'
            | ct ρ3 => exact go ρ3 e'
            | bk ρ3 => cases e'; exact p.later c2
            | rt s ρ3 => cases e'; exact p.later c2
            | ex n pl ρ3 => cases e'; exact p.later c2
      · rw [List.drop_length] at e'
        cases e'
        exact p o' σ' H' c' a'
end
end DL

namespace DL
open PySem PySem.Spec L2

/-! ### a comprehension's own names -/
def wipeE (ρ : Env) : List Nat → Env
  | [] => ρ
  | v :: vs => (wipeE ρ vs).set v none
def restE (ρ1 ρ2 : Env) : List Nat → Env
  | [] => ρ2
  | v :: vs => match ρ1[v]? with
    | some s => (restE ρ1 ρ2 vs).set v s
    | none => restE ρ1 ρ2 vs
def noOwn (ρ : Env) (vs : List Nat) : Bool := vs.all fun i => match ρ[i]? with
  | some (some s) => !s.isOwn
  | _ => true
theorem wipeE_len (ρ : Env) : ∀ vs : List Nat, (wipeE ρ vs).length = ρ.length
  | [] => rfl
  | v :: vs => by unfold wipeE; rw [List.length_set, wipeE_len ρ vs]
theorem wipeE_some {ρ : Env} {i : Nat} {x : S} : ∀ {vs : List Nat}, (wipeE ρ vs)[i]? = some (some x) → ρ[i]? = some (some x) ∧ i ∉ vs
  | [], h => ⟨h, by simp⟩
  | v :: vs, h => by
    unfold wipeE at h
    by_cases hi : v = i
    · subst hi
      by_cases hv : v < (wipeE ρ vs).length
      · rw [List.getElem?_set_self hv] at h; cases h
      · rw [List.getElem?_eq_none (by simpa using hv)] at h; cases h
    · rw [List.getElem?_set_ne hi] at h
      obtain ⟨h1, h2⟩ := wipeE_some h
      exact ⟨h1, by simp only [List.mem_cons, not_or]; exact ⟨fun e => hi e.symm, h2⟩⟩
theorem wipeE_out {ρ : Env} {i : Nat} : ∀ {vs : List Nat}, i ∉ vs → (wipeE ρ vs)[i]? = ρ[i]?
  | [], _ => rfl
  | v :: vs, h => by
    have h1 : i ≠ v := fun e => h (by simp [e])
    have h2 : i ∉ vs := fun e => h (by simp [e])
    unfold wipeE
    rw [List.getElem?_set_ne (Ne.symm h1)]
    exact wipeE_out h2
theorem restE_len (ρ1 ρ2 : Env) : ∀ vs : List Nat, (restE ρ1 ρ2 vs).length = ρ2.length
  | [] => rfl
  | v :: vs => by
    unfold restE
    split
    · rw [List.length_set, restE_len ρ1 ρ2 vs]
    · exact restE_len ρ1 ρ2 vs
theorem restE_out {ρ1 ρ2 : Env} {i : Nat} : ∀ {vs : List Nat}, i ∉ vs → (restE ρ1 ρ2 vs)[i]? = ρ2[i]?
  | [], _ => rfl
  | v :: vs, h => by
    have h1 : i ≠ v := fun e => h (by simp [e])
    have h2 : i ∉ vs := fun e => h (by simp [e])
    unfold restE
    split
    · rw [List.getElem?_set_ne (Ne.symm h1)]
      exact restE_out h2
    · exact restE_out h2
theorem restE_in {ρ1 ρ2 : Env} {i : Nat} (hl : ρ1.length = ρ2.length) : ∀ {vs : List Nat}, i ∈ vs → (restE ρ1 ρ2 vs)[i]? = ρ1[i]?
  | [], h => by simp at h
  | v :: vs, h => by
    unfold restE
    by_cases e : i = v
    · subst e
      split
      · rename_i s hs
        have hv : i < ρ1.length := (List.getElem?_eq_some_iff.mp hs).1
        rw [List.getElem?_set_self (by rw [restE_len, ← hl]; exact hv), hs]
      · rename_i hs
        rw [hs]
        have hv : ρ1.length ≤ i := List.getElem?_eq_none_iff.mp hs
        exact List.getElem?_eq_none (by rw [restE_len, ← hl]; exact hv)
    · have h' : i ∈ vs := by simpa [e] using h
      split
      · rw [List.getElem?_set_ne (Ne.symm e)]
        exact restE_in hl h'
      · exact restE_in hl h'
theorem wipe_in {σ : St} {i : Nat} : ∀ {vs : List Nat}, i ∈ vs → i < σ.length → (wipe σ vs)[i]? = some none
  | [], h, _ => by simp at h
  | v :: vs, h, hl => by
    unfold wipe
    by_cases e : i = v
    · subst e
      exact List.getElem?_set_self (by rw [wipe_length]; exact hl)
    · have h' : i ∈ vs := by simpa [e] using h
      rw [List.getElem?_set_ne (Ne.symm e)]
      exact wipe_in h' hl
theorem wipe_eq {σ σ' : St} {vs : List Nat} (hl : σ'.length = σ.length) (h : ∀ (j : Nat), j ∉ vs → σ'[j]? = σ[j]?) : wipe σ' vs = wipe σ vs := by
  apply List.ext_getElem?
  intro j
  by_cases hj : j ∈ vs
  · by_cases hlt : j < σ.length
    · rw [wipe_in hj hlt, wipe_in hj (by rw [hl]; exact hlt)]
    · rw [List.getElem?_eq_none (by rw [wipe_length, hl]; omega), List.getElem?_eq_none (by rw [wipe_length]; omega)]
  · rw [wipe_out hj, wipe_out hj]
    exact h j hj
section
variable {K : PySem.W.Frag} {P : Addr → Prop} {o : Ow} {ρ ρ2 : Env} {σ σ2 : St} {H H' : Hp} {vs : List Nat}
/-- another view of the same objects -/
theorem At.view (h : At K P o ρ σ H) (hl : ρ2.length = σ2.length) (hv : ∀ (i : Nat) s, ρ2[i]? = some (some s) → ρ[i]? = some (some s) ∧ σ2[i]? = σ[i]?) (ho : ∀ (i : Nat) s, ρ[i]? = some (some s) → s.isOwn = true → ρ2[i]? = some (some s)) : At K P o ρ2 σ2 H := by
  refine ⟨hl, h.dom, h.inj, h.dis, fun i a q => ?_, fun i d q => ?_, fun i s q hs => h.ow i s (hv i s q).1 hs⟩
  · obtain ⟨s, h1, h2, h3⟩ := h.has i a q
    have h4 := ho i s h1 h3.isOwn
    exact ⟨s, h4, by rw [(hv i s h4).2]; exact h2, h3⟩
  · obtain ⟨h1, h2⟩ := hv i _ q
    rw [h2]
    exact h.dat i d h1
theorem noOwn_at (h : noOwn ρ vs = true) {i : Nat} {s : S} (hi : i ∈ vs) (e : ρ[i]? = some (some s)) : s.isOwn = false := by
  have := List.all_eq_true.mp h i hi
  rw [e] at this
  simpa using this
theorem At.wiped (h : At K P o ρ σ H) (hn : noOwn ρ vs = true) : At K P o (wipeE ρ vs) (wipe σ vs) H := by
  refine h.view (by rw [wipeE_len, wipe_length]; exact h.len) (fun i s q => ?_) fun i s q hs => ?_
  · obtain ⟨h1, h2⟩ := wipeE_some q
    exact ⟨h1, wipe_out h2⟩
  · rw [wipeE_out fun z => ?_]
    · exact q
    · rw [noOwn_at hn z q] at hs
      cases hs
/-- behind the block: its own names as they were ahead of it -/
theorem At.restored (h1 : At K P o ρ σ H) (h2 : At K P o ρ2 (wipe σ vs) H') (hn : noOwn ρ vs = true) (hn2 : noOwn ρ2 vs = true) (ex : Ex (hd (hid P o) H) (hd (hid P o) H')) : At K P o (restE ρ ρ2 vs) σ H' := by
  have hl : ρ.length = ρ2.length := by rw [h1.len, h2.len, wipe_length]
  have case : ∀ (i : Nat) s, (restE ρ ρ2 vs)[i]? = some (some s) → (i ∈ vs ∧ ρ[i]? = some (some s)) ∨ (i ∉ vs ∧ ρ2[i]? = some (some s)) := fun i s q => by
    by_cases hi : i ∈ vs
    · rw [restE_in hl hi] at q; exact .inl ⟨hi, q⟩
    · rw [restE_out hi] at q; exact .inr ⟨hi, q⟩
  refine ⟨by rw [restE_len, ← hl]; exact h1.len, h2.dom, h1.inj, h1.dis, fun i a q => ?_, fun i d q => ?_, fun i s q hs => ?_⟩
  · obtain ⟨s, k1, k2, k3⟩ := h2.has i a q
    have hi : i ∉ vs := fun z => by
      have := noOwn_at hn2 z k1
      rw [k3.isOwn] at this
      cases this
    rw [wipe_out hi] at k2
    exact ⟨s, by rw [restE_out hi]; exact k1, k2, k3⟩
  · rcases case i _ q with ⟨hi, q⟩ | ⟨hi, q⟩
    · obtain ⟨v, k1, k2⟩ := h1.dat i d q
      exact ⟨v, k1, dp_mono ex k2⟩
    · obtain ⟨v, k1, k2⟩ := h2.dat i d q
      rw [wipe_out hi] at k1
      exact ⟨v, k1, k2⟩
  · rcases case i _ q with ⟨hi, q⟩ | ⟨hi, q⟩
    · exact h1.ow i s q hs
    · exact h2.ow i s q hs
/-- a hidden object that no slot holds is written -/
theorem At.updHid (h : At K P o ρ σ H) {p : Addr} {u : HO} (hp : P p) (hn : ¬ Own o p) : At K P o ρ σ (upd H p u) := by
  have e : hd (hid P o) (upd H p u) = hd (hid P o) H := by
    funext a
    unfold hd
    split
    · rfl
    · rename_i hne
      exact upd_ne fun z => hne (by rw [z]; exact .inl hp)
  refine ⟨h.len, fun a q => ?_, h.inj, h.dis, fun i a q => ?_, fun i d q => ?_, h.ow⟩
  · by_cases ha : a = p
    · subst ha; exact ⟨u, upd_same⟩
    · obtain ⟨w, k⟩ := h.dom a q
      exact ⟨w, by rw [upd_ne ha]; exact k⟩
  · obtain ⟨s, h1, h2, h3⟩ := h.has i a q
    rw [e]
    exact ⟨s, h1, h2, h3.imp (Ex.refl _) fun w z => by rw [upd_ne fun q' => hn (by rw [← q']; exact ⟨i, q⟩)]; exact z⟩
  · rw [e]
    exact h.dat i d q
end

/-! ### comprehensions -/
/-- a clause's tests -/
def mYes : EM := retD (.bool true)
abbrev PDTs (X : Cx) (E : XK) (ifs : List Expr) (f : EM) : Prop := PTs X ifs (tT X.K X.mg E f)
theorem PTs.imp {X : Cx} {ifs : List Expr} {t t' : TT} (h : PTs X ifs t) (i : ∀ σ H Q, t' σ H Q → t σ H Q) : PTs X ifs t' := ⟨fun pins s σ H Q I q => h.run pins s σ H Q I (i σ H Q q)⟩
theorem pdts_nil {X : Cx} {E : XK} : PDTs X E [] mYes := PTs.imp pts_nil fun σ H Q h => by
  obtain ⟨P, o, ρ, res, a, e, p⟩ := h
  cases e
  exact p H .refl a
theorem pdts_one {X : Cx} {E : XK} {c : Expr} {f : EM} (h : PDT X E c f) : PDTs X E [c] f := pts_one h
def loopC (T : TgM) (ft fe : EM) (vs : List Nat) : List D → List D → Env → Option (List D × Env)
  | acc, [], ρ => if noOwn ρ vs = true then some (acc, ρ) else none
  | acc, d :: ds, ρ => match T d ρ with
    | none => none
    | some ρ1 => match ft ρ1 with
      | some (.ok (.dat (.bool true)), ρ2) => (match fe ρ2 with
        | some (.ok s, ρ3) => (match s.toD with
          | some x => if acc.length < big ∧ noOwn ρ3 vs = true then loopC T ft fe vs (acc ++ [x]) ds (wipeE ρ3 vs) else none
          | none => none)
        | _ => none)
      | some (.ok (.dat (.bool false)), ρ2) => if noOwn ρ2 vs = true then loopC T ft fe vs acc ds (wipeE ρ2 vs) else none
      | _ => none
def compE (ow : Bool) (fi : IM) (T : TgM) (ft fe : EM) (vs : List Nat) : EM := fun ρ => match fi ρ with
  | some (.inl ds, ρ1) => if noOwn ρ1 vs = true then (match loopC T ft fe vs [] ds (wipeE ρ1 vs) with
    | some (xs, ρ2) => some (.ok (if ow = true then .own xs else .dat (.list xs)), restE ρ1 ρ2 vs)
    | none => none) else none
  | some (.inr (c, p), ρ1) => some (.ex c p, ρ1)
  | none => none
theorem big_lt {n : Nat} (h : n < big) : n < sizeLine := Nat.lt_of_lt_of_le h (big_line (Nat.le_refl _))
/-- an object held by nobody is given out, as an own list or as data -/
theorem okP_list {K : PySem.W.Frag} {P : Addr → Prop} {o : Ow} {ρ : Env} {σ : St} {H0 H : Hp} {p : Addr} {ws : List V} {xs : List D} {ow : Bool} (hp : H0 p = none) (hn : ¬ hid P o p) (a : At K (plusA P p) o ρ σ H) (e : H p = some (.lst ws)) (k : DpAll K (hd (hid (plusA P p) o) H) ws xs) :
    OkP K P o ρ σ H0 H (.ref p) (if ow = true then .own xs else .dat (.list xs)) := by
  have q : OkP K P o ρ σ H0 H (.ref p) (.own xs) := ⟨p, rfl, hp, hn, a, ws, e, k⟩
  cases ow with
  | true => exact q
  | false => exact q.toD rfl
/-- the turns of a comprehension's loop -/
theorem lc_loop {K : PySem.W.Frag} {mg : Str → Option Value} {E : XK} {np : Nat} {T : TgM} {sl vs : List Nat} {ft fe : EM} (hsl : ∀ i ∈ sl, i ∈ vs) {J : It} {P : Addr → Prop} {o : Ow} {ρ1 : Env} {σ : St} {H1 : Hp} {p : Addr} {ds : List D} {fin : List D × Env} {Q : Hp → Prop}
    (a1 : At K P o ρ1 σ H1) (hn : noOwn ρ1 vs = true) (ij : ItD K (hd (hid P o) H1) J ds) (hp : H1 p = none) (hr : loopC T ft fe vs [] ds (wipeE ρ1 vs) = some fin)
    (hq : ∀ H' ws, Chg o H1 H' → H' p = some (.lst ws) → At K (plusA P p) o fin.2 (wipe σ vs) H' → noOwn fin.2 vs = true → DpAll K (hd (hid (plusA P p) o) H') ws fin.1 → Q H') :
    ∃ W : Nat → Nat → Hp → Prop, (∃ m, W 0 m (upd H1 p (.lst []))) ∧ ∀ i m H, W i m H →
      (J.stop i H ∧ Q H) ∨ (J.go i H ∧ ∃ Nx : Hp → Prop, (∀ H', Nx H' → ∃ m', m' < m ∧ W (i + 1) m' H') ∧ ∀ x H', J.yld i H x H' → tG K np T sl x (wipe σ vs) H' fun σ2 H2 => wipe σ2 vs = wipe σ vs ∧ tT K mg E ft σ2 H2 fun b H3 =>
        if b = true then tE K mg E fe σ2 H3 fun y H4 => ∃ acc, H4 p = some (.lst acc) ∧ acc.length < sizeLine ∧ Nx (upd H4 p (.lst (acc ++ [y]))) else Nx H3) := by
  obtain ⟨Gp, Y, w, hG, hY⟩ := ij
  have nhp : ¬ hid P o p := fun z => by
    obtain ⟨u, k⟩ := a1.domH z
    rw [hp] at k
    cases k
  have nop : ¬ Own o p := fun z => nhp (.inr z)
  have hwl : ∀ σ2 : St, σ2.length = (wipe σ vs).length → (∀ (j : Nat), j ∉ sl → σ2[j]? = (wipe σ vs)[j]?) → wipe σ2 vs = wipe σ vs := fun σ2 hl ho => wipe_eq (by rw [hl, wipe_length]) fun j hj => by
    rw [ho j fun z => hj (hsl j z), wipe_out hj]
  -- the invariant
  refine lc_it w (fun i H => ∃ acc ws ρ, Chg o H1 H ∧ Ex (hd (hid P o) H1) (hd (hid (plusA P p) o) H) ∧ H p = some (.lst ws) ∧ DpAll K (hd (hid (plusA P p) o) H) ws acc ∧ At K (plusA P p) o ρ (wipe σ vs) H ∧ loopC T ft fe vs acc (ds.drop i) ρ = some fin)
    ⟨[], [], wipeE ρ1 vs, .of (Ex.new hp), ?_, upd_same, .nil, (a1.plus hp).wiped hn, by simpa using hr⟩ (fun i H _ ⟨acc, ws, ρ, _, ex, _⟩ => hG _ _ ex) (fun i x H H' hi h y => ?_) (fun H ⟨acc, ws, ρ, c, ex, e, k, a, hl⟩ => ?_)
  · intro a u q
    obtain ⟨n, q⟩ := hd_some.mp q
    have hne : a ≠ p := ne_of_none q hp
    refine hd_some.mpr ⟨fun z => ?_, by rw [upd_ne hne]; exact q⟩
    rcases z with (z | z) | z
    · exact n (.inl z)
    · exact hne z
    · exact n (.inr z)
  · obtain ⟨acc, ws, ρ, c, ex, e, k, a, hl⟩ := h
    obtain ⟨ex2, d, hd1, hd2⟩ := hY (hid (plusA P p) o) i H x H' hi (fun b q => a.domH q) ex y
    have hdrop : ds.drop i = d :: ds.drop (i + 1) := by
      obtain ⟨h1, h2⟩ := List.getElem?_eq_some_iff.mp hd1
      rw [List.drop_eq_getElem_cons h1, h2]
    rw [hdrop] at hl
    unfold loopC at hl
    cases hT : T d ρ with
    | none => simp only [hT] at hl; cases hl
    | some ρ2 =>
      simp only [hT] at hl
      refine ⟨plusA P p, o, ρ, d, ρ2, a.ext ex2, hd2, hT, fun o2 σ2 t2 a2 => ?_⟩
      have hw := hwl σ2 t2.len t2.off
      refine ⟨hw, ?_⟩
      -- the target has cleared no own slot: o2 holds what o holds
      have nov : ∀ j b, o j = some b → j ∉ vs := fun j b q z => by
        obtain ⟨s, h1, h2, h3⟩ := a.has j b q
        exact (wipe_some h2).2 z
      have oo : o2 = o := by
        funext j
        by_cases hj : j ∈ sl
        · have h1 : o j = none := by
            cases q : o j with
            | none => rfl
            | some b => exact (nov j b q (hsl j hj)).elim
          rw [h1]
          cases q : o2 j with
          | none => rfl
          | some b =>
            obtain ⟨i', hi'⟩ := t2.sub b ⟨j, q⟩
            have hns : i' ∉ sl := fun z => nov i' b hi' (hsl i' z)
            have h2 : o2 i' = some b := (t2.oth i' hns).trans hi'
            have e := a2.inj _ _ _ h2 q
            subst e
            exact (hns hj).elim
        · exact t2.oth j hj
      subst oo
      have cc : Chg o2 H1 H' := c.trans (.of ex2)
      have ep : H' p = some (.lst ws) := ex2 _ _ e
      have exx : Ex (hd (hid P o2) H1) (hd (hid (plusA P p) o2) H') := ex.trans (ex_hd_hd ex2)
      have kk : DpAll K (hd (hid (plusA P p) o2) H') ws acc := dps_mono (ex_hd_hd ex2) k
      -- a turn's end: the list as it is, the block's names wiped
      have fin1 : ∀ {acc' : List D} {ws' : List V} {ρ3 : Env} {H3 : Hp}, Chg o2 H1 H3 → Ex (hd (hid P o2) H1) (hd (hid (plusA P p) o2) H3) → H3 p = some (.lst ws') → DpAll K (hd (hid (plusA P p) o2) H3) ws' acc' → At K (plusA P p) o2 ρ3 σ2 H3 → noOwn ρ3 vs = true →
          loopC T ft fe vs acc' (ds.drop (i + 1)) (wipeE ρ3 vs) = some fin → ∃ acc ws ρ, Chg o2 H1 H3 ∧ Ex (hd (hid P o2) H1) (hd (hid (plusA P p) o2) H3) ∧ H3 p = some (.lst ws) ∧ DpAll K (hd (hid (plusA P p) o2) H3) ws acc ∧ At K (plusA P p) o2 ρ (wipe σ vs) H3 ∧ loopC T ft fe vs acc (ds.drop (i + 1)) ρ = some fin :=
        fun {acc' ws' ρ3 H3} q1 q2 q3 q4 q5 q6 q7 => by
          have q8 := q5.wiped q6
          have hw' : wipe σ2 vs = wipe σ vs := by
            rw [hwl σ2 t2.len t2.off]
          rw [hw'] at q8
          exact ⟨acc', ws', wipeE ρ3 vs, q1, q2, q3, q4, q8, q7⟩
      cases hft : ft ρ2 with
      | none => simp only [hft] at hl; cases hl
      | some r =>
        obtain ⟨r, ρ3⟩ := r
        simp only [hft] at hl
        refine ⟨plusA P p, o2, ρ2, _, a2, hft, ?_⟩
        cases r with
        | ex n pl => cases hl
        | ok s =>
          cases s with
          | dat d' =>
            cases d' with
            | bool b =>
              intro H3 c3 a3
              have ep3 : H3 p = some (.lst ws) := c3.keep _ _ ep nop
              cases b with
              | false =>
                simp only at hl
                split at hl
                · rename_i hno
                  exact fin1 (cc.trans c3) (exx.trans c3.ex) ep3 (dps_mono c3.ex kk) a3 hno hl
                · cases hl
              | true =>
                simp only at hl
                cases hfe : fe ρ3 with
                | none => simp only [hfe] at hl; cases hl
                | some r =>
                  obtain ⟨r, ρ4⟩ := r
                  simp only [hfe] at hl
                  refine ⟨plusA P p, o2, ρ3, _, a3, hfe, ?_⟩
                  cases r with
                  | ex n pl => cases hl
                  | ok s =>
                    intro yv H4 c4 ok4
                    cases hs : s.toD with
                    | none => simp only [hs] at hl; cases hl
                    | some xd =>
                      simp only [hs] at hl
                      split at hl
                      · rename_i hb
                        obtain ⟨a4, k4⟩ := ok4.toD hs
                        have ep4 : H4 p = some (.lst ws) := c4.keep _ _ ep3 nop
                        have kw := dps_mono c4.ex (dps_mono c3.ex kk)
                        refine ⟨ws, ep4, by rw [dps_len kw]; exact big_lt hb.1, ?_⟩
                        have eh : hd (hid (plusA P p) o2) (upd H4 p (.lst (ws ++ [yv]))) = hd (hid (plusA P p) o2) H4 := by
                          funext z
                          unfold hd
                          split
                          · rfl
                          · rename_i hne
                            exact upd_ne fun q => hne (by rw [q]; exact .inl (.inr rfl))
                        have c5 : Chg o2 H1 (upd H4 p (.lst (ws ++ [yv]))) := by
                          have c' := (cc.trans c3).trans c4
                          refine ⟨fun z u hz hno => ?_, fun z u hz => ?_⟩
                          · rw [upd_ne (ne_of_none hz hp)]
                            exact c'.keep z u hz hno
                          · obtain ⟨u', h'⟩ := c'.dom z u hz
                            exact ⟨u', by rw [upd_ne (ne_of_none hz hp)]; exact h'⟩
                        refine fin1 c5 ?_ upd_same ?_ (a4.updHid (.inr rfl) nop) hb.2 hl
                        · rw [eh]; exact exx.trans (c3.ex.trans c4.ex)
                        · rw [eh]; exact dps_append kw (.cons k4 .nil)
                      · cases hl
            | _ => cases hl
          | _ => cases hl
  · rw [List.drop_length] at hl
    unfold loopC at hl
    split at hl
    · rename_i hno
      cases hl
      exact hq H ws c e a hno k
    · cases hl
section
variable {X : Cx} {E : XK} {np : Nat} {elt tg it : Expr} {ifs : List Expr} {scope : Scope} {own : List (Str × Nat)} {fi : IM} {T : TgM} {sl : List Nat} {ft fe : EM} {ow : Bool} {pos : Pos}
theorem comp_imp {K : PySem.W.Frag} {mg : Str → Option Value} {E E2 : XK} {vs : List Nat} (hsl : ∀ i ∈ sl, i ∈ vs) {σ : St} {H : Hp} {Q : VK} (h : tE K mg E (compE ow fi T ft fe vs) σ H Q) : tLc (tI K mg E fi) (tG K np T sl) (tT K mg E2 ft) (tE K mg E2 fe) vs σ H Q := by
  obtain ⟨P, o, ρ, res, a, e, p⟩ := h
  unfold compE at e
  cases hf : fi ρ with
  | none => rw [hf] at e; cases e
  | some r1 =>
    obtain ⟨r, ρ1⟩ := r1
    rw [hf] at e
    refine ⟨P, o, ρ, _, _, a, hf, ?_⟩
    cases r with
    | inr x => cases e; exact p
    | inl ds =>
      intro J H1 c1 a1 ij q hq
      simp only at e
      split at e
      · rename_i hn
        cases hl : loopC T ft fe vs [] ds (wipeE ρ1 vs) with
        | none => simp only [hl] at e; cases e
        | some fin =>
          simp only [hl] at e
          cases e
          have nhp : ¬ hid P o q := fun z => by
            obtain ⟨u, k⟩ := a1.domH z
            rw [hq] at k
            cases k
          refine lc_loop (mg := mg) (E := E2) (np := np) hsl a1 hn ij hq hl fun H' ws c e a2 hn2 k => ?_
          have a1' : At K (plusA P q) o ρ1 σ (upd H1 q (.lst [])) := a1.plus hq
          refine p _ H' (c1.trans c) (okP_list (c1.back hq) nhp ?_ e k)
          -- ahead of the loop, with the new list hidden
          have ex : Ex (hd (hid (plusA P q) o) H1) (hd (hid (plusA P q) o) H') := fun b u z => by
            obtain ⟨n, z⟩ := hd_some.mp z
            exact hd_some.mpr ⟨n, c.keep b u z fun w => n (.inr w)⟩
          have ex1 : Ex (hd (hid (plusA P q) o) (upd H1 q (.lst []))) (hd (hid (plusA P q) o) H') := fun b u z => by
            obtain ⟨n, z⟩ := hd_some.mp z
            have hb : b ≠ q := fun w => n (.inl (.inr w))
            rw [upd_ne hb] at z
            exact hd_some.mpr ⟨n, c.keep b u z fun w => n (.inr w)⟩
          exact a1'.restored a2 hn hn2 ex1
      · cases e
theorem pd_comp (hc : X.calm = true) (hN : X.N.Nodup) (hi : PDI X E tg it fi) (ok : BlkOk X.N X.env.scope scope own) (hsl : ∀ i ∈ sl, i ∈ own.map (·.2))
    (hg : ∀ (s : Shared) (H : Hp) (C : Addr) (cl : List (Str × Addr)) (fp : List Addr), PDG (X.blk s H scope (compEnvC scope cl C X.env) fp) np tg T sl)
    (ht : ∀ (s : Shared) (H : Hp) (C : Addr) (cl : List (Str × Addr)) (fp : List Addr), PDTs (X.blk s H scope (compEnvC scope cl C X.env) fp) E0 ifs ft)
    (he : ∀ (s : Shared) (H : Hp) (C : Addr) (cl : List (Str × Addr)) (fp : List Addr), PD (X.blk s H scope (compEnvC scope cl C X.env) fp) E0 elt fe) (hs : ∀ x, foldedSetIterable it X.env x = pure x := by intro _; rfl) :
    PD X E (.ListComp elt [⟨tg, it, ifs, 0⟩] scope pos) (compE ow fi T ft fe (own.map (·.2))) :=
  PE.imp (pe_lc hc hN hi ok hg ht he hs) fun _ _ _ h => comp_imp hsl h
theorem pds_setComp {i : Nat} {y : Str} {py spos : Pos} (hc : X.calm = true) (hN : X.N.Nodup) (hy : X.N[i]? = some y) (hyl : X.env.scope.names.lookup y = some .local)
    (hsw : swapsWith (.ListComp elt [⟨tg, it, ifs, 0⟩] scope pos) (some (.Name y py)) spos.line X.env = pure true) (hi : PDI X E tg it fi) (ok : BlkOk X.N X.env.scope scope own) (hsl : ∀ i ∈ sl, i ∈ own.map (·.2))
    (hg : ∀ (s : Shared) (H : Hp) (C : Addr) (cl : List (Str × Addr)) (fp : List Addr), PDG (X.blk s H scope (compEnvC scope cl C X.env) fp) np tg T sl)
    (ht : ∀ (s : Shared) (H : Hp) (C : Addr) (cl : List (Str × Addr)) (fp : List Addr), PDTs (X.blk s H scope (compEnvC scope cl C X.env) fp) E0 ifs ft)
    (he : ∀ (s : Shared) (H : Hp) (C : Addr) (cl : List (Str × Addr)) (fp : List Addr), PD (X.blk s H scope (compEnvC scope cl C X.env) fp) E0 elt fe) (hs : ∀ x, foldedSetIterable it X.env x = pure x := by intro _; rfl) :
    PDS X E np (.Assign [.Name y py] (.ListComp elt [⟨tg, it, ifs, 0⟩] scope pos) spos) (asgN np i (compE ow fi T ft fe (own.map (·.2)))) :=
  PS.imp (ps_setLc hc hN hy hyl hsw hi ok hg ht he hs) fun _ _ _ h => comp_imp hsl (asgN_go h)
end
end DL

namespace DL
open PySem PySem.Spec L2

/-! ### defs -/
/-- the parameters behind a call: own objects as they are left, the others as they were -/
def restP : Env → Env → Env
  | a :: as, b :: bs => (match a with
    | some s => if s.isOwn = true then b else a
    | none => a) :: restP as bs
  | as, _ => as
theorem restP_len : ∀ (a b : Env), (restP a b).length = a.length
  | [], _ => by simp [restP]
  | _ :: _, [] => by simp [restP]
  | a :: as, b :: bs => by simp [restP, restP_len as bs]
theorem restP_get : ∀ {a b : Env} {i : Nat} {x : Option S}, a.length ≤ b.length → (restP a b)[i]? = some x → (∃ s, a[i]? = some (some s) ∧ s.isOwn = true ∧ b[i]? = some x) ∨ (a[i]? = some x ∧ ∀ s, x = some s → s.isOwn = false)
  | [], b, i, x, _, h => by simp [restP] at h
  | a :: as, [], i, x, hl, _ => by simp at hl
  | a :: as, b :: bs, 0, x, hl, h => by
    cases a with
    | none => simp [restP] at h; subst h; exact .inr ⟨rfl, fun _ e => nomatch e⟩
    | some s =>
      by_cases hs : s.isOwn = true
      · simp [restP, hs] at h; subst h; exact .inl ⟨s, rfl, hs, rfl⟩
      · simp [restP, hs] at h; subst h; exact .inr ⟨rfl, fun t e => by cases e; simpa using hs⟩
  | a :: as, b :: bs, i + 1, x, hl, h => by
    have := restP_get (a := as) (b := bs) (i := i) (x := x) (by simpa using hl) (by simpa [restP] using h)
    simpa using this
theorem restP_own : ∀ {a b : Env} {i : Nat} {s : S}, a.length ≤ b.length → a[i]? = some (some s) → s.isOwn = true → (restP a b)[i]? = b[i]?
  | [], _, _, _, _, h, _ => by simp at h
  | a :: as, [], _, _, hl, _, _ => by simp at hl
  | a :: as, b :: bs, 0, s, hl, h, hs => by simp at h; subst h; simp [restP, hs]
  | a :: as, b :: bs, i + 1, s, hl, h, hs => by
    have := restP_own (a := as) (b := bs) (i := i) (s := s) (by simpa using hl) (by simpa using h) hs
    simpa [restP] using this
def runQ (np loc : Nat) (fb : SM) : EM := fun ρ => if ρ.length = np then (match fb (ρ ++ List.replicate loc none) with
  | some (.rt s ρ') => if np ≤ ρ'.length then some (.ok s, restP ρ ρ') else none
  | some (.nx ρ') => if np ≤ ρ'.length then some (.ok (.dat .none), restP ρ ρ') else none
  | _ => none) else none
def spF (K : PySem.W.Frag) (mg : Str → Option Value) (n : Nat) (F : EM) : Sp := fun vs H Q E => vs.length = n ∧ tE K mg E F (vs.map some) H Q
structure FnD (Pr : Program) (w : World) (K : PySem.W.Frag) (mg : Str → Option Value) (base : Heap) (x : Str) (k : Nat) (ps : List Str) (F : EM) : Prop where
  ex : ∃ f fd, mg x = some (.ref f) ∧ PySem.W.keepIn K (.ref f) = true ∧ Binds K fd ps [] ∧ FnOk Pr w K mg base (L2.CX Pr w) k f fd ps (spF K mg ps.length F)
theorem FnD.mono {Pr : Program} {w : World} {K : PySem.W.Frag} {mg : Str → Option Value} {base : Heap} {x : Str} {j k : Nat} {ps : List Str} {F : EM} (h : FnD Pr w K mg base x j ps F) (l : j ≤ k) : FnD Pr w K mg base x k ps F := by
  obtain ⟨f, fd, h1, h2, h3, h4⟩ := h.ex
  exact ⟨f, fd, h1, h2, h3, h4.mono l⟩
/-- less is told -/
theorem FnD.imp {Pr : Program} {w : World} {K : PySem.W.Frag} {mg : Str → Option Value} {base : Heap} {x : Str} {k : Nat} {ps : List Str} {F G : EM} (h : FnD Pr w K mg base x k ps F) (l : ∀ ρ r, G ρ = some r → F ρ = some r) : FnD Pr w K mg base x k ps G := by
  obtain ⟨f, fd, h1, h2, h3, h4⟩ := h.ex
  refine ⟨f, fd, h1, h2, h3, h4.imp fun vs H Q E q => ⟨q.1, ?_⟩⟩
  obtain ⟨_, P, o, ρ, res, a, e, p⟩ := q
  exact ⟨P, o, ρ, res, a, l _ _ e, p⟩
section
variable {K : PySem.W.Frag} {P P' : Addr → Prop} {o o' : Ow} {ρ ρ' : Env} {σ σ' : St} {H H' : Hp} {np : Nat}
theorem At.slots (h : At K P o ρ σ H) (n : Nat) : At K P o (ρ ++ List.replicate n none) (σ ++ List.replicate n none) H := by
  have low : ∀ (i : Nat) s, (ρ ++ List.replicate n none)[i]? = some (some s) → ρ[i]? = some (some s) := fun i s q => by
    by_cases hi : i < ρ.length
    · rwa [List.getElem?_append_left hi] at q
    · rw [List.getElem?_append_right (by omega), List.getElem?_replicate] at q
      split at q <;> cases q
  refine h.view (by simp [h.len]) (fun i s q => ?_) fun i s q _ => ?_
  · have q' := low i s q
    have hi : i < ρ.length := (List.getElem?_eq_some_iff.mp q').1
    exact ⟨q', List.getElem?_append_left (by rw [← h.len]; exact hi)⟩
  · have hi : i < ρ.length := (List.getElem?_eq_some_iff.mp q).1
    rw [List.getElem?_append_left hi]
    exact q
/-- a def is left -/
theorem At.leave (h0 : At K P o ρ σ H) (h : At K P' o' ρ' σ' H') (c : ChgS np o o' H H') (hn : ρ.length = np) (hl : np ≤ ρ'.length) (hP : ∀ b, P b → P' b) (hP' : ∀ b, P' b → P b ∨ Own o b ∨ H b = none) : At K P' o (restP ρ ρ') σ H' := by
  have lt : ∀ {i a}, o i = some a → i < np := fun {i a} q => by
    obtain ⟨s, h1, _⟩ := h0.has i a q
    rw [← hn]
    exact (List.getElem?_eq_some_iff.mp h1).1
  have sub : ∀ b, Own o b → Own o' b := fun b ⟨i, q⟩ => ⟨i, c.par i b (lt q) q⟩
  have exA : Ex (hd (hid P' o') H') (hd (hid P' o) H') := ex_hd_le fun b z => z.elim .inl fun z => .inr (sub b z)
  have exB : Ex (hd (hid P o) H) (hd (hid P' o) H') := fun b u z => by
    obtain ⟨n, z⟩ := hd_some.mp z
    refine hd_some.mpr ⟨fun w => ?_, c.keep b u z fun w => n (.inr w)⟩
    rcases w with w | w
    · rcases hP' b w with w | w | w
      · exact n (.inl w)
      · exact n (.inr w)
      · rw [z] at w; cases w
    · exact n (.inr w)
  have hll : ρ.length ≤ ρ'.length := by rw [hn]; exact hl
  refine ⟨by rw [restP_len]; exact h0.len, h.dom, h0.inj, fun i a q => h.dis i a (c.par i a (lt q) q), fun i a q => ?_, fun i d q => ?_, fun i s q hs => ?_⟩
  · obtain ⟨s, h1, h2, h3⟩ := h0.has i a q
    obtain ⟨s', k1, k2, k3⟩ := h.has i a (c.par i a (lt q) q)
    exact ⟨s', by rw [restP_own hll h1 h3.isOwn]; exact k1, h2, k3.imp exA fun _ z => z⟩
  · rcases restP_get hll q with ⟨s, h1, h2, h3⟩ | ⟨h1, _⟩
    · obtain ⟨a, ho⟩ := h0.ow i s h1 h2
      obtain ⟨s', k1, _, k3⟩ := h.has i a (c.par i a (lt ho) ho)
      rw [h3] at k1
      cases k1
      exact False.elim k3
    · obtain ⟨v, k1, k2⟩ := h0.dat i d h1
      exact ⟨v, k1, dp_mono exB k2⟩
  · rcases restP_get hll q with ⟨s', h1, h2, h3⟩ | ⟨h1, h2⟩
    · exact h0.ow i s' h1 h2
    · rw [h2 s rfl] at hs
      cases hs
end
/-- a def that lets nothing out -/
theorem fndOk {Pr : Program} {w : World} {K : PySem.W.Frag} {mg : Str → Option Value} {base : Heap} {x : Str} {params : Arguments} {body : List Stmt} {scope : Scope} {f : Addr} {fd : FuncData} {N ps : List Str} {k : Nat} {fb : SM}
    (F : FunD K x x params body scope [] [] f fd) (hm : mg x = some (.ref f)) (hb : Binds K fd ps []) (Sc : FnScope N ps scope)
    (hbody : ∀ (cdv : Value) (A : Around) (outer : List PySem.Env) (s : Shared) (H : Hp) (E : XK), Room k (A.deeper (PyProof.Rows.envOfC x scope s.heap.objs.size f cdv)) → PDB (cxOf (L2.CX Pr w) Pr w K mg base N x scope f cdv A outer s H E).nox E0 ps.length body fb) :
    FnOk Pr w K mg base (L2.CX Pr w) (k + 1) f fd ps (spF K mg ps.length (runQ ps.length (N.length - ps.length) fb)) := by
  refine F.ok Sc (fun vs H Q E h => h.1) fun cdv A outer s H vs Q E hr h => ⟨_, PSs.nox (hbody cdv A outer s H E hr), ?_⟩
  obtain ⟨hv, P, o, ρ, res, a, e, p⟩ := h
  unfold runQ at e
  split at e
  · rename_i hl
    cases hf : fb (ρ ++ List.replicate (N.length - ps.length) none) with
    | none => simp only [hf] at e; cases e
    | some r =>
      simp only [hf] at e
      have a1 : At K P o (ρ ++ List.replicate (N.length - ps.length) none) (L2.start N vs) H := by
        unfold L2.start
        rw [hv]
        exact a.slots _
      refine ⟨P, o, _, r, a1, hf, ?_⟩
      have out : ∀ (o' : Ow) (ρ' : Env) (σ' : St) (s : S) (v : V) (H' : Hp), ps.length ≤ ρ'.length → res = (.ok s, restP ρ ρ') → ChgS ps.length o o' H H' → RtP K P o o' ρ' σ' H H' v s → Q v H' := by
        intro o' ρ' σ' s v H' hl' er c ok
        subst er
        have hc : Chg o H H' := ⟨c.keep, c.dom⟩
        have own : (∃ b, v = .ref b ∧ (Own o b ∨ H b = none) ∧ ¬ Own o' b ∧ At K (plusA P b) o' ρ' σ' H' ∧ OwnOk K (hd (hid (plusA P b) o') H') H' b s) → ∃ b, v = .ref b ∧ H b = none ∧ ¬ hid P o b ∧ At K (plusA P b) o (restP ρ ρ') (vs.map some) H' ∧ OwnOk K (hd (hid (plusA P b) o) H') H' b s := by
          rintro ⟨b, rfl, h2, h3, h4, h5⟩
          have lt : ∀ {i a'}, o i = some a' → i < ps.length := fun {i a'} q => by
            obtain ⟨s, h1, _⟩ := a.has i a' q
            rw [← hl]
            exact (List.getElem?_eq_some_iff.mp h1).1
          have hbn : H b = none := by
            rcases h2 with ⟨i, q⟩ | q
            · exact (h3 ⟨i, c.par i b (lt q) q⟩).elim
            · exact q
          refine ⟨b, rfl, hbn, fun z => ?_, a.leave h4 c hl hl' (fun _ z => .inl z) (fun z q => q.elim .inl fun q => .inr (.inr (by rw [q]; exact hbn))), h5.imp (ex_hd_le fun z q => ?_) fun _ z => z⟩
          · obtain ⟨u, q⟩ := a.domH z
            rw [hbn] at q
            cases q
          · rcases q with q | ⟨i, q⟩
            · exact .inl q
            · exact .inr ⟨i, c.par i z (lt q) q⟩
        refine p v H' hc ?_
        cases s with
        | dat d =>
          obtain ⟨h1, h2⟩ := ok
          refine ⟨a.leave h1 c hl hl' (fun _ z => z) (fun _ z => .inl z), dp_mono (ex_hd_le fun z q => ?_) h2⟩
          rcases q with q | ⟨i, q⟩
          · exact .inl q
          · obtain ⟨s, k1, _⟩ := a.has i z q
            exact .inr ⟨i, c.par i z (by rw [← hl]; exact (List.getElem?_eq_some_iff.mp k1).1) q⟩
        | own xs => exact own ok
        | odk xs => exact own ok
        | odt xs => exact own ok
      cases r with
      | rt s ρ' =>
        simp only at e
        split at e
        · rename_i hl'
          exact fun o' σ' v H' c ok => out o' ρ' σ' s v H' hl' (by cases e; rfl) c ok
        · cases e
      | nx ρ' =>
        simp only at e
        split at e
        · rename_i hl'
          exact fun o' σ' H' c at' => out o' ρ' σ' (.dat .none) .non H' hl' (by cases e; rfl) c ⟨at', .non⟩
        · cases e
      | bk ρ' => cases e
      | ct ρ' => cases e
      | ex n pl ρ' => cases e
  · cases e

/-! ### calls -/
theorem fndQ {Pr : Program} {w : World} {K : PySem.W.Frag} {mg : Str → Option Value} {base : Heap} {x : Str} {params : Arguments} {body : List Stmt} {scope : Scope} {f : Addr} {fd : FuncData} {N ps : List Str} {k : Nat} {fb : SM}
    (F : FunD K x x params body scope [] [] f fd) (hm : mg x = some (.ref f)) (hb : Binds K fd ps []) (Sc : FnScope N ps scope)
    (hbody : ∀ (cdv : Value) (A : Around) (outer : List PySem.Env) (s : Shared) (H : Hp) (E : XK), Room k (A.deeper (PyProof.Rows.envOfC x scope s.heap.objs.size f cdv)) → PDB (cxOf (L2.CX Pr w) Pr w K mg base N x scope f cdv A outer s H E).nox E0 ps.length body fb) :
    FnD Pr w K mg base x (k + 1) ps (runQ ps.length (N.length - ps.length) fb) := ⟨f, fd, hm, F.kp, hb, fndOk F hm hb Sc hbody⟩
def argS (ρ : Env) : Arg → Option S
  | .dat d => some (.dat d)
  | .ref i => (ρ[i]?).join
def argEnv (as : List Arg) (ρ : Env) : Env := as.map (argS ρ)
def putBack : List Arg → Env → Env → Env
  | .ref i :: as, s :: ρc, ρ => putBack as ρc (ρ.set i s)
  | .dat _ :: as, _ :: ρc, ρ => putBack as ρc ρ
  | _, _, ρ => ρ
def refsOf : List Arg → List Nat
  | [] => []
  | .ref i :: as => i :: refsOf as
  | .dat _ :: as => refsOf as
def nodupN : List Nat → Bool
  | [] => true
  | i :: r => !r.contains i && nodupN r
def callM (F : EM) (fs : AM) : EM := fun ρ => match fs ρ with
  | some (.inl as, ρ1) => if nodupN (refsOf as) = true then (match F (argEnv as ρ1) with
    | some (r, ρc) => if ρc.length = as.length then some (r, putBack as ρc ρ1) else none
    | none => none) else none
  | some (.inr (c, p), ρ1) => some (.ex c p, ρ1)
  | none => none
theorem mem_refs : ∀ {as : List Arg} {j i : Nat}, as[j]? = some (.ref i) → i ∈ refsOf as
  | [], _, _, h => by simp at h
  | .ref i' :: as, 0, i, h => by simp at h; subst h; simp [refsOf]
  | .ref i' :: as, j + 1, i, h => by simp [refsOf]; exact .inr (mem_refs (by simpa using h))
  | .dat _ :: as, 0, i, h => by simp at h
  | .dat _ :: as, j + 1, i, h => by simp [refsOf]; exact mem_refs (by simpa using h)
theorem refs_inj : ∀ {as : List Arg} {j j' i : Nat}, nodupN (refsOf as) = true → as[j]? = some (.ref i) → as[j']? = some (.ref i) → j = j'
  | [], _, _, _, _, h, _ => by simp at h
  | .dat _ :: as, 0, _, _, _, h, _ => by simp at h
  | .dat _ :: as, _ + 1, 0, _, _, _, h => by simp at h
  | .dat _ :: as, j + 1, j' + 1, i, hn, h, h' => by
    have := refs_inj (as := as) (j := j) (j' := j') (i := i) (by simpa [refsOf] using hn) (by simpa using h) (by simpa using h')
    omega
  | .ref i' :: as, 0, 0, _, _, _, _ => rfl
  | .ref i' :: as, 0, j' + 1, i, hn, h, h' => by
    simp at h; subst h
    have hm := mem_refs (as := as) (j := j') (i := i') (by simpa using h')
    simp [refsOf, nodupN, hm] at hn
  | .ref i' :: as, j + 1, 0, i, hn, h, h' => by
    simp at h'; subst h'
    have hm := mem_refs (as := as) (j := j) (i := i') (by simpa using h)
    simp [refsOf, nodupN, hm] at hn
  | .ref i' :: as, j + 1, j' + 1, i, hn, h, h' => by
    have hn' : nodupN (refsOf as) = true := by
      simp [refsOf, nodupN] at hn
      exact hn.2
    have := refs_inj (as := as) (j := j) (j' := j') (i := i) hn' (by simpa using h) (by simpa using h')
    omega
theorem putBack_len : ∀ (as : List Arg) (ρc ρ : Env), (putBack as ρc ρ).length = ρ.length
  | [], _, _ => by simp [putBack]
  | .ref i :: as, [], _ => by simp [putBack]
  | .ref i :: as, s :: ρc, ρ => by simp [putBack, putBack_len as ρc]
  | .dat _ :: as, [], _ => by simp [putBack]
  | .dat _ :: as, s :: ρc, ρ => by simp [putBack, putBack_len as ρc]
theorem putBack_out : ∀ {as : List Arg} {ρc ρ : Env} {i : Nat}, i ∉ refsOf as → (putBack as ρc ρ)[i]? = ρ[i]?
  | [], _, _, _, _ => by simp [putBack]
  | .ref i :: as, [], _, _, _ => by simp [putBack]
  | .ref i' :: as, s :: ρc, ρ, i, h => by
    simp [refsOf] at h
    rw [putBack, putBack_out h.2, List.getElem?_set_ne (fun e => h.1 e.symm)]
  | .dat _ :: as, [], _, _, _ => by simp [putBack]
  | .dat _ :: as, s :: ρc, ρ, i, h => by
    simp [refsOf] at h
    rw [putBack, putBack_out h]
theorem putBack_in : ∀ {as : List Arg} {ρc ρ : Env} {i j : Nat} {s : Option S}, nodupN (refsOf as) = true → as[j]? = some (.ref i) → ρc[j]? = some s → i < ρ.length → (putBack as ρc ρ)[i]? = some s
  | [], _, _, _, _, _, _, h, _, _ => by simp at h
  | _ :: _, [], _, _, _, _, _, _, h, _ => by simp at h
  | .ref i' :: as, s' :: ρc, ρ, i, 0, s, hn, h, h2, hl => by
    simp at h h2
    subst h h2
    have hm : i' ∉ refsOf as := by
      intro z
      simp [refsOf, nodupN, z] at hn
    rw [putBack, putBack_out hm, List.getElem?_set_self hl]
  | .ref i' :: as, s' :: ρc, ρ, i, j + 1, s, hn, h, h2, hl => by
    have hn' : nodupN (refsOf as) = true := by
      simp [refsOf, nodupN] at hn
      exact hn.2
    rw [putBack]
    exact putBack_in hn' (by simpa using h) (by simpa using h2) (by simpa using hl)
  | .dat _ :: as, s' :: ρc, ρ, i, 0, s, hn, h, h2, hl => by simp at h
  | .dat _ :: as, s' :: ρc, ρ, i, j + 1, s, hn, h, h2, hl => by
    rw [putBack]
    exact putBack_in (by simpa [refsOf] using hn) (by simpa using h) (by simpa using h2) hl
theorem ref_mem : ∀ {as : List Arg} {i : Nat}, i ∈ refsOf as → ∃ j : Nat, as[j]? = some (.ref i)
  | .ref i' :: as, i, h => by
    simp [refsOf] at h
    rcases h with rfl | h
    · exact ⟨0, rfl⟩
    · obtain ⟨j, h⟩ := ref_mem h
      exact ⟨j + 1, by simpa using h⟩
  | .dat _ :: as, i, h => by
    obtain ⟨j, h⟩ := ref_mem (show i ∈ refsOf as by simpa [refsOf] using h)
    exact ⟨j + 1, by simpa using h⟩
theorem argOk_len {K : PySem.W.Frag} {G : Hp} {o : Ow} : ∀ {vs : List V} {as : List Arg}, ArgOk K G o vs as → vs.length = as.length
  | _, _, .nil => rfl
  | _, _, .dat _ r => by simp [argOk_len r]
  | _, _, .ref _ r => by simp [argOk_len r]
theorem argOk_get {K : PySem.W.Frag} {G : Hp} {o : Ow} : ∀ {vs : List V} {as : List Arg} {j : Nat}, ArgOk K G o vs as → (∀ d, as[j]? = some (.dat d) → ∃ v, vs[j]? = some v ∧ Dp K G v d) ∧ ∀ i, as[j]? = some (.ref i) → ∃ a, vs[j]? = some (V.ref a) ∧ o i = some a
  | _, _, _, .nil => ⟨fun _ e => by simp at e, fun _ e => by simp at e⟩
  | _, _, 0, .dat h r => ⟨fun d e => by simp at e; subst e; exact ⟨_, rfl, h⟩, fun _ e => by simp at e⟩
  | _, _, 0, .ref h r => ⟨fun d e => by simp at e, fun i e => by simp at e; subst e; exact ⟨_, rfl, h⟩⟩
  | _, _, j + 1, .dat _ r => by simpa using argOk_get (j := j) r
  | _, _, j + 1, .ref _ r => by simpa using argOk_get (j := j) r
def ocOf (o : Ow) (as : List Arg) : Ow := fun j => match as[j]? with
  | some (.ref i) => o i
  | _ => none
theorem ocOf_some {o : Ow} {as : List Arg} {j : Nat} {a : Addr} (h : ocOf o as j = some a) : ∃ i, as[j]? = some (.ref i) ∧ o i = some a := by
  unfold ocOf at h
  split at h
  · rename_i i hi
    exact ⟨i, hi, h⟩
  · cases h
section
variable {K : PySem.W.Frag} {P : Addr → Prop} {o : Ow} {ρ ρc : Env} {σ : St} {H H' : Hp} {as : List Arg} {vs : List V}
theorem own_oc {a : Addr} (h : Own (ocOf o as) a) : Own o a := by
  obtain ⟨j, h⟩ := h
  obtain ⟨i, _, h⟩ := ocOf_some h
  exact ⟨i, h⟩
/-- what a callee's caller hides beside what it hands on -/
def pcOf (P : Addr → Prop) (o : Ow) (as : List Arg) : Addr → Prop := fun a => hid P o a ∧ ¬ Own (ocOf o as) a
theorem hid_pc : hid (pcOf P o as) (ocOf o as) = hid P o := funext fun a => propext ⟨fun z => z.elim (fun z => z.1) fun z => .inr (own_oc z), fun z => by
  by_cases q : Own (ocOf o as) a
  · exact .inr q
  · exact .inl ⟨z, q⟩⟩
theorem hid_pc2 (b : Addr) : hid (plusA (pcOf P o as) b) (ocOf o as) = hid (plusA P b) o := by
  have e := hid_pc (P := P) (o := o) (as := as)
  funext z
  apply propext
  have ez : hid (pcOf P o as) (ocOf o as) z ↔ hid P o z := by rw [e]
  constructor
  · rintro ((w | w) | w)
    · rcases ez.mp (.inl w) with q | q
      · exact .inl (.inl q)
      · exact .inr q
    · exact .inl (.inr w)
    · rcases ez.mp (.inr w) with q | q
      · exact .inl (.inl q)
      · exact .inr q
  · rintro ((w | w) | w)
    · rcases ez.mpr (.inl w) with q | q
      · exact .inl (.inl q)
      · exact .inr q
    · exact .inl (.inr w)
    · rcases ez.mpr (.inr w) with q | q
      · exact .inl (.inl q)
      · exact .inr q
theorem hid_oc (Q : Addr → Prop) (hQ : ∀ a, Own o a → Q a) : hid Q (ocOf o as) = Q := funext fun a => propext ⟨fun z => z.elim id fun z => hQ a (own_oc z), .inl⟩
/-- a callee's entry -/
theorem At.enter (h : At K P o ρ σ H) (hn : nodupN (refsOf as) = true) (k : ArgOk K (hd (hid P o) H) o vs as) : At K (pcOf P o as) (ocOf o as) (argEnv as ρ) (vs.map some) H := by
  have eh : hid (pcOf P o as) (ocOf o as) = hid P o := hid_pc
  refine ⟨by simp [argEnv, argOk_len k], fun a z => h.domH z.1, fun j j' a q q' => ?_, fun j a q z => z.2 ⟨j, q⟩, fun j a q => ?_, fun j d q => ?_, fun j s q hs => ?_⟩
  · obtain ⟨i, h1, h2⟩ := ocOf_some q
    obtain ⟨i', h1', h2'⟩ := ocOf_some q'
    have e := h.inj i i' a h2 h2'
    subst e
    exact refs_inj hn h1 h1'
  · obtain ⟨i, h1, h2⟩ := ocOf_some q
    obtain ⟨s, k1, k2, k3⟩ := h.has i a h2
    obtain ⟨a', k4, k5⟩ := (argOk_get (j := j) k).2 i h1
    rw [h2] at k5
    cases k5
    refine ⟨s, by simp [argEnv, h1, argS, k1], by simp [k4], by rw [eh]; exact k3⟩
  · rw [eh]
    unfold argEnv at q
    rw [List.getElem?_map] at q
    cases h1 : as[j]? with
    | none => rw [h1] at q; cases q
    | some x =>
      rw [h1] at q
      cases x with
      | dat d' =>
        simp [argS] at q
        subst q
        obtain ⟨v, k1, k2⟩ := (argOk_get (j := j) k).1 d' h1
        exact ⟨v, by simp [k1], k2⟩
      | ref i =>
        simp [argS] at q
        obtain ⟨a', k4, k5⟩ := (argOk_get (j := j) k).2 i h1
        obtain ⟨s, k1, k2, k3⟩ := h.has i a' k5
        rw [k1] at q
        simp at q
        subst q
        exact False.elim k3
  · unfold argEnv at q
    rw [List.getElem?_map] at q
    cases h1 : as[j]? with
    | none => rw [h1] at q; cases q
    | some x =>
      rw [h1] at q
      cases x with
      | dat d' =>
        simp [argS] at q
        subst q
        cases hs
      | ref i =>
        obtain ⟨a', k4, k5⟩ := (argOk_get (j := j) k).2 i h1
        exact ⟨a', by unfold ocOf; rw [h1]; exact k5⟩
/-- behind a call -/
theorem At.returned {Pq Pc : Addr → Prop} (h : At K P o ρ σ H) (hn : nodupN (refsOf as) = true) (hl : ρc.length = as.length) (h' : At K Pc (ocOf o as) ρc (vs.map some) H') (c : Chg (ocOf o as) H H') (eh : hid Pc (ocOf o as) = hid Pq o)
    (hq : ∀ b, Pq b → P b ∨ H b = none) (hr : ∀ i ∈ refsOf as, ∃ a, o i = some a) : At K Pq o (putBack as ρc ρ) σ H' := by
  have ex : Ex (hd (hid P o) H) (hd (hid Pq o) H') := fun b u z => by
    obtain ⟨n, z⟩ := hd_some.mp z
    refine hd_some.mpr ⟨fun w => ?_, c.keep b u z fun w => n (.inr (own_oc w))⟩
    rcases w with w | w
    · rcases hq b w with w | w
      · exact n (.inl w)
      · rw [z] at w; cases w
    · exact n (.inr w)
  -- what a slot holds behind the call
  have own_at : ∀ i a, o i = some a → i ∈ refsOf as → ∃ s, (putBack as ρc ρ)[i]? = some (some s) ∧ OwnOk K (hd (hid Pq o) H') H' a s := fun i a q hi => by
    obtain ⟨j, hj⟩ := ref_mem hi
    have hoc : ocOf o as j = some a := by unfold ocOf; rw [hj]; exact q
    obtain ⟨s, k1, _, k3⟩ := h'.has j a hoc
    obtain ⟨s0, q1, _⟩ := h.has i a q
    exact ⟨s, putBack_in hn hj k1 (List.getElem?_eq_some_iff.mp q1).1, by rw [← eh]; exact k3⟩
  refine ⟨by rw [putBack_len]; exact h.len, fun b z => ?_, h.inj, fun i a q z => (hq a z).elim (h.dis i a q) fun w => h.ownNe q w rfl, fun i a q => ?_, fun i d q => ?_, fun i s q hs => ?_⟩
  · have : hid Pc (ocOf o as) b := by rw [eh]; exact .inl z
    exact h'.domH this
  · obtain ⟨s0, q1, q2, q3⟩ := h.has i a q
    by_cases hi : i ∈ refsOf as
    · obtain ⟨s, k1, k2⟩ := own_at i a q hi
      exact ⟨s, k1, q2, k2⟩
    · refine ⟨s0, by rw [putBack_out hi]; exact q1, q2, q3.imp ex fun u z => c.keep a u z fun ⟨j, w⟩ => ?_⟩
      obtain ⟨i', h1, h2⟩ := ocOf_some w
      have e := h.inj i' i a h2 q
      subst e
      exact hi (mem_refs h1)
  · by_cases hi : i ∈ refsOf as
    · obtain ⟨a, ho⟩ := hr i hi
      obtain ⟨s, k1, k2⟩ := own_at i a ho hi
      rw [k1] at q
      cases q
      exact False.elim k2
    · rw [putBack_out hi] at q
      obtain ⟨v, k1, k2⟩ := h.dat i d q
      exact ⟨v, k1, dp_mono ex k2⟩
  · by_cases hi : i ∈ refsOf as
    · exact hr i hi
    · rw [putBack_out hi] at q
      exact h.ow i s q hs
theorem argOk_refs {G : Hp} : ∀ {vs : List V} {as : List Arg}, ArgOk K G o vs as → ∀ i ∈ refsOf as, ∃ a, o i = some a
  | _, _, .nil, i, h => by simp [refsOf] at h
  | _, _, .dat _ r, i, h => argOk_refs r i (by simpa [refsOf] using h)
  | _, _, .ref e r, i, h => by
    simp [refsOf] at h
    rcases h with rfl | h
    · exact ⟨_, e⟩
    · exact argOk_refs r i h
theorem call_imp {mg : Str → Option Value} {E : XK} {F : EM} {fs : AM} {n : Nat} {Q : VK} (hlen : ∀ vs H (Q : VK) (E : XK), vs.length ≠ n → ¬ spF K mg n F vs H Q E) (hn' : ∀ (as : List Arg) (ρ ρ1 : Env), fs ρ = some (.inl as, ρ1) → as.length = n) (h : tE K mg E (callM F fs) σ H Q) : tCall (spF K mg n F) [] E (tA K mg E fs) σ H Q := by
  obtain ⟨P, o, ρ, res, a, e, p⟩ := h
  unfold callM at e
  cases hf : fs ρ with
  | none => rw [hf] at e; cases e
  | some r1 =>
    obtain ⟨r, ρ1⟩ := r1
    rw [hf] at e
    refine ⟨P, o, ρ, _, a, hf, ?_⟩
    cases r with
    | inr x => cases e; exact p
    | inl as =>
      intro vs H1 c1 a1 k
      simp only at e
      split at e
      · rename_i hnd
        cases hF : F (argEnv as ρ1) with
        | none => simp only [hF] at e; cases e
        | some r2 =>
          obtain ⟨r, ρc⟩ := r2
          simp only [hF] at e
          split at e
          · rename_i hl
            cases e
            have kr := argOk_refs k
            have eh : hid (pcOf P o as) (ocOf o as) = hid P o := hid_pc
            have cO : ∀ {H2 : Hp}, Chg (ocOf o as) H1 H2 → Chg o H1 H2 := fun c => ⟨fun b u z w => c.keep b u z fun q => w (own_oc q), c.dom⟩
            refine ⟨by rw [List.append_nil, argOk_len k, hn' as ρ ρ1 hf], pcOf P o as, ocOf o as, argEnv as ρ1, _, by rw [List.append_nil]; exact a1.enter hnd k, hF, ?_⟩
            rw [List.append_nil]
            have ret : ∀ {H2 : Hp}, Chg (ocOf o as) H1 H2 → At K (pcOf P o as) (ocOf o as) ρc (vs.map some) H2 → At K P o (putBack as ρc ρ1) σ H2 := fun c a2 => a1.returned hnd hl a2 c eh (fun b z => .inl z) kr
            cases r with
            | ex n pl =>
              intro cls dx H2 c2 a2 x
              rw [eh] at x
              exact p cls dx H2 (c1.trans (cO c2)) (ret c2 a2) x
            | ok s =>
              intro v H2 c2 ok
              refine p v H2 (c1.trans (cO c2)) ?_
              have own : (∃ b, v = .ref b ∧ H1 b = none ∧ ¬ hid (pcOf P o as) (ocOf o as) b ∧ At K (plusA (pcOf P o as) b) (ocOf o as) ρc (vs.map some) H2 ∧ OwnOk K (hd (hid (plusA (pcOf P o as) b) (ocOf o as)) H2) H2 b s) →
                  ∃ b, v = .ref b ∧ H b = none ∧ ¬ hid P o b ∧ At K (plusA P b) o (putBack as ρc ρ1) σ H2 ∧ OwnOk K (hd (hid (plusA P b) o) H2) H2 b s := by
                rintro ⟨b, rfl, h2, h3, h4, h5⟩
                have eh2 : hid (plusA (pcOf P o as) b) (ocOf o as) = hid (plusA P b) o := hid_pc2 b
                rw [eh] at h3
                rw [eh2] at h5
                exact ⟨b, rfl, c1.back h2, h3, a1.returned hnd hl h4 c2 eh2 (fun z w => w.elim .inl fun w => .inr (by rw [w]; exact h2)) kr, h5⟩
              cases s with
              | dat d =>
                obtain ⟨h1, h2⟩ := ok
                rw [eh] at h2
                exact ⟨ret c2 h1, h2⟩
              | own xs => exact own ok
              | odk xs => exact own ok
              | odt xs => exact own ok
          · cases e
      · cases e
end
/-- how many arguments -/
def AmLen (n : Nat) (fs : AM) : Prop := ∀ (as : List Arg) (ρ ρ1 : Env), fs ρ = some (.inl as, ρ1) → as.length = n
theorem am0 : AmLen 0 mA0 := fun as ρ ρ1 e => by cases e; rfl
theorem amc {n : Nat} {f : EM} {fs : AM} (h : AmLen n fs) : AmLen (n + 1) (mAc f fs) := fun as ρ ρ1 e => by
  unfold mAc at e
  cases hf : f ρ with
  | none => rw [hf] at e; cases e
  | some r1 =>
    obtain ⟨r, ρ2⟩ := r1
    rw [hf] at e
    cases r with
    | ex n pl => cases e
    | ok s =>
      simp only at e
      cases hs : s.toD with
      | none => simp only [hs] at e; cases e
      | some d =>
        simp only [hs] at e
        rcases consA_inl e with ⟨as', ρ3, h2, h3⟩ | ⟨y, ρ3, h2, h3⟩
        · cases h3
          simp [h as' ρ2 ρ1 h2]
        · cases h3
theorem amr {n i : Nat} {fs : AM} (h : AmLen n fs) : AmLen (n + 1) (mAr i fs) := fun as ρ ρ1 e => by
  unfold mAr at e
  split at e
  · split at e
    · rcases consA_inl e with ⟨as', ρ3, h2, h3⟩ | ⟨y, ρ3, h2, h3⟩
      · cases h3
        simp [h as' ρ ρ1 h2]
      · cases h3
    · cases e
  · cases e
section
variable {X : Cx} {E : XK} {k : Nat} {x : Str} {ps : List Str} {F : EM} {e : Expr} {es : List Expr} {fs : AM} {p pos : Pos}
theorem pd_call (G : FnD X.prog X.w X.K X.mg X.base x k ps F) (hr : Room k X.A) (hg : Gl X x) (hx : Passes (L2.CX X.prog X.w) X E) (ha : PDA X E (e :: es) fs) (hn : AmLen ps.length fs)
    (hdb : (x == ("__debug__" : Str)) = false := by decide) (he : starEach (e :: es) X.env = (false, eval e X.env) :: starEach es X.env := by rfl) (hpl : (backTo pos (starEach es X.env)).any (·.1) = false := by rfl) :
    PD X E (.Call (.Name x p) (e :: es) [] pos) (callM F fs) := by
  obtain ⟨f, fd, hm, hk, hb, ok⟩ := G.ex
  exact PE.imp (pe_call ok hr hg hm hk hb .nil hx ha hdb he hpl) fun σ H Q h => call_imp (n := ps.length) (fun vs H Q E hl q => hl q.1) hn h
theorem pd_call0 (G : FnD X.prog X.w X.K X.mg X.base x k [] F) (hr : Room k X.A) (hg : Gl X x) (hx : Passes (L2.CX X.prog X.w) X E)
    (hdb : (x == ("__debug__" : Str)) = false := by decide) : PD X E (.Call (.Name x p) [] [] pos) (callM F mA0) := by
  obtain ⟨f, fd, hm, hk, hb, ok⟩ := G.ex
  refine PE.imp (pe_call0 ok hr hg hm hk hb .nil hx hdb) fun σ H Q h => ?_
  obtain ⟨P, o, ρ, res, a, e, p⟩ := call_imp (n := 0) (fun vs H Q E hl q => hl q.1) am0 h
  cases e
  exact p [] H .refl a .nil
end
end DL

namespace DL
open PySem PySem.Spec L2

/-! ### values of one kind -/
theorem dp_int {K : PySem.W.Frag} {H : Hp} {v : V} {i : Int} (h : Dp K H v (.int i)) : v = .int i := by cases h; rfl
theorem dp_str {K : PySem.W.Frag} {H : Hp} {v : V} {i : Str} (h : Dp K H v (.str i)) : v = .str i := by cases h; rfl
theorem dp_bl {K : PySem.W.Frag} {H : Hp} {v : V} {i : Bool} (h : Dp K H v (.bool i)) : v = .bl i := by cases h; rfl
theorem dp_tup {K : PySem.W.Frag} {H : Hp} {v : V} {xs : List D} (h : Dp K H v (.tuple xs)) : ∃ a vs, v = .ref a ∧ SqT K H a vs ∧ DpAll K H vs xs := by cases h; exact ⟨_, _, rfl, by assumption, by assumption⟩
theorem dp_lst {K : PySem.W.Frag} {H : Hp} {v : V} {xs : List D} (h : Dp K H v (.list xs)) : ∃ a vs, v = .ref a ∧ SqL K H a vs ∧ DpAll K H vs xs := by cases h; exact ⟨_, _, rfl, by assumption, by assumption⟩
theorem new_tup {K : PySem.W.Frag} {P : Addr → Prop} {H : Hp} {p : Addr} {vs : List V} {ds : List D} (hP : ∀ a, P a → ∃ u, H a = some u) (hp : H p = none) (h : DpAll K (hd P H) vs ds) : Dp K (hd P (upd H p (.tup vs))) (.ref p) (.tuple ds) := vok_tup hP hp h
theorem new_lst {K : PySem.W.Frag} {P : Addr → Prop} {H : Hp} {p : Addr} {vs : List V} {ds : List D} (hP : ∀ a, P a → ∃ u, H a = some u) (hp : H p = none) (h : DpAll K (hd P H) vs ds) : Dp K (hd P (upd H p (.lst vs))) (.ref p) (.list ds) := vok_lst hP hp h

/-! ### + -/
def rCatLs (K : PySem.W.Frag) : R2 := fun x y H Q => ∃ l b xs zs, x = .ref l ∧ y = .ref b ∧ SqL K H l xs ∧ SqL K H b zs ∧ xs.length + zs.length ≤ sizeLine ∧ ∀ p, H p = none → Q (.ref p) (upd H p (.lst (xs ++ zs)))
theorem op_catLs {X : Cx} : OpR X (binaryOp .Add) (rCatLs X.K) := by
  intro pins s σ H x y v u Q I rx ry h
  obtain ⟨l, b, xs, zs, rfl, rfl, hH, hB, hz, q⟩ := h
  cases rx
  cases ry
  obtain ⟨its, r, pl, hl⟩ := I.list hH
  obtain ⟨its2, r2, pl2, hl2⟩ := I.list hB
  obtain ⟨⟨cls, dd, data, sl⟩, n, ho, hc, hdn, hdt⟩ := pl
  obtain ⟨⟨cls2, dd2, data2, sl2⟩, n2, ho2, hc2, hdn2, hdt2⟩ := pl2
  simp only at hc hdn hdt hc2 hdn2 hdt2
  subst hc hdn hdt hc2 hdn2 hdt2
  have e1 := r.length
  have e2 := r2.length
  refine PySem.concat_meets ⟨_, ho, rfl⟩ ⟨_, ho2, rfl⟩ PySem.noFill_list_add PySem.seq_list_add PySem.F.slot_list_add PySem.F.entry_list_add (PySem.F.args_list_add_2 _ _)
    (PyProof.Rows.list_addW l b its.toArray its2.toArray n n2 none none sl sl2 (by rw [List.size_toArray, List.size_toArray]; omega)) ⟨ho, ho2, ?_⟩
  have ea : its.toArray ++ its2.toArray = (its ++ its2).toArray := by simp
  rw [ea]
  exact ⟨.ref _, _, I.lnew (t' := s.toks) (r.append r2) (by rw [List.length_append]; omega), rfl, q _ I.fresh⟩
def rAdd4 (K : PySem.W.Frag) : R2 := fun x y H Q => (rI0 (fun i j => .int (i + j)) x y H Q ∨ (∃ i j, x = .str i ∧ y = .str j ∧ i.length + j.length ≤ sizeLine ∧ Q (.str (i ++ j)) H)) ∨ (rCatA K x y H Q ∨ rCatLs K x y H Q)
theorem op_add4 {X : Cx} : OpR X (binaryOp .Add) (rAdd4 X.K) := (OpR.or op_add op_add_str).or (OpR.or op_catA op_catLs)
def gAdd : D → D → Option D
  | .int i, .int j => some (.int (i + j))
  | .str x, .str y => if x.length + y.length ≤ big then some (.str (x ++ y)) else none
  | .tuple xs, .tuple ys => if xs.length + ys.length ≤ big then some (.tuple (xs ++ ys)) else none
  | .list xs, .list ys => if xs.length + ys.length ≤ big then some (.list (xs ++ ys)) else none
  | _, _ => none
theorem add_ok {K : PySem.W.Frag} : OpD K (rAdd4 K) gAdd := by
  intro P H x y d e z hP hx hy hz Q q
  unfold gAdd at hz
  split at hz
  · cases hz
    cases dp_int hx
    cases dp_int hy
    exact .inl (.inl ⟨_, _, rfl, rfl, q _ H (.refl _) (.int _)⟩)
  · split at hz
    · rename_i hl
      cases hz
      cases dp_str hx
      cases dp_str hy
      exact .inl (.inr ⟨_, _, rfl, rfl, big_line hl, q _ H (.refl _) (.str _)⟩)
    · cases hz
  · split at hz
    · rename_i hl
      cases hz
      obtain ⟨a, vs, rfl, h1, h2⟩ := dp_tup hx
      obtain ⟨b, ws, rfl, h3, h4⟩ := dp_tup hy
      have l1 := dps_len h2
      have l2 := dps_len h4
      refine .inr (.inl ⟨a, b, vs, ws, rfl, rfl, ex_t ex_hd h1, ex_t ex_hd h3, by rw [l1, l2]; exact big_line hl, fun e => ?_, fun _ e => ?_, fun _ _ p hp => ?_⟩)
      · subst e
        cases h2
        exact q _ H (.refl _) hy
      · subst e
        cases h4
        rw [List.append_nil] at q
        exact q _ H (.refl _) hx
      · exact q _ _ (.new hp) (new_tup hP hp (dps_append h2 h4))
    · cases hz
  · split at hz
    · rename_i hl
      cases hz
      obtain ⟨a, vs, rfl, h1, h2⟩ := dp_lst hx
      obtain ⟨b, ws, rfl, h3, h4⟩ := dp_lst hy
      have l1 := dps_len h2
      have l2 := dps_len h4
      exact .inr (.inr ⟨a, b, vs, ws, rfl, rfl, ex_l ex_hd h1, ex_l ex_hd h3, by rw [l1, l2]; exact big_line hl, fun p hp => q _ _ (.new hp) (new_lst hP hp (dps_append h2 h4))⟩)
    · cases hz
  · cases hz

/-! ### other operations on ints -/
def gI (C : Int → Int → Prop) [∀ i j, Decidable (C i j)] (f : Int → Int → Int) : D → D → Option D
  | .int i, .int j => if C i j then some (.int (f i j)) else none
  | _, _ => none
theorem gI_ok {K : PySem.W.Frag} {C C' : Int → Int → Prop} [∀ i j, Decidable (C' i j)] {f : Int → Int → Int} (h : ∀ i j, C' i j → C i j) : OpD K (rI C fun i j => .int (f i j)) (gI C' f) := by
  intro P H x y d e z hP hx hy hz Q q
  unfold gI at hz
  split at hz
  · split at hz
    · rename_i hc
      cases hz
      cases dp_int hx
      cases dp_int hy
      exact ⟨_, _, rfl, rfl, h _ _ hc, q _ H (.refl _) (.int _)⟩
    · cases hz
  · cases hz
def gI0 (f : Int → Int → Int) : D → D → Option D
  | .int i, .int j => some (.int (f i j))
  | _, _ => none
theorem gI0_ok {K : PySem.W.Frag} {f : Int → Int → Int} : OpD K (rI0 fun i j => .int (f i j)) (gI0 f) := by
  intro P H x y d e z hP hx hy hz Q q
  unfold gI0 at hz
  split at hz
  · cases hz
    cases dp_int hx
    cases dp_int hy
    exact ⟨_, _, rfl, rfl, q _ H (.refl _) (.int _)⟩
  · cases hz
abbrev gSub : D → D → Option D := gI0 fun i j => i - j
/-- the left or the right factor below 2^64 -/
abbrev CMul' (i j : Int) : Prop := (-18446744073709551616 < i ∧ i < 18446744073709551616) ∨ (-18446744073709551616 < j ∧ j < 18446744073709551616)
abbrev gMul : D → D → Option D := gI CMul' fun i j => i * j
theorem cmul_ok : ∀ i j, CMul' i j → CMul i j := fun i j h => by
  unfold CMul
  have e : (2 : Int) ^ 64 = 18446744073709551616 := by decide
  rw [e]
  exact h
abbrev gFdiv : D → D → Option D := gI (fun _ j => j ≠ 0 ∧ j.natAbs < 1073741824) fun i j => i.fdiv j
abbrev gMod : D → D → Option D := gI (fun _ j => j ≠ 0) fun i j => i.fmod j
abbrev gPow : D → D → Option D := gI (fun i j => 0 ≤ j ∧ j ≤ 1000000 ∧ i.natAbs < 18446744073709551616) fun i j => i ^ j.toNat
theorem cpow_ok : ∀ i j : Int, (0 ≤ j ∧ j ≤ 1000000 ∧ i.natAbs < 18446744073709551616) → CPow i j := fun i j h => by
  unfold CPow
  have e : (2 : Nat) ^ 64 = 18446744073709551616 := by decide
  rw [e]
  exact h
theorem sub_ok {K : PySem.W.Frag} : OpD K (rI0 fun i j => .int (i - j)) gSub := gI0_ok
theorem mul_ok {K : PySem.W.Frag} : OpD K (rI CMul fun i j => .int (i * j)) gMul := gI_ok cmul_ok
theorem fdiv_ok {K : PySem.W.Frag} : OpD K (rI CDivN fun i j => .int (i.fdiv j)) gFdiv := gI_ok fun _ _ h => h
theorem mod_ok {K : PySem.W.Frag} : OpD K (rI (fun _ j => j ≠ 0) fun i j => .int (i.fmod j)) gMod := gI_ok fun _ _ h => h
theorem pow_ok {K : PySem.W.Frag} : OpD K (rI CPow fun i j => .int (i ^ j.toNat)) gPow := gI_ok cpow_ok
/-! ### order of ints -/
def gB (f : Int → Int → Bool) : D → D → Option D
  | .int i, .int j => some (.bool (f i j))
  | _, _ => none
theorem gB_ok {K : PySem.W.Frag} {f : Int → Int → Bool} : OpD K (rI0 fun i j => .bl (f i j)) (gB f) := by
  intro P H x y d e z hP hx hy hz Q q
  unfold gB at hz
  split at hz
  · cases hz
    cases dp_int hx
    cases dp_int hy
    exact ⟨_, _, rfl, rfl, q _ H (.refl _) (.bl _)⟩
  · cases hz
abbrev gLe : D → D → Option D := gB fun i j => decide (i ≤ j)
abbrev gGt : D → D → Option D := gB fun i j => decide (j < i)
abbrev gGe : D → D → Option D := gB fun i j => decide (j ≤ i)
abbrev gLtI : D → D → Option D := gB fun i j => decide (i < j)
/-! ### ==, in -/
/-- data whose == is known at once -/
def eqOk : D → D → Bool
  | .none, .none | .bool _, .bool _ | .int _, .int _ | .str _, .str _ => true
  | d, e => SeqAt.shaped d && SeqAt.shaped e
def gEq (d e : D) : Option D := if eqOk d e = true then some (.bool (PyData.eqv d e)) else none
def gNe (d e : D) : Option D := if eqOk d e = true then some (.bool (!PyData.eqv d e)) else none
theorem shaped_none : SeqAt.shaped .none = true := by decide
theorem shaped_bool (b : Bool) : SeqAt.shaped (.bool b) = true := by cases b <;> decide
theorem shaped_int (i : Int) : SeqAt.shaped (.int i) = true := by simp [SeqAt.shaped, PyData.canLay0, PyData.depth]
def rEq2 (K : PySem.W.Frag) : R2 := fun x y H Q => rEq x y H Q ∨ rEqD K x y H Q
def rNe2 (K : PySem.W.Frag) : R2 := fun x y H Q => rNe x y H Q ∨ rNeD K x y H Q
theorem op_eq2 {X : Cx} (hu : X.A.units + 64 < cLine) : OpR X (compareOp .Eq) (rEq2 X.K) := OpR.or op_eq (op_eqD hu)
theorem op_ne2 {X : Cx} (hu : X.A.units + 64 < cLine) : OpR X (compareOp .NotEq) (rNe2 X.K) := OpR.or op_ne (op_neD hu)
theorem eqOk_cases {d e : D} (h : eqOk d e = true) : (∃ x y, d = .str x ∧ e = .str y) ∨ (SeqAt.shaped d = true ∧ SeqAt.shaped e = true) := by
  unfold eqOk at h
  split at h
  · exact .inr ⟨shaped_none, shaped_none⟩
  · exact .inr ⟨shaped_bool _, shaped_bool _⟩
  · exact .inr ⟨shaped_int _, shaped_int _⟩
  · exact .inl ⟨_, _, rfl, rfl⟩
  · exact .inr (Bool.and_eq_true_iff.mp h)
theorem eq_ok {K : PySem.W.Frag} : OpD K (rEq2 K) gEq := by
  intro P H x y d e z hP hx hy hz Q q
  unfold gEq at hz
  split at hz
  · rename_i hk
    cases hz
    rcases eqOk_cases hk with ⟨a, b, rfl, rfl⟩ | ⟨h1, h2⟩
    · cases dp_str hx
      cases dp_str hy
      refine .inl ⟨rfl, ?_⟩
      have := q (.bl (PyData.eqv (.str a) (.str b))) H (.refl _) (.bl _)
      rw [dec_str]
      exact this
    · exact .inr ⟨d, e, dp_mono ex_hd hx, dp_mono ex_hd hy, h1, h2, q _ H (.refl _) (.bl _)⟩
  · cases hz
theorem ne_ok {K : PySem.W.Frag} : OpD K (rNe2 K) gNe := by
  intro P H x y d e z hP hx hy hz Q q
  unfold gNe at hz
  split at hz
  · rename_i hk
    cases hz
    rcases eqOk_cases hk with ⟨a, b, rfl, rfl⟩ | ⟨h1, h2⟩
    · cases dp_str hx
      cases dp_str hy
      refine .inl ⟨rfl, ?_⟩
      have := q (.bl (!PyData.eqv (.str a) (.str b))) H (.refl _) (.bl _)
      rw [dec_str]
      exact this
    · exact .inr ⟨d, e, dp_mono ex_hd hx, dp_mono ex_hd hy, h1, h2, q _ H (.refl _) (.bl _)⟩
  · cases hz
/-- is None -/
def isNone : D → Bool
  | .none => true
  | _ => false
def gIsN : D → D → Option D
  | d, .none => some (.bool (isNone d))
  | _, _ => none
def gIsNotN : D → D → Option D
  | d, .none => some (.bool (!isNone d))
  | _, _ => none
theorem isN_dec {K : PySem.W.Frag} {H : Hp} {v : V} {d : D} (h : Dp K H v d) : decide (v = .non) = isNone d := by
  cases h <;> simp [isNone]
theorem isN_ok {K : PySem.W.Frag} : OpD K (fun x y H Q => y = .non ∧ Q (.bl (decide (x = .non))) H) gIsN := by
  intro P H x y d e z hP hx hy hz Q q
  unfold gIsN at hz
  split at hz
  · cases hz
    cases hy
    rw [isN_dec hx]
    exact ⟨rfl, q _ H (.refl _) (.bl _)⟩
  · cases hz
theorem isNotN_ok {K : PySem.W.Frag} : OpD K (fun x y H Q => y = .non ∧ Q (.bl (!decide (x = .non))) H) gIsNotN := by
  intro P H x y d e z hP hx hy hz Q q
  unfold gIsNotN at hz
  split at hz
  · cases hz
    cases hy
    rw [isN_dec hx]
    exact ⟨rfl, q _ H (.refl _) (.bl _)⟩
  · cases hz
/-- in a list, in a tuple -/
def flatD : D → Bool
  | .none | .bool _ | .int _ | .str _ => true
  | _ => false
def memD (d : D) (ds : List D) : Bool := ds.any fun z => PyData.eqv z d
def inOk (d : D) (ds : List D) : Bool := (flatD d && ds.all flatD) || (SeqAt.shaped d && SeqAt.shaped (.list ds))
def gIn (neg : Bool) (d e : D) : Option D := match seqOf e with
  | some ds => if inOk d ds = true then some (.bool (if neg = true then !memD d ds else memD d ds)) else none
  | none => none
def rIn2 (K : PySem.W.Frag) (neg : Bool) : R2 := fun x y H Q => rIn K neg x y H Q ∨ ∃ d ds, Dp K H x d ∧ (Dp K H y (.list ds) ∨ Dp K H y (.tuple ds)) ∧ SeqAt.shaped d = true ∧ SeqAt.shaped (.list ds) = true ∧ Q (.bl (if neg = true then !memD d ds else memD d ds)) H
theorem op_in2 {X : Cx} (hu : X.A.units + 65 < cLine) : OpR X (compareOp .In) (rIn2 X.K false) := by
  refine OpR.or op_in_seq ?_
  intro pins s σ H x y v u Q I rx ry h
  obtain ⟨d, ds, hd, he, sd, se, q⟩ := h
  obtain ⟨as, r1⟩ := Dp.reads I d x v hd rx
  rcases he with he | he
  · obtain ⟨bs, r2⟩ := Dp.reads I (.list ds) y u he ry
    exact SeqAt.in_list_reads r2 r1 (SeqAt.canLay_of_shaped se) (SeqAt.canLay_of_shaped sd) (PyProof.Rows.room_in_shaped sd hu) ⟨.bl _, H, I, rfl, q⟩
  · obtain ⟨bs, r2⟩ := Dp.reads I (.tuple ds) y u he ry
    exact SeqAt.in_tuple_reads r2 r1 (SeqAt.canLay_of_shaped se) (SeqAt.canLay_of_shaped sd) (PyProof.Rows.room_in_shaped sd hu) ⟨.bl _, H, I, rfl, q⟩
theorem op_notIn2 {X : Cx} (hu : X.A.units + 65 < cLine) : OpR X (compareOp .NotIn) (rIn2 X.K true) := by
  refine OpR.or op_notIn_seq ?_
  intro pins s σ H x y v u Q I rx ry h
  obtain ⟨d, ds, hd, he, sd, se, q⟩ := h
  obtain ⟨as, r1⟩ := Dp.reads I d x v hd rx
  rcases he with he | he
  · obtain ⟨bs, r2⟩ := Dp.reads I (.list ds) y u he ry
    exact SeqAt.notIn_list_reads r2 r1 (SeqAt.canLay_of_shaped se) (SeqAt.canLay_of_shaped sd) (PyProof.Rows.room_in_shaped sd hu) ⟨.bl _, H, I, rfl, q⟩
  · obtain ⟨bs, r2⟩ := Dp.reads I (.tuple ds) y u he ry
    exact SeqAt.notIn_tuple_reads r2 r1 (SeqAt.canLay_of_shaped se) (SeqAt.canLay_of_shaped sd) (PyProof.Rows.room_in_shaped sd hu) ⟨.bl _, H, I, rfl, q⟩
theorem flat_dp {K : PySem.W.Frag} {H : Hp} {v : V} {d : D} (h : Dp K H v d) (f : flatD d = true) : flatV v = true := by
  cases h <;> first | rfl | cases f
theorem flat_dps {K : PySem.W.Frag} {H : Hp} : ∀ {vs : List V} {ds : List D}, DpAll K H vs ds → ds.all flatD = true → vs.all flatV = true
  | _, _, .nil, _ => rfl
  | _, _, .cons h hs, f => by
    simp only [List.all_cons, Bool.and_eq_true] at f ⊢
    exact ⟨flat_dp h f.1, flat_dps hs f.2⟩
theorem eqV_dp {K : PySem.W.Frag} {H : Hp} {v w : V} {d e : D} (h : Dp K H v d) (h' : Dp K H w e) (f : flatD d = true) (f' : flatD e = true) : eqV v w = PyData.eqv d e := by
  cases h with
  | lst _ _ => cases f
  | tup _ _ => cases f
  | non => cases h' <;> first | rfl | cases f'
  | bl b => cases h' <;> first | rfl | cases f'
  | int i => cases h' <;> first | rfl | cases f'
  | str x => cases h' <;> first | rfl | cases f'
theorem inV_dp {K : PySem.W.Frag} {H : Hp} {v : V} {d : D} (h : Dp K H v d) (f : flatD d = true) : ∀ {vs : List V} {ds : List D}, DpAll K H vs ds → ds.all flatD = true → inV v vs = memD d ds
  | _, _, .nil, _ => rfl
  | _, _, .cons h' hs, f' => by
    simp only [List.all_cons, Bool.and_eq_true] at f'
    have := inV_dp h f hs f'.2
    unfold inV memD at this ⊢
    rw [List.any_cons, List.any_cons, this, eqV_dp h' h f'.1 f]
theorem in_ok {K : PySem.W.Frag} (neg : Bool) : OpD K (rIn2 K neg) (gIn neg) := by
  intro P H x y d e z hP hx hy hz Q q
  unfold gIn at hz
  cases hs : seqOf e with
  | none => simp only [hs] at hz; cases hz
  | some ds =>
    simp only [hs] at hz
    split at hz
    · rename_i hk
      cases hz
      have hx' := dp_mono ex_hd hx
      have hy' := dp_mono ex_hd hy
      have hdl : (Dp K H y (.list ds) ∨ Dp K H y (.tuple ds)) := by
        cases e <;> first | (cases hs; exact .inl hy') | (cases hs; exact .inr hy') | cases hs
      unfold inOk at hk
      rw [Bool.or_eq_true] at hk
      rcases hk with hk | hk
      · rw [Bool.and_eq_true] at hk
        refine .inl ?_
        rcases hdl with k | k
        · obtain ⟨a, vs, rfl, h1, h2⟩ := dp_lst k
          refine ⟨a, vs, rfl, .inl h1, flat_dp hx' hk.1, flat_dps h2 hk.2, ?_⟩
          rw [inV_dp hx' hk.1 h2 hk.2]
          exact q _ H (.refl _) (.bl _)
        · obtain ⟨a, vs, rfl, h1, h2⟩ := dp_tup k
          refine ⟨a, vs, rfl, .inr h1, flat_dp hx' hk.1, flat_dps h2 hk.2, ?_⟩
          rw [inV_dp hx' hk.1 h2 hk.2]
          exact q _ H (.refl _) (.bl _)
      · rw [Bool.and_eq_true] at hk
        exact .inr ⟨d, ds, hx', hdl, hk.1, hk.2, q _ H (.refl _) (.bl _)⟩
    · cases hz
/-! ### items, slices -/
def gIx : D → D → Option D
  | .list xs, .int i => atI xs i
  | .tuple xs, .int i => atI xs i
  | _, _ => none
def rIx2 (K : PySem.W.Frag) : R2 := fun x y H Q => rIxL K x y H Q ∨ rIxT K x y H Q
theorem ix2 {X : Cx} : IxR X (rIx2 X.K) := ix_list.or ix_tup
theorem atI_dps {K : PySem.W.Frag} {H : Hp} {vs : List V} {ds : List D} {i : Int} {d : D} (h : DpAll K H vs ds) (e : atI ds i = some d) : ∃ v, atI vs i = some v ∧ Dp K H v d := by
  unfold atI at e ⊢
  rw [dps_len h]
  cases hx : ixN ds.length i with
  | none => rw [hx] at e; cases e
  | some j =>
    rw [hx] at e
    exact dps_get' h e
theorem ix_ok {K : PySem.W.Frag} : OpD K (rIx2 K) gIx := by
  intro P H x y d e z hP hx hy hz Q q
  unfold gIx at hz
  split at hz
  · obtain ⟨a, vs, rfl, h1, h2⟩ := dp_lst hx
    cases dp_int hy
    obtain ⟨v, k1, k2⟩ := atI_dps h2 hz
    exact .inl ⟨a, vs, _, v, rfl, rfl, ex_l ex_hd h1, k1, q _ H (.refl _) k2⟩
  · obtain ⟨a, vs, rfl, h1, h2⟩ := dp_tup hx
    cases dp_int hy
    obtain ⟨v, k1, k2⟩ := atI_dps h2 hz
    exact .inr ⟨a, vs, _, v, rfl, rfl, ex_t ex_hd h1, k1, q _ H (.refl _) k2⟩
  · cases hz
def cutD (xs : List D) (lo hi : Option Int) : List D := (xs.drop (HT.sIx xs.length 0 lo)).take (HT.sIx xs.length xs.length hi - HT.sIx xs.length 0 lo)
def gSl : D → Option Int → Option Int → Option D
  | .list xs, lo, hi => some (.list (cutD xs lo hi))
  | .tuple xs, lo, hi => some (.tuple (cutD xs lo hi))
  | _, _, _ => none
def rSl2 (K : PySem.W.Frag) : V → Option Int → Option Int → Hp → VK → Prop := fun x lo hi H Q => rSlL K x lo hi H Q ∨ rSlA K x lo hi H Q
theorem sl2 {X : Cx} : SlR X (rSl2 X.K) := SlR.or sl_list sl_tupA
theorem cut_dps {K : PySem.W.Frag} {H : Hp} {vs : List V} {ds : List D} {lo hi : Option Int} (h : DpAll K H vs ds) : DpAll K H (cutV vs lo hi) (cutD ds lo hi) := by
  unfold cutV cutD
  rw [dps_len h]
  exact dps_take _ (dps_drop _ h)
theorem sl_ok {K : PySem.W.Frag} : SlD K (rSl2 K) gSl := by
  intro P H x d z lo hi hP hx hz Q q
  unfold gSl at hz
  split at hz
  · cases hz
    obtain ⟨a, vs, rfl, h1, h2⟩ := dp_lst hx
    exact .inl ⟨a, vs, rfl, ex_l ex_hd h1, fun p hp => q _ _ (.new hp) (new_lst hP hp (cut_dps h2))⟩
  · rename_i xs
    cases hz
    obtain ⟨a, vs, rfl, h1, h2⟩ := dp_tup hx
    refine .inr ⟨a, vs, rfl, ex_t ex_hd h1, fun e => ?_, fun _ p hp => q _ _ (.new hp) (new_tup hP hp (cut_dps h2))⟩
    have hl := dps_len h2
    rw [hl] at e
    have : cutD xs lo hi = xs := by
      unfold cutD
      rw [e.1, e.2]
      simp
    rw [this] at q
    exact q _ H (.refl _) hx
  · cases hz
end DL

namespace DLs
open PySem PySem.Calls PyProof.Rows PySem.W
section
variable {prog : Program} {w : World} {A : Around} {E : Value → Shared → Prop} {s : Shared}
theorem collect_tup {l : Addr} {vs : List Value} {Q : List Value → Shared → Prop} (hl : s.heap.IsTuple l vs.toArray)
    (h : Q vs { s with heap := (s.heap.push (seqObj "list" #[] 0)).update s.heap.objs.size (Obj.mapSeq (· ++ vs.toArray)) }) (hsz : vs.length ≤ sizeLine) :
    wpAny (model prog w) A (collect (.ref l)) Q E s := by
  obtain ⟨o, ho, hc, n, hd⟩ := id hl
  unfold collect
  refine wpAny_bind (wpAny_runValue (codeAny_builtin entry_proto_collect' ?_))
  show wpAny _ _ (do again (.builtin "list.__iadd__" ⟨[← newList [], .ref l], []⟩)) _ _ s
  refine wpAny_bind (wpAny_newList (wpAny_pure ⟨Code.quiet_builtin _ (by decide +kernel), codeAny_builtin entry_list_iadd' ?_⟩))
  show wpAny _ _ (Builtin.List.listExtendWith (.ref s.heap.objs.size) (.ref l) (.ref s.heap.objs.size)) _ _ { s with heap := s.heap.push (seqObj "list" #[] 0) }
  unfold Builtin.List.listExtendWith
  have ho' : (s.heap.push (seqObj "list" #[] 0)).get? l = some o := Heap.get?_push_of_some _ ho
  refine wpAny_bind (wpAny_typeOf (T := "tuple") ⟨o, ho', hc⟩ ?_)
  have ht : (Value.type "tuple" == Value.type "tuple") = true := by rfl
  rw [if_pos (by rw [ht]; simp)]
  refine wpAny_bind (listItems_at ho' hd ?_)
  refine wpAny_bind (listItems_at (xs := #[]) (n := 0) (Heap.get?_push_size _ rfl) rfl ?_)
  rw [if_neg (by simp)]
  refine wpAny_bind (listUpdate_at (xs := #[]) (n := 0) (Heap.get?_push_size _ rfl) rfl ?_ (Nat.zero_le _) (by show (#[] ++ vs.toArray).size ≤ sizeLine + 1; simp only [Array.size_append, List.size_toArray, List.length_nil]; omega))
  refine wpAny_pure ?_
  show wpAny (model prog w) A (do
      let o ← load s.heap.objs.size
      match o.data with
      | .seq xs _ => pure xs.toList
      | _ => unsupported "internal:collect") Q E { s with heap := (s.heap.push (seqObj "list" #[] 0)).update s.heap.objs.size (Obj.mapSeq (· ++ vs.toArray)) }
  refine wpAny_bind (wpAny_load (get?_update_seq (Heap.get?_push_size _ rfl) _) ?_)
  show wpAny _ _ (pure ((#[] : Array Value) ++ vs.toArray).toList) Q E _
  rw [show ((#[] : Array Value) ++ vs.toArray).toList = vs by simp]
  exact wpAny_pure h
theorem sorted_of_sortT {l : Addr} {vs : List Value} {kw : List (Str × Value)} {Q : Value → Shared → Prop} (hl : s.heap.IsTuple l vs.toArray) (hL : vs.length ≤ sizeLine) (ha1 : argsOk "sorted" ⟨[.ref l], kw⟩) (ha2 : ∀ x, argsOk "list.sort" ⟨[.ref x], kw⟩)
    (body : ∀ E' : Value → Shared → Prop, wpAny (model prog w) A.in1.in1 (Builtin.«list.sort» ⟨[.ref (s.heap.objs.size + 1)], kw⟩) (fun f s' => f = .done (.ret .none) ∧ Q (.ref (s.heap.objs.size + 1)) s') E' { s with heap := copyHeap s.heap vs }) :
    wpAny (model prog w) A (call (.builtin "sorted") [.ref l] kw) Q E s := by
  refine call_function_entry_kw kind_sorted plain_sorted entry_sorted ha1 ?_
  unfold Builtin.«sorted»
  refine wpAny_bind (m := checkCount "sorted" 1 1 _) (wpAny_pure ?_)
  refine wpAny_bind (collect_tup hl ?_ hL)
  refine wpAny_bind (wpAny_newList ?_ hL)
  have hsz : ((s.heap.push (seqObj "list" #[] 0)).update s.heap.objs.size (Obj.mapSeq (· ++ vs.toArray))).objs.size = s.heap.objs.size + 1 := by
    rw [Heap.size_update, size_push']
  show wpAny _ _ _ _ _ { s with heap := copyHeap s.heap vs }
  rw [hsz]
  refine wpAny_bind (wpAny_holding (wpAny_call_entry_kw slot_list_sort ⟨_, copyHeap_at s.heap vs, rfl⟩ entry_list_sort ?body (ha2 _)))
  case body =>
    show wpAny (model prog w) A.in1.in1 (Builtin.«list.sort» ⟨[.ref (s.heap.objs.size + 1)], kw⟩) _ _ _
    refine wpAny_mono (body _) (fun f s' hf => ?_) fun _ _ e => e
    obtain ⟨rfl, hq⟩ := hf
    exact ⟨_, rfl, wpAny_pure ⟨_, rfl, hq⟩⟩
variable {β : Type} {vs : List Value} {bs : List β} {enc : β → PyData} {R : Value → β → Prop}
theorem sorted_dataT {l : Addr} {Q : Value → Shared → Prop} (hl : s.heap.IsTuple l vs.toArray) (e : EachIs R vs bs) (er : EachIs (fun v b => ∃ as, Reads s.heap v (enc b) as) vs bs) (hal : AllAlike (bs.map enc)) (hk : Sortable (bs.map enc)) (hL : bs.length ≤ sizeLine)
    (hu : ∀ b, b ∈ bs → A.units + 2 + (enc b).depth < cLine) (h : ∀ out, out.length = bs.length → EachIs R out (bs.mergeSort (dataLe false enc)) → Q (.ref (s.heap.objs.size + 1)) { s with heap := sortedAll s.heap vs (List.toArray out) }) :
    wpAny (model prog w) A (call (.builtin "sorted") [.ref l]) Q E s := by
  have er' : EachIs (fun v b => ∃ as, Reads (sortingHeap (copyHeap s.heap vs) (s.heap.objs.size + 1) vs) v (enc b) as) vs bs := er.mono fun _ _ ⟨as, r⟩ => ⟨as, PyProof.Rows.Reads.keeps (fun _ _ => sorting_copy_old) r⟩
  have S := SortsAt.data (prog := prog) (w := w) (A := A.in1.in1) (s := { s with heap := sortingHeap (copyHeap s.heap vs) (s.heap.objs.size + 1) vs }) (each_map (R := fun v d => ∃ as, Reads (sortingHeap (copyHeap s.heap vs) (s.heap.objs.size + 1) vs) v d as) enc er') hal hk (bound_map hu)
  have hL' : vs.length ≤ sizeLine := by rw [e.length]; exact hL
  exact sorted_of_sortT hl hL' (args_sorted1 _) (fun _ => args_list_sort _) fun _ => list_sort_vals (s := { s with heap := copyHeap s.heap vs }) (copyHeap_at s.heap vs) S hL'
    ⟨rfl, h _ (by rw [sortVals_length false rfl]; exact e.length) (sortVals_data false e er' hal)⟩
end
end DLs

namespace DL
open PySem PySem.Spec L2
/-! ### sorted -/
/-- the order of alike data, as a function to sort by -/
def leD (a b : D) : Bool := !PySem.W.dataLt b a
def allAlike (ds : List D) : Bool := ds.all fun d => ds.all fun d' => PySem.W.alike d d'
def headed : D → Bool
  | .tuple (_ :: _) => true
  | _ => false
def bare : D → Bool
  | .none => false
  | .tuple _ => false
  | _ => true
def sortable (ds : List D) : Bool := allAlike ds && (ds.all headed || ds.all bare) && ds.all (fun d => decide (d.depth ≤ 100)) && decide (ds.length ≤ big)
def sortD (ds : List D) : List D := ds.mergeSort leD
def gSorted : List D → Option S
  | [d] => match seqOf d with
    | some ds => if sortable ds = true then some (.dat (.list (sortD ds))) else none
    | none => none
  | _ => none
theorem dataLe_id : PySem.W.dataLe false (id : D → D) = leD := by
  rw [PySem.W.dataLe_eq]
  rfl
theorem allAlike_ok {ds : List D} (h : allAlike ds = true) : PySem.W.AllAlike (ds.map id) := by
  intro d hd d' hd'
  rw [List.map_id] at hd hd'
  have h1 := List.all_eq_true.mp h d hd
  exact List.all_eq_true.mp h1 d' hd'
theorem sortable_ok {ds : List D} (h : (ds.all headed || ds.all bare) = true) : PySem.W.Sortable (ds.map id) := by
  rw [List.map_id]
  rw [Bool.or_eq_true] at h
  rcases h with h | h
  · refine .inl fun d hd => ?_
    have := List.all_eq_true.mp h d hd
    unfold headed at this
    split at this
    · exact ⟨_, _, rfl⟩
    · cases this
  · refine .inr fun d hd => ?_
    have := List.all_eq_true.mp h d hd
    unfold bare at this
    split at this
    · cases this
    · cases this
    · rename_i h1 h2
      exact ⟨h1, h2⟩
/-- what a value of the list stands for -/
def RD (K : PySem.W.Frag) (G : Hp) (v : Value) (d : D) : Prop := ∃ x, RelV x v ∧ Dp K G x d
theorem each_RD {K : PySem.W.Frag} {G : Hp} : ∀ {xs : List V} {us : List Value} {ds : List D}, Vals xs us → DpAll K G xs ds → PySem.W.EachIs (RD K G) us ds
  | _, _, _, .nil, .nil => .nil
  | _, _, _, .cons r rs, .cons h hs => .cons ⟨_, r, h⟩ (each_RD rs hs)
theorem each_back {K : PySem.W.Frag} {G : Hp} : ∀ {us : List Value} {ds : List D}, PySem.W.EachIs (RD K G) us ds → ∃ xs, Vals xs us ∧ DpAll K G xs ds
  | _, _, .nil => ⟨[], .nil, .nil⟩
  | _, _, .cons ⟨x, r, h⟩ t => by
    obtain ⟨xs, h1, h2⟩ := each_back t
    exact ⟨x :: xs, .cons r h1, .cons h h2⟩
def rSortedD (K : PySem.W.Frag) : List V → Hp → VK → Prop := fun xs H Q => ∃ (P : Addr → Prop) (x : V) (ds : List D), xs = [x] ∧ (Dp K (hd P H) x (.list ds) ∨ Dp K (hd P H) x (.tuple ds)) ∧ sortable ds = true ∧
  ∀ p vs, H p = none → DpAll K (hd P H) vs (sortD ds) → Q (.ref p) (upd H p (.lst vs))
theorem cr_sortedD {X : Cx} (hu : X.A.units + 110 < cLine) : CallR X (.builtin "sorted") (rSortedD X.K) := by
  intro pins s σ H xs us Q I r h
  obtain ⟨P, x, ds, rfl, hx, hs, q⟩ := h
  unfold sortable at hs
  simp only [Bool.and_eq_true] at hs
  obtain ⟨⟨⟨h1, h2⟩, h3⟩, h4⟩ := hs
  have h4 : ds.length ≤ big := of_decide_eq_true h4
  obtain ⟨u, rfl, rx⟩ := vals1 r
  -- what is common to lists and tuples
  have fin : ∀ (vs : List Value) (out : List Value), out.length = ds.length → PySem.W.EachIs (RD X.K (hd P H)) out (ds.mergeSort (PySem.W.dataLe false id)) → EP X pins σ Q (.ref (s.heap.objs.size + 1)) { s with heap := PyProof.Rows.sortedAll s.heap vs out.toArray } := by
    intro vs out ho eo
    rw [dataLe_id] at eo
    obtain ⟨ws, k1, k2⟩ := each_back eo
    obtain ⟨c, hc⟩ := PyProof.Rows.sortedAll_at s.heap vs out.toArray
    have hz : ws.length ≤ sizeLine := by rw [k1.length, ho]; exact big_line h4
    exact ⟨.ref (s.heap.objs.size + 1), _, I.laid (t' := s.toks) (a := s.heap.objs.size + 1) (o := .lst ws) (fun b o e => PyProof.Rows.sortedAll_old e) (Nat.le_succ _) ⟨hz, out, c, k1, hc⟩, rfl, q _ ws (I.hok.fresh (Nat.le_succ _)) k2⟩
  have hud : ∀ b, b ∈ ds → X.A.units + 2 + (id b : D).depth < cLine := fun b hb => by
    have := of_decide_eq_true (List.all_eq_true.mp h3 b hb)
    show X.A.units + 2 + b.depth < cLine
    omega
  have reads : ∀ {a : Addr} {xs : List V} {its : List Value}, Vals xs its → DpAll X.K (hd P H) xs ds → PySem.W.EachIs (fun v b => ∃ as, Reads s.heap v (id b) as) its ds := fun rv k => by
    obtain ⟨as, ra⟩ := Dp.readsAll I ds _ _ (dps_mono ex_hd k) rv
    exact PySem.W.readsAll_each id (by rw [List.map_id]; exact ra)
  rcases hx with hx | hx
  · obtain ⟨a, xs, rfl, k1, k2⟩ := dp_lst hx
    cases rx
    obtain ⟨its, rv, pl, hz⟩ := I.list (ex_l ex_hd k1)
    exact PySem.W.sorted_data (enc := id) (R := RD X.K (hd P H)) pl.isList (each_RD rv k2) (reads (a := a) rv k2) (allAlike_ok h1) (sortable_ok h2) (big_line h4) hud (fin its)
  · obtain ⟨a, xs, rfl, k1, k2⟩ := dp_tup hx
    cases rx
    obtain ⟨its, rv, pl, hz⟩ := I.tuple (ex_t ex_hd k1)
    exact DLs.sorted_dataT (enc := id) (R := RD X.K (hd P H)) (show s.heap.IsTuple a its.toArray from pl) (each_RD rv k2) (reads (a := a) rv k2) (allAlike_ok h1) (sortable_ok h2) (big_line h4) hud (fin its)
theorem sorted_ok {K : PySem.W.Frag} : CallD K (rSortedD K) gSorted := by
  intro P H vs ds z hP hx hz Q q
  unfold gSorted at hz
  split at hz
  · rename_i d
    cases hs : seqOf d with
    | none => simp only [hs] at hz; cases hz
    | some es =>
      simp only [hs] at hz
      split at hz
      · rename_i hk
        cases hz
        cases hx with
        | cons h1 h2 =>
          cases h2
          refine ⟨P, _, es, rfl, ?_, hk, fun p vs hp k => q _ _ (.new hp) (vok_lst hP hp k)⟩
          cases d <;> first | (cases hs; exact .inl h1) | (cases hs; exact .inr h1) | cases hs
      · cases hz
  · cases hz
end DL

namespace DL
open PySem PySem.Spec L2

/-! ### isinstance(x, T) -/
def tyName : D → String
  | .none => "NoneType"
  | .bool _ => "bool"
  | .int _ => "int"
  | .str _ => "str"
  | .list _ => "list"
  | .tuple _ => "tuple"
  | .dict _ => "dict"
def isiT (T : String) (d : D) : Bool := tyName d == T || (T == "int" && tyName d == "bool")
def gIsi (T : String) (d : D) : Option D := some (.bool (isiT T d))
theorem tyx_dp {K : PySem.W.Frag} {H : Hp} {v : V} {d : D} (h : Dp K H v d) : TyX K H v (.type (tyName d)) := by
  cases h with
  | non => exact .base .non
  | bl b => exact .base (.bl b)
  | int i => exact .base (.int i)
  | str x => exact .base (.str x)
  | lst h _ =>
    rcases h with (h | ⟨o, h⟩) | ⟨o, its, n, h, c, _⟩
    · exact .base (.lst h)
    · exact .base (.frz h)
    · exact .kList h c
  | tup h _ =>
    rcases h with (h | ⟨o, h⟩) | ⟨o, its, n, h, c, _⟩
    · exact .base (.tup h)
    · exact .fTuple h
    · exact .kTuple h c
def kitsOk (T : String) : Bool := ["NoneType", "bool", "int", "str", "list", "tuple"].all fun n => kitB n T == some (n == T || (T == "int" && n == "bool"))
theorem kits_int : kitsOk "int" = true := by decide +kernel
theorem kits_bool : kitsOk "bool" = true := by decide +kernel
theorem kits_str : kitsOk "str" = true := by decide +kernel
theorem kits_list : kitsOk "list" = true := by decide +kernel
theorem kits_tuple : kitsOk "tuple" = true := by decide +kernel
theorem kit_dp {K : PySem.W.Frag} {H : Hp} {v : V} {d : D} {T : String} (hk : kitsOk T = true) (h : Dp K H v d) : PySem.W.kitOne K (.type (tyName d)) (.type T) = some (isiT T d) := by
  refine kit_ty ?_
  have all := List.all_eq_true.mp hk
  have go : ∀ n, n ∈ ["NoneType", "bool", "int", "str", "list", "tuple"] → kitB n T = some (n == T || (T == "int" && n == "bool")) := fun n hn => by simpa using all n hn
  cases h <;> exact go _ (by simp [tyName])
section
variable {X : Cx} {E : XK} {e : Expr} {fe : EM}
theorem pd_isi {T : String} {Tn : Str} {p p2 pos : Pos} (hk : kitsOk T = true) (hg : Gl X "isinstance") (hm : X.mg "isinstance" = none) (hgT : Gl X Tn) (hmT : X.mg Tn = none) (hT : bootBuiltins Tn = some (.type T)) (he : PD X E e fe)
    (hnT : Tn ≠ "__name__" := by decide) (hdT : (Tn == ("__debug__" : Str)) = false := by decide)
    (hs : starEach (.Name Tn p2 :: []) X.env = (false, eval (.Name Tn p2) X.env) :: starEach [] X.env := by rfl)
    (hse : starEach [e, .Name Tn p2] X.env = (false, eval e X.env) :: starEach [.Name Tn p2] X.env := by rfl) (hpl : (backTo pos (starEach [.Name Tn p2] X.env)).any (·.1) = false := by rfl)
    (hb : bootBuiltins ("isinstance" : Str) = some (.builtin "isinstance") := by decide +kernel) :
    PD X E (.Call (.Name "isinstance" p) [e, .Name Tn p2] [] pos) (op1 (gIsi T) fe) := by
  refine PE.imp (pe_callB call_isi hg hm hb (pa_cons he (pa_cons (pe_bltn hgT hmT hT (v := .ty T) rfl hnT hdT) pa_nil hs) hse) (he := hse) (hpl := hpl)) fun σ H Q h => ?_
  obtain ⟨P, o, ρ, res, a, e', p⟩ := h
  refine tE_mono (fun x H1 h => ?_) (bindD_go a .refl e' p)
  obtain ⟨ρ1, d, c1, c2, a1, dx, e'⟩ := h
  obtain ⟨z, hz, rfl⟩ := optD_some e'
  cases hz
  exact ⟨x, .ty T, .type (tyName d), .type T, isiT T d, rfl, .ty T, tyx_dp (dp_mono ex_hd dx), kit_dp hk dx, p (.bl _) H1 c1 ⟨a1, .bl _⟩⟩
end
/-! ### built-ins of data -/
def gLen : List D → Option S
  | [.list xs] => some (.dat (.int xs.length))
  | [.tuple xs] => some (.dat (.int xs.length))
  | [.str x] => if x.length ≤ big then some (.dat (.int x.length)) else none
  | _ => none
def rLen2 (K : PySem.W.Frag) : List V → Hp → VK → Prop := fun xs H Q => (∃ p ys, xs = [.ref p] ∧ (SqL K H p ys ∨ SqT K H p ys) ∧ Q (.int ys.length) H) ∨ ∃ z, xs = [.str z] ∧ z.length ≤ sizeLine ∧ Q (.int z.length) H
theorem cr_len2 {X : Cx} : CallR X (.builtin "len") (rLen2 X.K) := CallR.or call_len_seq call_len_str
theorem len_ok {K : PySem.W.Frag} : CallD K (rLen2 K) gLen := by
  intro P H vs ds z hP hx hz Q q
  unfold gLen at hz
  split at hz
  · cases hz
    cases hx with
    | cons h1 h2 =>
      cases h2
      obtain ⟨a, ws, rfl, k1, k2⟩ := dp_lst h1
      refine .inl ⟨a, ws, rfl, .inl (ex_l ex_hd k1), ?_⟩
      rw [dps_len k2]
      exact q _ H (.refl _) (.int _)
  · cases hz
    cases hx with
    | cons h1 h2 =>
      cases h2
      obtain ⟨a, ws, rfl, k1, k2⟩ := dp_tup h1
      refine .inl ⟨a, ws, rfl, .inr (ex_t ex_hd k1), ?_⟩
      rw [dps_len k2]
      exact q _ H (.refl _) (.int _)
  · split at hz
    · rename_i hl
      cases hz
      cases hx with
      | cons h1 h2 =>
        cases h2
        cases dp_str h1
        exact .inr ⟨_, rfl, big_line hl, q _ H (.refl _) (.int _)⟩
    · cases hz
  · cases hz
def boolsOf : List D → Option (List Bool)
  | [] => some []
  | .bool b :: r => (boolsOf r).map (b :: ·)
  | _ :: _ => none
theorem bools_dps {K : PySem.W.Frag} {H : Hp} : ∀ {vs : List V} {ds : List D} {bs : List Bool}, DpAll K H vs ds → boolsOf ds = some bs → vs = bs.map V.bl
  | _, _, _, .nil, e => by cases e; rfl
  | _, _, _, .cons (ds := ds) h hs, e => by
    unfold boolsOf at e
    split at e
    · cases e
      rename_i hh
      cases hh
    · rename_i b r hh
      cases hh
      cases hb : boolsOf ds with
      | none => rw [hb] at e; cases e
      | some bs =>
        rw [hb] at e
        cases e
        rw [dp_bl h, bools_dps hs hb]
        rfl
    · cases e
def gAll : List D → Option S
  | [.list xs] => (boolsOf xs).map fun bs => .dat (.bool (bs.all id))
  | _ => none
def gAny : List D → Option S
  | [.list xs] => (boolsOf xs).map fun bs => .dat (.bool (bs.any id))
  | _ => none
theorem all_ok {K : PySem.W.Frag} : CallD K (rAll K) gAll := by
  intro P H vs ds z hP hx hz Q q
  unfold gAll at hz
  split at hz
  · rename_i xs
    cases hb : boolsOf xs with
    | none => rw [hb] at hz; cases hz
    | some bs =>
      rw [hb] at hz
      cases hz
      cases hx with
      | cons h1 h2 =>
        cases h2
        obtain ⟨a, ws, rfl, k1, k2⟩ := dp_lst h1
        have e := bools_dps k2 hb
        subst e
        exact ⟨a, bs, rfl, ex_l ex_hd k1, q _ H (.refl _) (.bl _)⟩
  · cases hz
theorem any_ok {K : PySem.W.Frag} : CallD K (rAny K) gAny := by
  intro P H vs ds z hP hx hz Q q
  unfold gAny at hz
  split at hz
  · rename_i xs
    cases hb : boolsOf xs with
    | none => rw [hb] at hz; cases hz
    | some bs =>
      rw [hb] at hz
      cases hz
      cases hx with
      | cons h1 h2 =>
        cases h2
        obtain ⟨a, ws, rfl, k1, k2⟩ := dp_lst h1
        have e := bools_dps k2 hb
        subst e
        exact ⟨a, bs, rfl, ex_l ex_hd k1, q _ H (.refl _) (.bl _)⟩
  · cases hz
/-- list(..), tuple(..) of a list, a tuple -/
def gList : List D → Option S
  | [d] => (seqOf d).map fun xs => .dat (.list xs)
  | _ => none
def gListO : List D → Option S
  | [d] => (seqOf d).map fun xs => .own xs
  | _ => none
def gTuple : List D → Option S
  | [d] => (seqOf d).map fun xs => .dat (.tuple xs)
  | _ => none
abbrev rListOf (K : PySem.W.Frag) : List V → Hp → VK → Prop := fun xs H Q => ∃ p ys, xs = [.ref p] ∧ (SqL K H p ys ∨ SqT K H p ys) ∧ ∀ l, H l = none → Q (.ref l) (upd H l (.lst ys))
abbrev rTupOf (K : PySem.W.Frag) : List V → Hp → VK → Prop := fun xs H Q => ∃ p ys, xs = [.ref p] ∧ ((SqL K H p ys ∧ ∀ l, H l = none → Q (.ref l) (upd H l (.tup ys))) ∨ (SqT K H p ys ∧ Q (.ref p) H))
theorem seq_dp {K : PySem.W.Frag} {H : Hp} {v : V} {d : D} {xs : List D} (h : Dp K H v d) (e : seqOf d = some xs) : ∃ a vs, v = .ref a ∧ (SqL K H a vs ∨ SqT K H a vs) ∧ DpAll K H vs xs := by
  cases h <;> first | (cases e; exact ⟨_, _, rfl, .inl (by assumption), by assumption⟩) | (cases e; exact ⟨_, _, rfl, .inr (by assumption), by assumption⟩) | cases e
theorem list_ok {K : PySem.W.Frag} : CallD K (rListOf K) gList := by
  intro P H vs ds z hP hx hz Q q
  unfold gList at hz
  split at hz
  · rename_i d
    cases hs : seqOf d with
    | none => rw [hs] at hz; cases hz
    | some xs =>
      rw [hs] at hz
      cases hz
      cases hx with
      | cons h1 h2 =>
        cases h2
        obtain ⟨a, ws, rfl, k1, k2⟩ := seq_dp h1 hs
        exact ⟨a, ws, rfl, k1.elim (fun k => .inl (ex_l ex_hd k)) fun k => .inr (ex_t ex_hd k), fun l hl => q _ _ (.new hl) (vok_lst hP hl k2)⟩
  · cases hz
theorem listO_ok {K : PySem.W.Frag} : CallD K (rListOf K) gListO := by
  intro P H vs ds z hP hx hz Q q
  unfold gListO at hz
  split at hz
  · rename_i d
    cases hs : seqOf d with
    | none => rw [hs] at hz; cases hz
    | some xs =>
      rw [hs] at hz
      cases hz
      cases hx with
      | cons h1 h2 =>
        cases h2
        obtain ⟨a, ws, rfl, k1, k2⟩ := seq_dp h1 hs
        exact ⟨a, ws, rfl, k1.elim (fun k => .inl (ex_l ex_hd k)) fun k => .inr (ex_t ex_hd k), fun l hl => q _ _ (.new hl) (vok_own hl k2)⟩
  · cases hz
theorem tuple_ok {K : PySem.W.Frag} : CallD K (rTupOf K) gTuple := by
  intro P H vs ds z hP hx hz Q q
  unfold gTuple at hz
  split at hz
  · rename_i d
    cases hs : seqOf d with
    | none => rw [hs] at hz; cases hz
    | some xs =>
      rw [hs] at hz
      cases hz
      cases hx with
      | cons h1 h2 =>
        cases h2
        cases h1 with
        | @lst a ws xs' k1 k2 =>
          cases hs
          exact ⟨a, ws, rfl, .inl ⟨ex_l ex_hd k1, fun l hl => q _ _ (.new hl) (vok_tup hP hl k2)⟩⟩
        | @tup a ws xs' k1 k2 =>
          cases hs
          exact ⟨a, ws, rfl, .inr ⟨ex_t ex_hd k1, q _ H (.refl _) (.tup k1 k2)⟩⟩
        | _ => cases hs
  · cases hz
/-- int(..) of an int, of a bool -/
def gInt : List D → Option S
  | [.int i] => some (.dat (.int i))
  | [.bool b] => some (.dat (.int (if b then 1 else 0)))
  | _ => none
abbrev rInt1 : List V → Hp → VK → Prop := fun xs H Q => (∃ i, xs = [.int i] ∧ Q (.int i) H) ∨ ∃ k, xs = [.bl k] ∧ Q (.int (if k then 1 else 0)) H
theorem int_ok {K : PySem.W.Frag} : CallD K rInt1 gInt := by
  intro P H vs ds z hP hx hz Q q
  unfold gInt at hz
  split at hz
  · cases hz
    cases hx with
    | cons h1 h2 =>
      cases h2
      cases dp_int h1
      exact .inl ⟨_, rfl, q _ H (.refl _) (.int _)⟩
  · cases hz
    cases hx with
    | cons h1 h2 =>
      cases h2
      cases dp_bl h1
      exact .inr ⟨_, rfl, q _ H (.refl _) (.int _)⟩
  · cases hz
end DL

namespace DL
open PySem PySem.Spec L2

/-! ### own lists: items, length, stores -/
def mOix (i : Nat) (f : EM) : EM := fun ρ => match ρ[i]? with
  | some (some (.own _)) => bindD f (fun d ρ1 => match d with
    | .int k => (match ρ1[i]? with
      | some (some (.own xs)) => optD (atI xs k) ρ1
      | _ => none)
    | _ => none) ρ
  | _ => none
def mOlen (i : Nat) : EM := fun ρ => match ρ[i]? with
  | some (some (.own xs)) => some (.ok (.dat (.int xs.length)), ρ)
  | _ => none
def setO (i : Nat) (fv fi : EM) : SM := bindS fv fun s ρ => match s.toD, ρ[i]? with
  | some d, some (some (.own _)) => bindS fi (fun t ρ1 => match t, ρ1[i]? with
    | .dat (.int k), some (some (.own xs)) => (match ixN xs.length k with
      | some j => some (.nx (ρ1.set i (some (.own (xs.set j d)))))
      | none => none)
    | _, _ => none) ρ
  | _, _ => none
def appO (i : Nat) (f : EM) : SM := fun ρ => match ρ[i]? with
  | some (some (.own _)) => bindS f (fun s ρ1 => match s.toD, ρ1[i]? with
    | some d, some (some (.own xs)) => if xs.length < big then some (.nx (ρ1.set i (some (.own (xs ++ [d]))))) else none
    | _, _ => none) ρ
  | _ => none
def iaddO (i : Nat) (f : EM) : SM := fun ρ => match ρ[i]? with
  | some (some (.own _)) => bindS f (fun s ρ1 => match s, ρ1[i]? with
    | .own zs, some (some (.own xs)) => if xs.length + zs.length ≤ big then some (.nx (ρ1.set i (some (.own (xs ++ zs))))) else none
    | _, _ => none) ρ
  | _ => none
section
variable {K : PySem.W.Frag} {P : Addr → Prop} {o : Ow} {ρ : Env} {σ : St} {H : Hp} {i : Nat} {a : Addr} {xs ys : List D} {ws : List V}
theorem At.ownAt (h : At K P o ρ σ H) (e : ρ[i]? = some (some (.own xs))) : ∃ a vs, o i = some a ∧ σ[i]? = some (some (V.ref a)) ∧ H a = some (.lst vs) ∧ DpAll K (hd (hid P o) H) vs xs := by
  obtain ⟨a, ho⟩ := h.ow i _ e rfl
  obtain ⟨s, h1, h2, h3⟩ := h.has i a ho
  rw [e] at h1
  cases h1
  obtain ⟨vs, h4, h5⟩ := h3
  exact ⟨a, vs, ho, h2, h4, h5⟩
/-- an own list is written -/
theorem At.putOwn (h : At K P o ρ σ H) (ho : o i = some a) (k : DpAll K (hd (hid P o) H) ws ys) : At K P o (ρ.set i (some (.own ys))) σ (upd H a (.lst ws)) := by
  have eh : hd (hid P o) (upd H a (.lst ws)) = hd (hid P o) H := by
    funext b
    unfold hd
    split
    · rfl
    · rename_i hne
      exact upd_ne fun z => hne (by rw [z]; exact .inr ⟨i, ho⟩)
  obtain ⟨s0, q1, q2, q3⟩ := h.has i a ho
  have hi : i < ρ.length := (List.getElem?_eq_some_iff.mp q1).1
  refine ⟨by simp [h.len], fun b z => ?_, h.inj, h.dis, fun j b q => ?_, fun j d q => ?_, fun j s q hs => ?_⟩
  · by_cases hb : b = a
    · subst hb; exact ⟨_, upd_same⟩
    · obtain ⟨u, z⟩ := h.dom b z
      exact ⟨u, by rw [upd_ne hb]; exact z⟩
  · rw [eh]
    by_cases hj : j = i
    · subst hj
      rw [ho] at q
      cases q
      exact ⟨.own ys, List.getElem?_set_self hi, q2, ws, upd_same, k⟩
    · obtain ⟨s, h1, h2, h3⟩ := h.has j b q
      have hb : b ≠ a := fun z => hj (h.inj j i a (by rw [← z]; exact q) ho)
      exact ⟨s, by rw [List.getElem?_set_ne (Ne.symm hj)]; exact h1, h2, h3.imp (Ex.refl _) fun u z => by rw [upd_ne hb]; exact z⟩
  · rw [eh]
    by_cases hj : j = i
    · subst hj
      rw [List.getElem?_set_self hi] at q
      cases q
    · rw [List.getElem?_set_ne (Ne.symm hj)] at q
      exact h.dat j d q
  · by_cases hj : j = i
    · subst hj; exact ⟨a, ho⟩
    · rw [List.getElem?_set_ne (Ne.symm hj)] at q
      exact h.ow j s q hs
theorem chgS_put {np : Nat} {u u' : HO} (ho : o i = some a) (h : H a = some u') : ChgS np o o H (upd H a u) := by
  refine ⟨fun b w q n => ?_, fun b w q => ?_, fun _ z => .inl z, fun _ _ _ z => z⟩
  · rw [upd_ne fun z => n (by rw [z]; exact ⟨i, ho⟩)]
    exact q
  · by_cases hb : b = a
    · subst hb; exact ⟨_, upd_same⟩
    · exact ⟨w, by rw [upd_ne hb]; exact q⟩
end
section
variable {X : Cx} {E : XK} {np i : Nat} {x : Str} {e ei : Expr} {fe fi : EM} {pos p : Pos}
theorem pd_oix (hN : X.N[i]? = some x) (hv : Vis X.env.scope x) (he : PD X E ei fi) (hs : PlainIx ei) (hd : (x == ("__debug__" : Str)) = false := by decide) (hcd : (x == ("__classdict__" : Str)) = false := by decide) : PD X E (.Subscript (.Name x p) ei pos) (mOix i fi) := by
  refine PE.imp (pe_ix ix_list (pe_var hN hv hd hcd) he hs) fun σ H Q h => ?_
  obtain ⟨P, o, ρ, res, a, e, q⟩ := h
  unfold mOix at e
  split at e
  · rename_i xs0 h0
    obtain ⟨ad, vs0, ho, hσ, _, _⟩ := a.ownAt h0
    refine ⟨.ref ad, hσ, tE_mono (fun y H1 h => ?_) (bindD_go a .refl e q)⟩
    obtain ⟨ρ1, d, c1, c2, a1, dy, e⟩ := h
    split at e
    · rename_i k
      split at e
      · rename_i xs h1
        obtain ⟨z, hz, rfl⟩ := optD_some e
        cases dp_int dy
        obtain ⟨ad', vs, ho', _, hH, hk⟩ := a1.ownAt h1
        rw [ho] at ho'
        cases ho'
        obtain ⟨v, k1, k2⟩ := atI_dps hk hz
        exact ⟨ad, vs, k, v, rfl, rfl, SqL.of hH, k1, q v H1 c1 ⟨a1, k2⟩⟩
      · cases e
    · cases e
  · cases e
theorem pd_olen {x2 : Str} {p2 : Pos} (hN : X.N[i]? = some x) (hv : Vis X.env.scope x) (hg : Gl X "len") (hm : X.mg "len" = none)
    (he : starEach [.Name x p] X.env = (false, eval (.Name x p) X.env) :: starEach [] X.env := by rfl) (hpl : (backTo pos (starEach [] X.env)).any (·.1) = false := by rfl) (hd : (x == ("__debug__" : Str)) = false := by decide) (hcd : (x == ("__classdict__" : Str)) = false := by decide)
    (hb : bootBuiltins ("len" : Str) = some (.builtin "len") := by decide +kernel) : PD X E (.Call (.Name "len" p2) [.Name x p] [] pos) (mOlen i) := by
  refine PE.imp (pe_callB call_len_seq hg hm hb (pa_cons (pe_var hN hv hd hcd) pa_nil he) (he := he) (hpl := hpl)) fun σ H Q h => ?_
  obtain ⟨P, o, ρ, res, a, e, q⟩ := h
  unfold mOlen at e
  split at e
  · rename_i xs h0
    cases e
    obtain ⟨ad, vs, ho, hσ, hH, hk⟩ := a.ownAt h0
    refine ⟨.ref ad, hσ, ad, vs, rfl, .inl (SqL.of hH), ?_⟩
    rw [dps_len hk]
    exact q _ H .refl ⟨a, .int _⟩
  · cases e
theorem pds_oset {pos' : Pos} (hN : X.N[i]? = some x) (hv : Vis X.env.scope x) (he : PD X E e fe) (hi : PD X E ei fi)
    (hs : swapsWithSole [.Subscript (.Name x p) ei pos'] e pos.line X.env = pure false := by rfl) (hw : swappedStores [.Subscript (.Name x p) ei pos'] e X.env = pure none := by rfl)
    (h1 : (assignEach [.Subscript (.Name x p) ei pos'] X.env).map (·.2) = [assign (.Subscript (.Name x p) ei pos') X.env] := by rfl)
    (ha : ∀ v, assign (.Subscript (.Name x p) ei pos') X.env v = (do
      let ov ← holding [v] (eval (.Name x p) X.env)
      let iv ← holding [v, ov] (eval ei X.env)
      standAt pos'
      holding [v, ov, iv] (setItem ov iv v)
      release [v, ov, iv] []) := by intro _; rfl) (hd : (x == ("__debug__" : Str)) = false := by decide) (hcd : (x == ("__classdict__" : Str)) = false := by decide) :
    PDS X E np (.Assign [.Subscript (.Name x p) ei pos'] e pos) (setO i fe fi) := by
  refine PS.imp (ps_asg he (pg_sub (pe_var hN hv hd hcd) hi set_list ha) hs hw h1) fun D σ H h => ?_
  obtain ⟨P, o, ρ, fl, a, e, q⟩ := h
  refine tE_mono (fun y H1 h => ?_) (bindS_go a e q)
  obtain ⟨ρ1, s, c, ok, e⟩ := h
  cases hs : s.toD with
  | none => simp only [hs] at e; cases e
  | some d =>
    obtain ⟨a1, dy⟩ := ok.toD hs
    simp only [hs] at e
    split at e
    · rename_i d' xs0 heq h0
      have q1 := q.later (ChgS.of c)
      cases heq
      obtain ⟨ad, vs0, ho, hσ, _, _⟩ := a1.ownAt h0
      refine ⟨.ref ad, hσ, tE_mono (fun z H2 h => ?_) (bindS_go a1 e q1)⟩
      obtain ⟨ρ2, t, c2, ok2, e⟩ := h
      split at e
      · rename_i k xs h2
        split at e
        · rename_i j hj
          cases e
          obtain ⟨a2, dz⟩ := ok2
          cases dp_int dz
          obtain ⟨ad', vs, ho', _, hH, hk⟩ := a2.ownAt h2
          rw [ho] at ho'
          cases ho'
          have hl := dps_len hk
          refine ⟨ad, vs, k, j, rfl, rfl, hH, by rw [hl]; exact hj, ?_⟩
          exact q1 o σ _ ((ChgS.of c2).trans (chgS_put ho hH)) (a2.putOwn ho (dps_set (dp_mono c2.ex dy) j hk))
        · cases e
      · cases e
    · cases e
theorem pds_app {apos cpos : Pos} (hN : X.N[i]? = some x) (hv : Vis X.env.scope x) (he : PD X E e fe)
    (hbase : attributeBase (.Name x p) "append" X.env (eval (.Name x p) X.env) = eval (.Name x p) X.env := by rfl)
    (hfew : ((backTo cpos (starEach [e] X.env)).all (fun x => !x.1) && (backToKw cpos (keywordEach [] X.env)).all (fun x => x.1.isSome)
      && decide ([e].length + ([] : List Keyword).length + (if ([] : List Keyword).isEmpty then 0 else 1) < 30)) = true := by rfl)
    (hline : (apos.endLine == cpos.line) = true := by rfl) (hs : starEach [e] X.env = (false, eval e X.env) :: starEach [] X.env := by rfl) (hplain : (backTo cpos (starEach [] X.env)).any (·.1) = false := by rfl)
    (hsw : swapsWith (.Call (.Attribute (.Name x p) "append" apos) [e] [] cpos) none pos.line X.env = pure false := by rfl) (hd : (x == ("__debug__" : Str)) = false := by decide) (hcd : (x == ("__classdict__" : Str)) = false := by decide) :
    PDS X E np (.Expr (.Call (.Attribute (.Name x p) "append" apos) [e] [] cpos) pos) (appO i fe) := by
  refine PS.imp (ps_expr (pe_bm PySem.F.plainAttrs_list PySem.F.slot_list_append PySem.F.type_list_append mt_append (pe_var hN hv hd hcd) (pa_cons he pa_nil hs) hbase hfew hline hs hplain) hsw) fun D σ H h => ?_
  obtain ⟨P, o, ρ, fl, a, e, q⟩ := h
  unfold appO at e
  split at e
  · rename_i xs0 h0
    obtain ⟨ad, vs0, ho, hσ, hH0, _⟩ := a.ownAt h0
    refine ⟨.ref ad, hσ, .inl ⟨rfl, vs0, SqL.of hH0⟩, tE_mono (fun y H1 h => ?_) (bindS_go a e q)⟩
    obtain ⟨ρ1, s, c, ok, e⟩ := h
    cases hs : s.toD with
    | none => simp only [hs] at e; cases e
    | some d =>
      obtain ⟨a1, dy⟩ := ok.toD hs
      simp only [hs] at e
      split at e
      · rename_i xs heq h1
        cases heq
        split at e
        · rename_i hl
          cases e
          obtain ⟨ad', vs, ho', _, hH, hk⟩ := a1.ownAt h1
          rw [ho] at ho'
          cases ho'
          exact ⟨ad, vs, y, rfl, rfl, hH, by rw [dps_len hk]; exact big_lt hl, q o σ _ ((ChgS.of c).trans (chgS_put ho hH)) (a1.putOwn ho (dps_append hk (.cons dy .nil)))⟩
        · cases e
      · cases e
  · cases e
theorem pds_iadd {pos' : Pos} (hN : X.N.Nodup) (hi : X.N[i]? = some x) (hx : Loc X.env.scope x) (he : PD X E e fe) (hf : X.fn x = true ∨ X.env.scope.names.lookup x = some .local := by first | exact .inl rfl | exact .inr rfl | assumption) :
    PDS X E np (.AugAssign (.Name x pos') .Add e pos) (iaddO i fe) := by
  refine PS.imp (ps_aug (ti := rExt2) hN hi hx he (fun pins s σ H x y v u Q I r1 r2 h => iop_ext pins s σ H x y v u Q I r1 r2 h) hf) fun D σ H h => ?_
  obtain ⟨P, o, ρ, fl, a, e, q⟩ := h
  unfold iaddO at e
  split at e
  · rename_i xs0 h0
    obtain ⟨ad, vs0, ho, hσ, hH0, _⟩ := a.ownAt h0
    refine ⟨.ref ad, hσ, tE_mono (fun y H1 h => ?_) (bindS_go a e q)⟩
    obtain ⟨ρ1, s, c, ok, e⟩ := h
    cases s with
    | own zs =>
      split at e
      · rename_i zs' xs heq h1
        cases heq
        split at e
        · rename_i hl
          cases e
          obtain ⟨b, rfl, hb0, hbn, a1, ws, hb, kb⟩ := ok
          have a2 : At X.K P o ρ1 σ H1 := a1.less fun _ z => .inl z
          obtain ⟨ad', vs, ho', _, hH, hk⟩ := a2.ownAt h1
          rw [ho] at ho'
          cases ho'
          have kb' : DpAll X.K (hd (hid P o) H1) ws zs := dps_mono (ex_hd_le fun z w => w.elim (fun w => .inl (.inl w)) .inr) kb
          refine ⟨ad, b, vs, ws, rfl, rfl, hH, hb, by rw [dps_len hk, dps_len kb']; exact big_line hl, ?_⟩
          -- the name is stored again: the very same object
          have hset : σ.set i (some (V.ref ad)) = σ := by
            apply List.ext_getElem?
            intro j
            by_cases hj : j = i
            · subst hj
              rw [List.getElem?_set_self (List.getElem?_eq_some_iff.mp hσ).1, hσ]
            · rw [List.getElem?_set_ne (Ne.symm hj)]
          show D.nx (σ.set i (some (V.ref ad))) _
          rw [hset]
          exact q o σ _ ((ChgS.of c).trans (chgS_put ho hH)) (a2.putOwn ho (dps_append hk kb'))
        · cases e
      · cases e
    | dat _ => cases e
    | odk _ => cases e
    | odt _ => cases e
  · cases e
end
/-! ### an own list becomes data -/
def frzE (np i : Nat) (ρ : Env) : Env := if np ≤ i then (match ρ[i]? with
  | some (some (.own xs)) => ρ.set i (some (.dat (.list xs)))
  | _ => ρ) else ρ
def frzS (np i : Nat) (f : SM) : SM := fun ρ => f (frzE np i ρ)
theorem At.frz {K : PySem.W.Frag} {P : Addr → Prop} {o : Ow} {ρ : Env} {σ : St} {H : Hp} {i : Nat} {xs : List D} (h : At K P o ρ σ H) (e : ρ[i]? = some (some (.own xs))) : At K P (clr o i) (ρ.set i (some (.dat (.list xs)))) σ H := by
  obtain ⟨a, vs, ho, hσ, hH, hk⟩ := h.ownAt e
  have hi : i < ρ.length := (List.getElem?_eq_some_iff.mp e).1
  have ex : Ex (hd (hid P o) H) (hd (hid P (clr o i)) H) := ex_hd_le fun a z => z.elim .inl fun z => .inr (own_clr z)
  have cl : ∀ j a, clr o i j = some a → j ≠ i ∧ o j = some a := fun j a q => by
    unfold clr at q
    split at q
    · cases q
    · rename_i hne
      exact ⟨hne, q⟩
  have vis : ¬ hid P (clr o i) a := fun z => by
    rcases z with z | ⟨j, z⟩
    · exact h.dis i a ho z
    · obtain ⟨hne, z⟩ := cl j a z
      exact hne (h.inj j i a z ho)
  refine ⟨by simp [h.len], h.dom, fun j j' a q q' => h.inj j j' a (cl j a q).2 (cl j' a q').2, fun j a q => h.dis j a (cl j a q).2, fun j b q => ?_, fun j d q => ?_, fun j t q hs => ?_⟩
  · obtain ⟨hne, q⟩ := cl j b q
    obtain ⟨t, h1, h2, h3⟩ := h.has j b q
    exact ⟨t, by rw [List.getElem?_set_ne (Ne.symm hne)]; exact h1, h2, h3.imp ex fun _ z => z⟩
  · by_cases hj : j = i
    · subst hj
      rw [List.getElem?_set_self hi] at q
      cases q
      exact ⟨.ref a, hσ, .lst (.inl (.inl (hd_some.mpr ⟨vis, hH⟩))) (dps_mono ex hk)⟩
    · rw [List.getElem?_set_ne (Ne.symm hj)] at q
      obtain ⟨w, h1, h2⟩ := h.dat j d q
      exact ⟨w, h1, dp_mono ex h2⟩
  · by_cases hj : j = i
    · subst hj
      rw [List.getElem?_set_self hi] at q
      cases q
      cases hs
    · rw [List.getElem?_set_ne (Ne.symm hj)] at q
      obtain ⟨a, q⟩ := h.ow j t q hs
      exact ⟨a, by unfold clr; rw [if_neg hj]; exact q⟩
section
variable {X : Cx} {E : XK} {np i : Nat} {sts : List Stmt} {f : SM}
theorem pdb_frz (h : PDB X E np sts f) : PDB X E np sts (frzS np i f) := PSs.imp h fun D σ H h => by
  obtain ⟨P, o, ρ, fl, a, e, p⟩ := h
  unfold frzS frzE at e
  split at e
  · rename_i hi
    split at e
    · rename_i xs hx
      refine ⟨P, clr o i, _, fl, a.frz hx, e, p.later ⟨fun _ _ h _ => h, fun _ _ h => ⟨_, h⟩, fun _ z => .inl (own_clr z), fun j b hj q => ?_⟩⟩
      unfold clr
      rw [if_neg (by omega)]
      exact q
    · exact ⟨P, o, ρ, fl, a, e, p⟩
  · exact ⟨P, o, ρ, fl, a, e, p⟩
end
end DL

namespace DL
open PySem PySem.Spec L2

/-! ### comprehensions of two clauses -/
/-- kept, but for one's own objects and p -/
structure ChgP (p : Addr) (o : Ow) (H H' : Hp) : Prop where
  keep : ∀ a u, H a = some u → ¬ Own o a → a ≠ p → H' a = some u
  dom : ∀ a u, H a = some u → ∃ u', H' a = some u'
theorem ChgP.of {p : Addr} {o : Ow} {H H' : Hp} (c : Chg o H H') : ChgP p o H H' := ⟨fun a u h n _ => c.keep a u h n, c.dom⟩
theorem ChgP.trans {p : Addr} {o : Ow} {H H1 H2 : Hp} (a : ChgP p o H H1) (b : ChgP p o H1 H2) : ChgP p o H H2 :=
  ⟨fun x u h n m => b.keep x u (a.keep x u h n m) n m, fun x u h => let ⟨_, h1⟩ := a.dom x u h; b.dom x _ h1⟩
theorem ChgP.put {p : Addr} {o : Ow} {H : Hp} {u : HO} : ChgP p o H (upd H p u) := ⟨fun a w h _ n => by rw [upd_ne n]; exact h, fun a w h => by
  by_cases e : a = p
  · subst e; exact ⟨_, upd_same⟩
  · exact ⟨w, by rw [upd_ne e]; exact h⟩⟩
theorem ChgP.ex {P : Addr → Prop} {p : Addr} {o : Ow} {H H' : Hp} (c : ChgP p o H H') (hp : P p) : Ex (hd (hid P o) H) (hd (hid P o) H') := fun a u h => by
  obtain ⟨n, h⟩ := hd_some.mp h
  exact hd_some.mpr ⟨n, c.keep a u h (fun z => n (.inr z)) fun z => n (.inl (by rw [z]; exact hp))⟩
theorem hd_put {P : Addr → Prop} {o : Ow} {H : Hp} {p : Addr} {u : HO} (hp : P p) : hd (hid P o) (upd H p u) = hd (hid P o) H := by
  funext z
  unfold hd
  split
  · rfl
  · rename_i hne
    exact upd_ne fun q => hne (by rw [q]; exact .inl hp)
/-- where the wiped slots hold nothing, a target clears no own slot -/
theorem tg_same {K : PySem.W.Frag} {np : Nat} {P : Addr → Prop} {o o2 : Ow} {ρ ρ2 : Env} {σ σ2 : St} {H H2 : Hp} {sl vs : List Nat} (a : At K P o ρ (wipe σ vs) H) (a2 : At K P o2 ρ2 σ2 H2) (t : TgRel np sl o o2 (wipe σ vs) σ2) (hsl : ∀ i ∈ sl, i ∈ vs) : o2 = o := by
  have nov : ∀ j b, o j = some b → j ∉ vs := fun j b q z => by
    obtain ⟨s, h1, h2, h3⟩ := a.has j b q
    exact (wipe_some h2).2 z
  funext j
  by_cases hj : j ∈ sl
  · have h1 : o j = none := by
      cases q : o j with
      | none => rfl
      | some b => exact (nov j b q (hsl j hj)).elim
    rw [h1]
    cases q : o2 j with
    | none => rfl
    | some b =>
      obtain ⟨i', hi'⟩ := t.sub b ⟨j, q⟩
      have hns : i' ∉ sl := fun z => nov i' b hi' (hsl i' z)
      have h2 : o2 i' = some b := (t.oth i' hns).trans hi'
      have e := a2.inj _ _ _ h2 q
      subst e
      exact (hns hj).elim
  · exact t.oth j hj
/-- the turns of a clause's loop, the list at p begun -/
theorem lc_loopG {K : PySem.W.Frag} {mg : Str → Option Value} {E : XK} {np : Nat} {T : TgM} {sl vs : List Nat} {ft fe : EM} (hsl : ∀ i ∈ sl, i ∈ vs) {J : It} {P : Addr → Prop} {o : Ow} {ρ1 : Env} {σ : St} {G H1 : Hp} {p : Addr} {ds acc0 : List D} {ws0 : List V} {fin : List D × Env} {Q : Hp → Prop}
    (hp : P p) (nop : ¬ Own o p) (a1 : At K P o ρ1 σ H1) (hn : noOwn ρ1 vs = true) (ij : ItD K G J ds) (ex0 : Ex G (hd (hid P o) H1)) (e0 : H1 p = some (.lst ws0)) (k0 : DpAll K (hd (hid P o) H1) ws0 acc0) (hr : loopC T ft fe vs acc0 ds (wipeE ρ1 vs) = some fin)
    (hq : ∀ H' ws, ChgP p o H1 H' → H' p = some (.lst ws) → At K P o fin.2 (wipe σ vs) H' → noOwn fin.2 vs = true → DpAll K (hd (hid P o) H') ws fin.1 → Q H') :
    ∃ W : Nat → Nat → Hp → Prop, (∃ m, W 0 m H1) ∧ ∀ i m H, W i m H →
      (J.stop i H ∧ Q H) ∨ (J.go i H ∧ ∃ Nx : Hp → Prop, (∀ H', Nx H' → ∃ m', m' < m ∧ W (i + 1) m' H') ∧ ∀ x H', J.yld i H x H' → tG K np T sl x (wipe σ vs) H' fun σ2 H2 => wipe σ2 vs = wipe σ vs ∧ tT K mg E ft σ2 H2 fun b H3 =>
        if b = true then tE K mg E fe σ2 H3 fun y H4 => ∃ acc, H4 p = some (.lst acc) ∧ acc.length < sizeLine ∧ Nx (upd H4 p (.lst (acc ++ [y]))) else Nx H3) := by
  obtain ⟨Gp, Y, w, hG, hY⟩ := ij
  have hwl : ∀ σ2 : St, σ2.length = (wipe σ vs).length → (∀ (j : Nat), j ∉ sl → σ2[j]? = (wipe σ vs)[j]?) → wipe σ2 vs = wipe σ vs := fun σ2 hl ho => wipe_eq (by rw [hl, wipe_length]) fun j hj => by
    rw [ho j fun z => hj (hsl j z), wipe_out hj]
  let Pv : Nat → Hp → Prop := fun i H => ∃ acc ws ρ, ChgP p o H1 H ∧ H p = some (.lst ws) ∧ DpAll K (hd (hid P o) H) ws acc ∧ At K P o ρ (wipe σ vs) H ∧ loopC T ft fe vs acc (ds.drop i) ρ = some fin
  have hGv : ∀ i H, Pv i H → Gp H := fun i H ⟨acc, ws, ρ, c, _⟩ => hG _ _ (ex0.trans (c.ex hp))
  refine ⟨fun i m H => m = ds.length - i ∧ i ≤ ds.length ∧ Pv i H, ⟨ds.length, by simp, Nat.zero_le _, acc0, ws0, wipeE ρ1 vs, .of .refl, e0, k0, a1.wiped hn, by simpa using hr⟩, ?_⟩
  rintro i m H ⟨rfl, hi, pv⟩
  by_cases hlt : i < ds.length
  · refine .inr ⟨w.goes i H hlt (hGv i H pv), Pv (i + 1), fun H' p' => ⟨ds.length - (i + 1), by omega, rfl, hlt, p'⟩, fun x H' y => ?_⟩
    obtain ⟨acc, ws, ρ, c, e, k, a, hl⟩ := pv
    have y := w.yields i H x H' hlt (hG _ _ (ex0.trans (c.ex hp))) y
    obtain ⟨ex2, d, hd1, hd2⟩ := hY (hid P o) i H x H' hlt (fun b q => a.domH q) (ex0.trans (c.ex hp)) y
    have hdrop : ds.drop i = d :: ds.drop (i + 1) := by
      obtain ⟨h1, h2⟩ := List.getElem?_eq_some_iff.mp hd1
      rw [List.drop_eq_getElem_cons h1, h2]
    rw [hdrop] at hl
    unfold loopC at hl
    cases hT : T d ρ with
    | none => simp only [hT] at hl; cases hl
    | some ρ2 =>
      simp only [hT] at hl
      refine ⟨P, o, ρ, d, ρ2, a.ext ex2, hd2, hT, fun o2 σ2 t2 a2 => ?_⟩
      have hw := hwl σ2 t2.len t2.off
      refine ⟨hw, ?_⟩
      have oo := tg_same (a.ext ex2) a2 t2 hsl
      subst oo
      have cc : ChgP p o2 H1 H' := c.trans (.of (.of ex2))
      have ep : H' p = some (.lst ws) := ex2 _ _ e
      have kk : DpAll K (hd (hid P o2) H') ws acc := dps_mono (ex_hd_hd ex2) k
      have fin1 : ∀ {acc' : List D} {ws' : List V} {ρ3 : Env} {H3 : Hp}, ChgP p o2 H1 H3 → H3 p = some (.lst ws') → DpAll K (hd (hid P o2) H3) ws' acc' → At K P o2 ρ3 σ2 H3 → noOwn ρ3 vs = true →
          loopC T ft fe vs acc' (ds.drop (i + 1)) (wipeE ρ3 vs) = some fin → Pv (i + 1) H3 :=
        fun {acc' ws' ρ3 H3} q1 q3 q4 q5 q6 q7 => by
          have q8 := q5.wiped q6
          rw [hw] at q8
          exact ⟨acc', ws', wipeE ρ3 vs, q1, q3, q4, q8, q7⟩
      cases hft : ft ρ2 with
      | none => simp only [hft] at hl; cases hl
      | some r =>
        obtain ⟨r, ρ3⟩ := r
        simp only [hft] at hl
        refine ⟨P, o2, ρ2, _, a2, hft, ?_⟩
        cases r with
        | ex n pl => cases hl
        | ok s =>
          cases s with
          | dat d' =>
            cases d' with
            | bool b =>
              intro H3 c3 a3
              have ep3 : H3 p = some (.lst ws) := c3.keep _ _ ep nop
              cases b with
              | false =>
                simp only at hl
                split at hl
                · rename_i hno
                  exact fin1 (cc.trans (.of c3)) ep3 (dps_mono c3.ex kk) a3 hno hl
                · cases hl
              | true =>
                simp only at hl
                cases hfe : fe ρ3 with
                | none => simp only [hfe] at hl; cases hl
                | some r =>
                  obtain ⟨r, ρ4⟩ := r
                  simp only [hfe] at hl
                  refine ⟨P, o2, ρ3, _, a3, hfe, ?_⟩
                  cases r with
                  | ex n pl => cases hl
                  | ok s =>
                    intro yv H4 c4 ok4
                    cases hs : s.toD with
                    | none => simp only [hs] at hl; cases hl
                    | some xd =>
                      simp only [hs] at hl
                      split at hl
                      · rename_i hb
                        obtain ⟨a4, k4⟩ := ok4.toD hs
                        have ep4 : H4 p = some (.lst ws) := c4.keep _ _ ep3 nop
                        have kw := dps_mono c4.ex (dps_mono c3.ex kk)
                        refine ⟨ws, ep4, by rw [dps_len kw]; exact big_lt hb.1, ?_⟩
                        refine fin1 (((cc.trans (.of c3)).trans (.of c4)).trans .put) upd_same ?_ (a4.updHid hp nop) hb.2 hl
                        rw [hd_put hp]
                        exact dps_append kw (.cons k4 .nil)
                      · cases hl
            | _ => cases hl
          | _ => cases hl
  · have e : i = ds.length := by omega
    subst e
    refine .inl ⟨w.stops H (hGv _ H pv), ?_⟩
    obtain ⟨acc, ws, ρ, c, e, k, a, hl⟩ := pv
    rw [List.drop_length] at hl
    unfold loopC at hl
    split at hl
    · rename_i hno
      cases hl
      exact hq H ws c e a hno k
    · cases hl
def loopC2 (T : TgM) (ft : EM) (fi1 : IM) (T1 : TgM) (ft1 fe : EM) (vs vs1 : List Nat) : List D → List D → Env → Option (List D × Env)
  | acc, [], ρ => if noOwn ρ vs = true then some (acc, ρ) else none
  | acc, d :: ds, ρ => match T d ρ with
    | none => none
    | some ρ1 => match ft ρ1 with
      | some (.ok (.dat (.bool true)), ρ2) => (match fi1 ρ2 with
        | some (.inl ds1, ρ3) => if noOwn ρ3 vs1 = true then (match loopC T1 ft1 fe vs1 acc ds1 (wipeE ρ3 vs1) with
          | some (acc', ρ4) => if noOwn ρ4 vs = true then loopC2 T ft fi1 T1 ft1 fe vs vs1 acc' ds (wipeE ρ4 vs) else none
          | none => none) else none
        | _ => none)
      | some (.ok (.dat (.bool false)), ρ2) => if noOwn ρ2 vs = true then loopC2 T ft fi1 T1 ft1 fe vs vs1 acc ds (wipeE ρ2 vs) else none
      | _ => none
def compE2 (ow : Bool) (fi : IM) (T : TgM) (ft : EM) (fi1 : IM) (T1 : TgM) (ft1 fe : EM) (vs vs1 : List Nat) : EM := fun ρ => match fi ρ with
  | some (.inl ds, ρ1) => if noOwn ρ1 vs = true then (match loopC2 T ft fi1 T1 ft1 fe vs vs1 [] ds (wipeE ρ1 vs) with
    | some (xs, ρ2) => some (.ok (if ow = true then .own xs else .dat (.list xs)), restE ρ1 ρ2 vs)
    | none => none) else none
  | some (.inr (c, p), ρ1) => some (.ex c p, ρ1)
  | none => none
theorem lc2_it {J : It} {n : Nat} {G : Hp → Prop} {Y : Nat → Hp → V → Hp → Prop} (w : Walk J n G Y) {B : (Hp → Prop) → V → Hp → Prop} {H0 : Hp} {Qd : Hp → Prop} (Pv : Nat → Hp → Prop) (h0 : Pv 0 H0) (hG : ∀ i H, Pv i H → G H)
    (hs : ∀ i x H H', i < n → Pv i H → Y i H x H' → B (Pv (i + 1)) x H') (hd : ∀ H, Pv n H → Qd H) : ∃ W : Nat → Nat → Hp → Prop, (∃ m, W 0 m H0) ∧ ∀ i m H, W i m H → (J.stop i H ∧ Qd H) ∨ (J.go i H ∧ ∃ Nx : Hp → Prop, (∀ H', Nx H' → ∃ m', m' < m ∧ W (i + 1) m' H') ∧ ∀ x H', J.yld i H x H' → B Nx x H') := by
  refine ⟨fun i m H => m = n - i ∧ i ≤ n ∧ Pv i H, ⟨n, by simp, Nat.zero_le _, h0⟩, ?_⟩
  rintro i m H ⟨rfl, hi, p⟩
  have q := hG i H p
  by_cases hlt : i < n
  · exact .inr ⟨w.goes i H hlt q, Pv (i + 1), fun H' p' => ⟨n - (i + 1), by omega, rfl, hlt, p'⟩, fun x H' y => hs i x H H' hlt p (w.yields i H x H' hlt q y)⟩
  · have e : i = n := by omega
    subst e
    exact .inl ⟨w.stops H q, hd H p⟩
theorem comp2_imp {K : PySem.W.Frag} {mg : Str → Option Value} {E E2 : XK} {np : Nat} {ow : Bool} {fi fi1 : IM} {T T1 : TgM} {ft ft1 fe : EM} {sl sl1 vs vs1 : List Nat} (hsl : ∀ i ∈ sl, i ∈ vs) (hsl1 : ∀ i ∈ sl1, i ∈ vs1) (hv : ∀ i ∈ vs1, i ∈ vs) {σ : St} {H : Hp} {Q : VK}
    (h : tE K mg E (compE2 ow fi T ft fi1 T1 ft1 fe vs vs1) σ H Q) : tLc2 (tI K mg E fi) (tG K np T sl) (tT K mg E2 ft) (tI K mg E2 fi1) (tG K np T1 sl1) (tT K mg E2 ft1) (tE K mg E2 fe) vs vs1 σ H Q := by
  obtain ⟨P, o, ρ, res, a, e, pp⟩ := h
  unfold compE2 at e
  cases hf : fi ρ with
  | none => rw [hf] at e; cases e
  | some r1 =>
    obtain ⟨r, ρ1⟩ := r1
    rw [hf] at e
    refine ⟨P, o, ρ, _, _, a, hf, ?_⟩
    cases r with
    | inr x => cases e; exact pp
    | inl ds =>
      intro J H1 c1 a1 ij p hp
      simp only at e
      split at e
      · rename_i hn
        cases hl : loopC2 T ft fi1 T1 ft1 fe vs vs1 [] ds (wipeE ρ1 vs) with
        | none => simp only [hl] at e; cases e
        | some fin =>
          simp only [hl] at e
          cases e
          have nhp : ¬ hid P o p := fun z => by
            obtain ⟨u, k⟩ := a1.domH z
            rw [hp] at k
            cases k
          have nop : ¬ Own o p := fun z => nhp (.inr z)
          have a1' : At K (plusA P p) o ρ1 σ (upd H1 p (.lst [])) := a1.plus hp
          have hP : plusA P p p := .inr rfl
          obtain ⟨Gp, Y, w, hG, hY⟩ := ij
          have ex0 : Ex (hd (hid P o) H1) (hd (hid (plusA P p) o) (upd H1 p (.lst []))) := fun b u z => by
            obtain ⟨n, z⟩ := hd_some.mp z
            have hne : b ≠ p := ne_of_none z hp
            refine hd_some.mpr ⟨fun q => ?_, by rw [upd_ne hne]; exact z⟩
            rcases q with (q | q) | q
            · exact n (.inl q)
            · exact hne q
            · exact n (.inr q)
          let Pv : Nat → Hp → Prop := fun i H => ∃ acc ws ρ, ChgP p o (upd H1 p (.lst [])) H ∧ H p = some (.lst ws) ∧ DpAll K (hd (hid (plusA P p) o) H) ws acc ∧ At K (plusA P p) o ρ (wipe σ vs) H ∧ loopC2 T ft fi1 T1 ft1 fe vs vs1 acc (ds.drop i) ρ = some fin
          have hwl : ∀ σ2 : St, σ2.length = (wipe σ vs).length → (∀ (j : Nat), j ∉ sl → σ2[j]? = (wipe σ vs)[j]?) → wipe σ2 vs = wipe σ vs := fun σ2 hl ho => wipe_eq (by rw [hl, wipe_length]) fun j hj => by
            rw [ho j fun z => hj (hsl j z), wipe_out hj]
          refine lc2_it w Pv ⟨[], [], wipeE ρ1 vs, .of .refl, upd_same, .nil, a1'.wiped hn, by simpa using hl⟩ (fun i H ⟨acc, ws, ρ, c, _⟩ => hG _ _ (ex0.trans (c.ex hP))) (fun i x H H' hi pv y => ?_) fun H pv => ?_
          · obtain ⟨acc, ws, ρ, c, e, k, a, hl⟩ := pv
            obtain ⟨ex2, d, hd1, hd2⟩ := hY (hid (plusA P p) o) i H x H' hi (fun b q => a.domH q) (ex0.trans (c.ex hP)) y
            have hdrop : ds.drop i = d :: ds.drop (i + 1) := by
              obtain ⟨h1, h2⟩ := List.getElem?_eq_some_iff.mp hd1
              rw [List.drop_eq_getElem_cons h1, h2]
            rw [hdrop] at hl
            unfold loopC2 at hl
            cases hT : T d ρ with
            | none => simp only [hT] at hl; cases hl
            | some ρ2 =>
              simp only [hT] at hl
              refine ⟨plusA P p, o, ρ, d, ρ2, a.ext ex2, hd2, hT, fun o2 σ2 t2 a2 => ?_⟩
              have hw := hwl σ2 t2.len t2.off
              refine ⟨hw, ?_⟩
              have oo := tg_same (a.ext ex2) a2 t2 hsl
              subst oo
              have cc : ChgP p o2 (upd H1 p (.lst [])) H' := c.trans (.of (.of ex2))
              have ep : H' p = some (.lst ws) := ex2 _ _ e
              have kk : DpAll K (hd (hid (plusA P p) o2) H') ws acc := dps_mono (ex_hd_hd ex2) k
              cases hft : ft ρ2 with
              | none => simp only [hft] at hl; cases hl
              | some r =>
                obtain ⟨r, ρ3⟩ := r
                simp only [hft] at hl
                refine ⟨plusA P p, o2, ρ2, _, a2, hft, ?_⟩
                cases r with
                | ex n pl => cases hl
                | ok s =>
                  cases s with
                  | dat d' =>
                    cases d' with
                    | bool b =>
                      intro H3 c3 a3
                      have ep3 : H3 p = some (.lst ws) := c3.keep _ _ ep nop
                      cases b with
                      | false =>
                        simp only at hl
                        split at hl
                        · rename_i hno
                          have q8 := a3.wiped hno
                          rw [hw] at q8
                          exact ⟨acc, ws, wipeE ρ3 vs, cc.trans (.of c3), ep3, dps_mono c3.ex kk, q8, hl⟩
                        · cases hl
                      | true =>
                        simp only at hl
                        cases hf1 : fi1 ρ3 with
                        | none => simp only [hf1] at hl; cases hl
                        | some r =>
                          obtain ⟨r, ρ4⟩ := r
                          simp only [hf1] at hl
                          refine ⟨plusA P p, o2, ρ3, _, _, a3, hf1, ?_⟩
                          cases r with
                          | inr x => cases hl
                          | inl ds1 =>
                            intro J1 H4 c4 a4 ij1
                            simp only at hl
                            split at hl
                            · rename_i hn1
                              cases hl1 : loopC T1 ft1 fe vs1 acc ds1 (wipeE ρ4 vs1) with
                              | none => simp only [hl1] at hl; cases hl
                              | some fin1 =>
                                simp only [hl1] at hl
                                split at hl
                                · rename_i hn2
                                  have ep4 : H4 p = some (.lst ws) := c4.keep _ _ ep3 nop
                                  refine lc_loopG (mg := mg) (E := E2) (np := np) hsl1 hP nop a4 hn1 ij1 (Ex.refl _) ep4 (dps_mono c4.ex (dps_mono c3.ex kk)) hl1 fun H5 ws5 c5 e5 a5 hno5 k5 => ?_
                                  have q8 := a5.wiped hn2
                                  have hw2 : wipe (wipe σ2 vs1) vs = wipe σ vs := by
                                    rw [← hw]
                                    exact wipe_eq (wipe_length _ _) fun j hj => wipe_out fun z => hj (hv j z)
                                  rw [hw2] at q8
                                  exact ⟨fin1.1, ws5, wipeE fin1.2 vs, ((cc.trans (.of c3)).trans (.of c4)).trans c5, e5, k5, q8, hl⟩
                                · cases hl
                            · cases hl
                    | _ => cases hl
                  | _ => cases hl
          · obtain ⟨acc, ws, ρ, c, e, k, a, hl⟩ := pv
            rw [List.drop_length] at hl
            unfold loopC2 at hl
            split at hl
            · rename_i hno
              cases hl
              have cH : Chg o H1 H := ⟨fun b u z n => c.keep b u (by rw [upd_ne (ne_of_none z hp)]; exact z) n (ne_of_none z hp), fun b u z => c.dom b u (by rw [upd_ne (ne_of_none z hp)]; exact z)⟩
              refine pp _ H (c1.trans cH) (okP_list (c1.back hp) nhp ?_ e k)
              exact a1'.restored a hn hno (c.ex hP)
            · cases hl
      · cases e
end DL

namespace DL
open PySem PySem.Spec L2
section
variable {X : Cx} {E : XK} {np : Nat} {elt tg it tg1 it1 : Expr} {ifs ifs1 : List Expr} {scope : Scope} {own : List (Str × Nat)} {vs1 : List Nat} {fi fi1 : IM} {T T1 : TgM} {sl sl1 : List Nat} {ft ft1 fe : EM} {ow : Bool} {pos : Pos}
theorem pd_comp2 (hc : X.calm = true) (hN : X.N.Nodup) (hi : PDI X E tg it fi) (ok : BlkOk X.N X.env.scope scope own) (hv : ∀ i ∈ vs1, i ∈ own.map (·.2)) (hsl : ∀ i ∈ sl, i ∈ own.map (·.2)) (hsl1 : ∀ i ∈ sl1, i ∈ vs1)
    (hg : ∀ (s : Shared) (H : Hp) (C : Addr) (cl : List (Str × Addr)) (fp : List Addr), PDG (X.blk s H scope (compEnvC scope cl C X.env) fp) np tg T sl)
    (ht : ∀ (s : Shared) (H : Hp) (C : Addr) (cl : List (Str × Addr)) (fp : List Addr), PDTs (X.blk s H scope (compEnvC scope cl C X.env) fp) E0 ifs ft)
    (hi1 : ∀ (s : Shared) (H : Hp) (C : Addr) (cl : List (Str × Addr)) (fp : List Addr), PDI (X.blk s H scope (compEnvC scope cl C X.env) fp) E0 tg1 it1 fi1)
    (hg1 : ∀ (s : Shared) (H : Hp) (C : Addr) (cl : List (Str × Addr)) (fp : List Addr), PDG (X.blk s H scope (compEnvC scope cl C X.env) fp) np tg1 T1 sl1)
    (ht1 : ∀ (s : Shared) (H : Hp) (C : Addr) (cl : List (Str × Addr)) (fp : List Addr), PDTs (X.blk s H scope (compEnvC scope cl C X.env) fp) E0 ifs1 ft1)
    (he : ∀ (s : Shared) (H : Hp) (C : Addr) (cl : List (Str × Addr)) (fp : List Addr), PD (X.blk s H scope (compEnvC scope cl C X.env) fp) E0 elt fe) (hs : ∀ x, foldedSetIterable it X.env x = pure x := by intro _; rfl) (hs1 : ∀ env x, foldedSetIterable it1 env x = pure x := by intro _ _; rfl) :
    PD X E (.ListComp elt [⟨tg, it, ifs, 0⟩, ⟨tg1, it1, ifs1, 0⟩] scope pos) (compE2 ow fi T ft fi1 T1 ft1 fe (own.map (·.2)) vs1) :=
  PE.imp (pe_lc2 hc hN hi ok hv hg ht hi1 hg1 ht1 he hs hs1) fun _ _ _ h => comp2_imp hsl hsl1 hv h
theorem pds_setComp2 {i : Nat} {y : Str} {py spos : Pos} (hc : X.calm = true) (hN : X.N.Nodup) (hy : X.N[i]? = some y) (hyl : X.env.scope.names.lookup y = some .local)
    (hsw : swapsWith (.ListComp elt [⟨tg, it, ifs, 0⟩, ⟨tg1, it1, ifs1, 0⟩] scope pos) (some (.Name y py)) spos.line X.env = pure true) (hi : PDI X E tg it fi) (ok : BlkOk X.N X.env.scope scope own) (hv : ∀ i ∈ vs1, i ∈ own.map (·.2)) (hsl : ∀ i ∈ sl, i ∈ own.map (·.2)) (hsl1 : ∀ i ∈ sl1, i ∈ vs1)
    (hg : ∀ (s : Shared) (H : Hp) (C : Addr) (cl : List (Str × Addr)) (fp : List Addr), PDG (X.blk s H scope (compEnvC scope cl C X.env) fp) np tg T sl)
    (ht : ∀ (s : Shared) (H : Hp) (C : Addr) (cl : List (Str × Addr)) (fp : List Addr), PDTs (X.blk s H scope (compEnvC scope cl C X.env) fp) E0 ifs ft)
    (hi1 : ∀ (s : Shared) (H : Hp) (C : Addr) (cl : List (Str × Addr)) (fp : List Addr), PDI (X.blk s H scope (compEnvC scope cl C X.env) fp) E0 tg1 it1 fi1)
    (hg1 : ∀ (s : Shared) (H : Hp) (C : Addr) (cl : List (Str × Addr)) (fp : List Addr), PDG (X.blk s H scope (compEnvC scope cl C X.env) fp) np tg1 T1 sl1)
    (ht1 : ∀ (s : Shared) (H : Hp) (C : Addr) (cl : List (Str × Addr)) (fp : List Addr), PDTs (X.blk s H scope (compEnvC scope cl C X.env) fp) E0 ifs1 ft1)
    (he : ∀ (s : Shared) (H : Hp) (C : Addr) (cl : List (Str × Addr)) (fp : List Addr), PD (X.blk s H scope (compEnvC scope cl C X.env) fp) E0 elt fe) (hs : ∀ x, foldedSetIterable it X.env x = pure x := by intro _; rfl) (hs1 : ∀ env x, foldedSetIterable it1 env x = pure x := by intro _ _; rfl) :
    PDS X E np (.Assign [.Name y py] (.ListComp elt [⟨tg, it, ifs, 0⟩, ⟨tg1, it1, ifs1, 0⟩] scope pos) spos) (asgN np i (compE2 ow fi T ft fi1 T1 ft1 fe (own.map (·.2)) vs1)) :=
  PS.imp (ps_setLc2 hc hN hy hyl hsw hi ok hv hg ht hi1 hg1 ht1 he hs hs1) fun _ _ _ h => comp2_imp hsl hsl1 hv (asgN_go h)
end
/-! ### sorted(set(xs)), xs tuples of ints -/
def intsOf : List D → Option (List Int)
  | [] => some []
  | .int i :: r => (intsOf r).map (i :: ·)
  | _ :: _ => none
def rowOf : D → Option (List Int)
  | .tuple xs => intsOf xs
  | _ => none
def rowsOf : List D → Option (List (List Int))
  | [] => some []
  | d :: r => match rowOf d, rowsOf r with
    | some x, some xs => some (x :: xs)
    | _, _ => none
theorem ints_dps {K : PySem.W.Frag} {H : Hp} : ∀ {vs : List V} {ds : List D} {ns : List Int}, DpAll K H vs ds → intsOf ds = some ns → vs = ns.map V.int ∧ ds = ns.map PyData.int
  | _, _, _, .nil, e => by cases e; exact ⟨rfl, rfl⟩
  | _, _, _, .cons (ds := ds) h hs, e => by
    unfold intsOf at e
    split at e
    · rename_i hh; cases hh
    · rename_i b r hh
      cases hh
      cases hb : intsOf ds with
      | none => rw [hb] at e; cases e
      | some bs =>
        rw [hb] at e
        cases e
        obtain ⟨h1, h2⟩ := ints_dps hs hb
        rw [dp_int h, h1, h2]
        exact ⟨rfl, rfl⟩
    · cases e
theorem intsOf_map : ∀ ns : List Int, intsOf (ns.map PyData.int) = some ns
  | [] => rfl
  | n :: ns => by simp [intsOf, intsOf_map ns]
/-- the rows, each once, ascending -/
def setSort (rs : List (List Int)) : List (List Int) := (rs.eraseDups).mergeSort fun a b => leD (.tuple (a.map .int)) (.tuple (b.map .int))
end DL

namespace DLs
open PySem PySem.Spec PyProof.Rows L2
section
variable {P : Program} {w : World} {A : Around} {E : Value → Shared → Prop} {s : Shared}
set_option maxHeartbeats 3200000 in
theorem set_of_tuple {l : Addr} {items : Array Value} (ks : List (Addr × List Int)) {Q : Value → Shared → Prop} (hh : A.handled = none) (hl : s.heap.IsTuple l items) (hit : items.toList = ks.map fun p => Value.ref p.1)
    (hk : ∀ p ∈ ks, IsT P w s.heap p.2 p.1) (hfew : ks.length < 64) (hu : A.units + 3 < cLine)
    (h : ∀ (h' : Heap) (tk : Nat) L es ep t, SetTR P w h' s.heap.objs.size L es ep t → Got ks ks.length L → (∀ b o, s.heap.get? b = some o → h'.get? b = some o) → Q (.ref s.heap.objs.size) { s with heap := h', toks := tk }) :
    wpAny (model P w) A (call (.type "set") [.ref l]) Q E s := by
  have hisz : items.size = ks.length := by
    have q := congrArg List.length hit
    rw [Array.length_toList, List.length_map] at q
    exact q
  obtain ⟨c, tl, hmro⟩ := F.called_set.mro
  have hmade := F.called_set.made
  have hsub := F.called_set.sub
  refine wpAny_call (codeAny_of_tree ?_)
  show wpAny _ _ (callAny (.type "set") _) _ _ _
  refine wpAny_pure ⟨Code.quiet_builtin _ (by decide +kernel), codeAny_builtin F.entry_type_call ?_⟩
  rw [Around.under_plain (weight_type_call_type "set" [.ref l] []) rfl]
  have h1 := F.called_set.notType
  have h2 := F.called_set.canCreate
  have hct := F.typeCall_set_1 (.ref l)
  repeat (any_goals (first | assumption | wp_step))

  refine codeAny_mono (code_set_led1 (.ref l) (E := E) (Q₁ := fun obj s₁ => obj = .ref s.heap.objs.size ∧ s₁ = { s with heap := s.heap.push { cls := .type "set", dict := none, data := .set #[] 0 (.fresh 0 0 (!w.params.followText "set-order")) } }) ⟨rfl, rfl⟩) fun r s₁ hr => ?_
  cases r with
  | error e => exact hr
  | ok fl =>
    cases fl with
    | ret obj =>
      obtain ⟨rfl, rfl⟩ := hr
      have hS : (s.heap.push { cls := .type "set", dict := none, data := .set #[] 0 (.fresh 0 0 (!w.params.followText "set-order")) }).get? s.heap.objs.size = some { cls := .type "set", dict := none, data := .set #[] 0 (.fresh 0 0 (!w.params.followText "set-order")) } := Heap.get?_push_size _ rfl
      have hT : Shared.TypeIs { s with heap := s.heap.push { cls := .type "set", dict := none, data := .set #[] 0 (.fresh 0 0 (!w.params.followText "set-order")) } } (.ref s.heap.objs.size) "set" := ⟨_, hS, rfl⟩
      have hli := F.called_set.init.lookup
      have hbi := F.called_set.init.bind (.ref s.heap.objs.size)
      repeat (any_goals (first | assumption | wp_step))

      refine codeAny_mono (codeAny_call_builtin (R := wants (fun r s₂ => r = .none ∧ ∃ h' tk L es ep t, s₂ = { s with heap := h', toks := tk } ∧ SetTR P w h' s.heap.objs.size L es ep t ∧ Got ks ks.length L ∧
          (∀ b o, s.heap.get? b = some o → h'.get? b = some o)) E) F.called_set.init.plain F.entry_set_init (check_set_init_1 hT ?_)) fun r₂ s₂ hr₂ => ?_
      · obtain ⟨ol, hol, hcl, nl, hdl⟩ := hl
        obtain ⟨ocls, odict, odata, oslots⟩ := ol
        simp only at hcl hdl
        subst hcl; subst hdl
        have hol' : (s.heap.push { cls := .type "set", dict := none, data := .set #[] 0 (.fresh 0 0 (!w.params.followText "set-order")) }).get? l = some { cls := .type "tuple", dict := odict, data := .seq items nl, slots := oslots } := Heap.get?_push_of_some _ hol
        have hsls := F.sub_tuple_set
        have hslf := F.sub_tuple_frozenset
        have hne : (Value.type "tuple" == Value.type "dict") = false := by decide
        have hl1 : (s.heap.push { cls := .type "set", dict := none, data := .set #[] 0 (.fresh 0 0 (!w.params.followText "set-order")) }).IsTuple l items := ⟨_, hol', rfl, nl, rfl⟩
        unfold Builtin.«set.__init__» noKeywords Builtin.Frozenset.updateFrom
        generalize hPI : pyIter = PI
        wp_walk
        subst hPI

        refine wpAny_pyIter_tuple hl1 ?_
        refine wpAny_bind (wpAny_runValue ?_)
        have hlS : l < s.heap.objs.size := Heap.lt_size hol
        have hh3 : A.in1.in1.in1.handled = none := by simp [hh]
        have hz1 : (s.heap.push { cls := .type "set", dict := none, data := .set #[] 0 (.fresh 0 0 (!w.params.followText "set-order")) }).objs.size = s.heap.objs.size + 1 := Heap.size_push ..
        have hneI : l ≠ (s.heap.push { cls := .type "set", dict := none, data := .set #[] 0 (.fresh 0 0 (!w.params.followText "set-order")) }).objs.size := by
          rw [Heap.size_push]; exact Nat.ne_of_lt (Nat.lt_succ_of_lt hlS)
        have hSf : s.heap.objs.size ∉ [(s.heap.push { cls := .type "set", dict := none, data := .set #[] 0 (.fresh 0 0 (!w.params.followText "set-order")) }).objs.size, l] := by
          rw [Heap.size_push]; simp only [List.mem_cons, List.mem_singleton, List.not_mem_nil, or_false, not_or]
          exact ⟨Nat.ne_of_lt (Nat.lt_succ_self _), Nat.ne_of_gt hlS⟩
        have hval : ∀ (i : Nat) (v : Value), items[i]? = some v → ∃ p, ks[i]? = some p ∧ v = .ref p.1 := fun i v hv => by
          have q : items.toList[i]? = some v := by rw [Array.getElem?_toList]; exact hv
          rw [hit, List.getElem?_map] at q
          cases hq : ks[i]? with
          | none => rw [hq] at q; cases q
          | some p =>
            rw [hq] at q
            exact ⟨p, rfl, (Option.some.inj q).symm⟩
        have none_of : ∀ b, s.heap.objs.size ≤ b → s.heap.get? b = none := fun b hb => by
          cases q : s.heap.get? b with
          | none => rfl
          | some o => exact absurd (Nat.lt_of_lt_of_le (Heap.lt_size q) hb) (Nat.lt_irrefl _)
        refine set_update_tups ((Walks.tuple hh3 _ l hneI items).toS) s.heap.objs.size
          hSf ks hisz hfew hval s.heap hk (none_of _ (Nat.le_refl _)) (fun b hb => none_of b (by
            rw [List.mem_singleton.mp hb, Heap.size_push]
            exact Nat.le_succ _)) hu (items.size - 0) 0 _ (by omega) (Nat.zero_le _)
          ⟨⟨_, Heap.get?_push_size _ rfl, rfl, rfl⟩, (hl1.push _)⟩ (fun b o e => Heap.get?_push_of_some _ (Heap.get?_push_of_some _ e)) ?hS0 ?hR
        case hS0 =>
          have hget : ((s.heap.push { cls := .type "set", dict := none, data := .set #[] 0 (.fresh 0 0 (!w.params.followText "set-order")) }).push { cls := .type "tuple_iterator", data := .fields #[.ref l, .int 0 0] }).get? s.heap.objs.size
              = some { cls := .type "set", dict := none, data := .set #[] 0 (.fresh 0 0 (!w.params.followText "set-order")) } := Heap.get?_push_of_some _ hS
          exact ⟨[], #[], 0, _, setTR_fresh hget, Got.zero ks⟩
        case hR =>
          intro s' L es ep t hm hS' g' hkp
          obtain ⟨h', g2, d', tk', os'⟩ := s'
          have eg : g2 = s.gens := hm.gens
          have ed : d' = s.drawn := hm.drawn
          have eo : os' = s.os := hm.os
          subst eg; subst ed; subst eo
          show wpAny _ _ _ _ _ _
          refine wpAny_pure ?_
          show wpAny _ _ (ret Value.none) _ _ _
          rw [hisz] at g'
          exact wpAny_pure ⟨rfl, h', tk', L, es, ep, t, rfl, hS', g', hkp⟩

      · cases r₂ with
        | error e => exact hr₂
        | ok fl₂ =>
          cases fl₂ with
          | ret r =>
            obtain ⟨rfl, h', tk, L, es, ep, t, rfl, hS', g', hk'⟩ := hr₂
            repeat (any_goals (first | assumption | wp_step))
            exact h _ _ _ _ _ _ hS' g' hk'
          | _ => exact hr₂.elim
    | _ => exact hr.elim

end
end DLs

namespace DLs
open PySem
open Sem (wp)
open AutoSeq1 (wpAny_loadPart')
section
variable {prog : Program} {w : World} {A : Around} {E : Value → Shared → Prop} {s : Shared}
theorem enumerate_next_item_T {e it l : Addr} {i : Nat} {items : Array Value} {x old : Value} {Q : Value → Shared → Prop}
    (he : IsEnum s.heap e it i old) (hit : s.heap.IsTupleIter it l i) (hl : s.heap.IsTuple l items) (hx : items[i]? = some x) (hne : e ≠ it)
    (hQ : ∀ h', IsEnumOut h' e it ((i : Int) + 1) x s.heap.objs.size → h'.IsTupleIter it l (i + 1) →
      h'.get? s.heap.objs.size = some { cls := .type "tuple", data := .seq #[.int i s.toks, x] } → h'.objs.size = s.heap.objs.size + 1 →
      (∀ b o, b ≠ e → b ≠ it → s.heap.get? b = some o → h'.get? b = some o) → Q (.ref s.heap.objs.size) { s with heap := h', toks := s.toks + 1 }) :
    wpAny (model prog w) A (Builtin.«enumerate.__next__» ⟨[.ref e], []⟩) (fun fin s' => ∃ v, fin = .done (.ret v) ∧ Q v s') E s := by
  obtain ⟨hp, g, d, tk, os⟩ := s
  show wpAny _ _ (field (.ref e) 2 >>= _) _ _ _
  refine wpAny_bind (wpAny_field he rfl (x := .ref it) rfl ?_)
  refine wpAny_bind (RZ.nextOf_tuple_item hit hl hx fun h₁ hit₁ hs₁ => ?_)
  replace hs₁ : Heap.SameBut it hp h₁ := hs₁
  have he₁ : IsEnum h₁ e it i old := (hs₁.2 e hne).trans he
  show wpAny _ _ (field (.ref e) 3 >>= _) _ _ ⟨h₁, g, d, tk, os⟩
  refine wpAny_bind (wpAny_field he₁ rfl (x := rawInt i) rfl ?_)
  show wpAny _ _ (field (.ref e) 4 >>= _) _ _ ⟨h₁, g, d, tk, os⟩
  refine wpAny_bind (wpAny_field he₁ rfl (x := .none) rfl ?_)
  show wpAny _ _ (mkInt i >>= _) _ _ ⟨h₁, g, d, tk, os⟩
  refine wpAny_bind (wpAny_mkInt ?_)
  show wpAny _ _ (setField (.ref e) 3 (rawInt ((i : Int) + 1)) >>= _) _ _ ⟨h₁, g, d, tk + 1, os⟩
  refine wpAny_bind (wpAny_setField_rec he₁ (by simp) fun h₂ he₂ hs₂ => ?_)
  replace hs₂ : Heap.SameBut e h₁ h₂ := hs₂
  replace he₂ : IsEnum h₂ e it ((i : Int) + 1) old := he₂
  show wpAny _ _ (setField (.ref e) 4 .none >>= _) _ _ ⟨h₂, g, d, tk + 1, os⟩
  refine wpAny_bind (wpAny_setField_rec he₂ (by simp) fun h₃ he₃ hs₃ => ?_)
  replace hs₃ : Heap.SameBut e h₂ h₃ := hs₃
  replace he₃ : IsEnum h₃ e it ((i : Int) + 1) old := he₃
  show wpAny _ _ (newTuple [.int i tk, x] >>= _) _ _ ⟨h₃, g, d, tk + 1, os⟩
  refine wpAny_bind (wpAny_newTuple ?_)
  have he₄ : IsEnum (h₃.push { cls := .type "tuple", data := .seq #[.int i tk, x] }) e it ((i : Int) + 1) old := Heap.get?_push_of_some _ he₃
  generalize hh₄ : h₃.push { cls := .type "tuple", data := .seq #[.int i tk, x] } = h₄ at he₄
  have hsz : h₃.objs.size = hp.objs.size := by rw [hs₃.1, hs₂.1, hs₁.1]
  have hel : e < hp.objs.size := Heap.lt_size he
  have ht₄ : h₄.get? hp.objs.size = some { cls := .type "tuple", data := .seq #[.int i tk, x] } := by rw [← hh₄, ← hsz]; exact Heap.get?_push_size _ rfl
  have hz₄ : h₄.objs.size = hp.objs.size + 1 := by rw [← hh₄, Heap.size_push, hsz]
  have hk₄ : ∀ b o, b ≠ e → b ≠ it → hp.get? b = some o → h₄.get? b = some o := fun b o hbe hbi hb => by
    rw [← hh₄]; exact Heap.get?_push_of_some _ (hs₃.extBut b o hbe (hs₂.extBut b o hbe (hs₁.extBut b o hbi hb)))
  have hit₄ : h₄.IsTupleIter it l (i + 1) := by
    rw [← hh₄]; obtain ⟨o, ho, r⟩ := (hit₁.extBut hs₂.extBut (Ne.symm hne)).extBut hs₃.extBut (Ne.symm hne); exact ⟨o, Heap.get?_push_of_some _ ho, r⟩
  show wpAny _ _ (Builtin.SmallTypes.ownedTupleIsFree (.ref e) >>= _) _ _ ⟨h₄, g, d, tk + 1, os⟩
  rw [hsz]
  clear hh₄ he₃ hs₃ he₂ hs₂ he₁ hs₁ hit₁ hsz h₃ h₂ h₁
  refine wpAny_bind ?_
  · unfold Builtin.SmallTypes.ownedTupleIsFree
    refine wpAny_bind (wpAny_field he₄ rfl (x := .none) rfl (wpAny_pure ?_))
    simp only [if_true]
    refine wpAny_bind (wpAny_rule ?_)
    refine wpAny_bind (wpAny_field he₄ rfl (x := old) rfl ?_)
    refine wpAny_bind (wpAny_setField_rec he₄ (by simp) fun h₅ he₅ hs₅ => ?_)
    replace hs₅ : Heap.SameBut e h₄ h₅ := hs₅
    replace he₅ : IsEnum h₅ e it ((i : Int) + 1) x := he₅
    show wpAny _ _ (Builtin.SmallTypes.ownedTupleHandOut (.ref e) (.ref hp.objs.size) >>= _) _ _ ⟨h₅, g, d, tk + 1, os⟩
    refine wpAny_bind ?_
    · unfold Builtin.SmallTypes.ownedTupleHandOut
      refine wpAny_bind (wpAny_setField_rec he₅ (by simp) fun h₆ he₆ hs₆ => ?_)
      replace hs₆ : Heap.SameBut e h₅ h₆ := hs₆
      replace he₆ : IsEnumOut h₆ e it ((i : Int) + 1) x hp.objs.size := he₆
      refine wpAny_setField_rec he₆ (by simp) fun h₇ he₇ hs₇ => ?_
      replace hs₇ : Heap.SameBut e h₆ h₇ := hs₇
      replace he₇ : IsEnumOut h₇ e it ((i : Int) + 1) x hp.objs.size := he₇
      refine wpAny_bind (wpAny_letGo (wpAny_pure ⟨_, rfl, hQ h₇ he₇ ?_ ?_ ?_ ?_⟩))
      · exact ((hit₄.extBut hs₅.extBut (Ne.symm hne)).extBut hs₆.extBut (Ne.symm hne)).extBut hs₇.extBut (Ne.symm hne)
      · exact hs₇.extBut _ _ (Nat.ne_of_gt hel) (hs₆.extBut _ _ (Nat.ne_of_gt hel) (hs₅.extBut _ _ (Nat.ne_of_gt hel) ht₄))
      · rw [hs₇.1, hs₆.1, hs₅.1, hz₄]
      · exact fun b o hbe hbi hb => hs₇.extBut b o hbe (hs₆.extBut b o hbe (hs₅.extBut b o hbe (hk₄ b o hbe hbi hb)))
theorem wpAny_pyNext_enum_item_T {e it l : Addr} {i : Nat} {items : Array Value} {x old : Value} {Q : Option Value → Shared → Prop}
    (he : IsEnum s.heap e it i old) (hit : s.heap.IsTupleIter it l i) (hl : s.heap.IsTuple l items) (hx : items[i]? = some x) (hne : e ≠ it)
    (hQ : ∀ h', IsEnumOut h' e it ((i : Int) + 1) x s.heap.objs.size → h'.IsTupleIter it l (i + 1) →
      h'.get? s.heap.objs.size = some { cls := .type "tuple", data := .seq #[.int i s.toks, x] } → h'.objs.size = s.heap.objs.size + 1 →
      (∀ b o, b ≠ e → b ≠ it → s.heap.get? b = some o → h'.get? b = some o) → Q (some (.ref s.heap.objs.size)) { s with heap := h', toks := s.toks + 1 }) :
    wpAny (model prog w) A (pyNext (.ref e)) Q E s := by
  have hT : s.TypeIs (.ref e) "enumerate" := ⟨_, he, rfl⟩
  unfold pyNext
  exact wpAny_bind (wpAny_attempt (wpAny_callSpecial?_slot (name := Str.ofString "__next__") hT F.slot_enumerate_next
    (wpAny_call_entry F.slot_enumerate_next hT F.entry_enumerate_next
      (enumerate_next_item_T he hit hl hx hne fun h' a b c d k => wpAny_pure (hQ h' a b c d k)) (F.args_enumerate_next_1 _))))
theorem wpAny_pyNext_enum_end_T {e it l : Addr} {i : Nat} {items : Array Value} {old : Value} {Q : Option Value → Shared → Prop} (hh : A.handled = none)
    (he : IsEnum s.heap e it i old) (hit : s.heap.IsTupleIter it l i) (hl : s.heap.IsTuple l items) (hx : items[i]? = none)
    (hQ : ∀ h', Heap.ExtBut it s.heap h' → Q none { s with heap := h' }) : wpAny (model prog w) A (pyNext (.ref e)) Q E s := by
  have hT : s.TypeIs (.ref e) "enumerate" := ⟨_, he, rfl⟩
  unfold pyNext
  refine wpAny_bind (wpAny_attempt (wpAny_callSpecial?_slot (name := Str.ofString "__next__") hT F.slot_enumerate_next
    (wpAny_call_entry F.slot_enumerate_next hT F.entry_enumerate_next ?_ (F.args_enumerate_next_1 _))))
  show wpAny _ _ (field (.ref e) 2 >>= _) _ _ _
  refine wpAny_bind (wpAny_field he rfl (x := .ref it) rfl ?_)
  refine wpAny_bind (RZ.nextOf_tuple_end hh hit hl hx fun h' x he' hx' => ?_)
  obtain ⟨o, ho, hc⟩ := hx'
  refine wpAny_bind (wpAny_isInstance (T := "StopIteration") (b := true) ⟨o, ho, hc⟩ isSubtype_stop ?_)
  exact wpAny_pure (hQ _ he')
end
theorem meets_enumerate_newL_T (l : Addr) (items : Array Value) (n : Nat) (dct : Option Addr) (sl : Array (Option Value)) :
    Meets (Builtin.«enumerate.__new__» ⟨[.type "enumerate", .ref l], []⟩) (fun _ R s => s.heap.get? l = some { cls := .type "tuple", dict := dct, data := .seq items n, slots := sl } ∧
      R (.ok (.ret (.ref (s.heap.push { cls := .type "tuple_iterator", data := .fields #[.ref l, .int 0 0] }).objs.size)))
        { s with heap := (s.heap.push { cls := .type "tuple_iterator", data := .fields #[.ref l, .int 0 0] }).push { cls := .type "enumerate", data := .fields #[.none, .bool false, .ref s.heap.objs.size, rawInt 0, .none, .none] } }) :=
  .of_wp fun prog w A R s h => by
    obtain ⟨hp, g, d, tk, os⟩ := s; obtain ⟨hl, h⟩ := h
    have hsub := sub_enumerate
    have hL : Heap.IsTuple (Shared.heap ⟨hp, g, d, tk, os⟩) l items := ⟨_, hl, rfl, n, rfl⟩
    wp_walk using wpAny_loadPart' hl
    refine wpAny_stack_any fun st => wpAny_pure ?_
    split
    · rename_i c _ _ _ _ _
      cases (c == Value.type "enumerate")
      · wp_walk using wpAny_loadPart' hl, wpAny_pyIter_tuple hL
        exact ⟨_, rfl, h⟩
      · wp_walk using wpAny_loadPart' hl, wpAny_pyIter_tuple hL
        exact ⟨_, rfl, h⟩
    · wp_walk using wpAny_loadPart' hl, wpAny_pyIter_tuple hL
      exact ⟨_, rfl, h⟩

section
variable {prog : Program} {w : World} {A : Around} {E : Value → Shared → Prop} {s : Shared}
theorem call_enumerate_list_T {l : Addr} {items : Array Value} {Q : Value → Shared → Prop} (hL : s.heap.IsTuple l items)
    (h : ∀ h', IsEnum h' (s.heap.objs.size + 1) s.heap.objs.size 0 .none → h'.IsTupleIter s.heap.objs.size l 0 → h'.objs.size = s.heap.objs.size + 2 →
      (∀ b o, s.heap.get? b = some o → h'.get? b = some o) → Q (.ref (s.heap.objs.size + 1)) { s with heap := h' }) :
    wpAny (model prog w) A (call (.type "enumerate") [.ref l]) Q E s := by
  obtain ⟨⟨c, dct, dt, sl⟩, hl, hc, n, hd⟩ := hL
  replace hc : c = .type "tuple" := hc
  replace hd : dt = .seq items n := hd
  subst hc hd
  refine callType_new F.called_enumerate (by decide) (F.typeCall_enumerate_1 _) (F.newCall_enumerate_1 _) (fun obj => F.args_object_init_2 obj _) F.entry_enumerate_new
    (meets_enumerate_newL_T l items n dct sl) ⟨hl, ?_⟩
  have hz : (s.heap.push { cls := .type "tuple_iterator", data := .fields #[.ref l, .int 0 0] }).objs.size = s.heap.objs.size + 1 := Heap.size_push ..
  show _ ∧ _
  rw [hz]
  have he : IsEnum ((s.heap.push { cls := .type "tuple_iterator", data := .fields #[.ref l, .int 0 0] }).push
      { cls := .type "enumerate", data := .fields #[.none, .bool false, .ref s.heap.objs.size, rawInt 0, .none, .none] }) (s.heap.objs.size + 1) s.heap.objs.size 0 .none := by
    have := Heap.get?_push_size (s.heap.push { cls := .type "tuple_iterator", data := .fields #[.ref l, .int 0 0] })
      (o := { cls := .type "enumerate", data := .fields #[.none, .bool false, .ref s.heap.objs.size, rawInt 0, .none, .none] }) rfl
    rw [hz] at this; exact this
  refine ⟨⟨_, he, rfl⟩, h _ he ⟨_, Heap.get?_push_of_some _ (Heap.get?_push_size _ rfl), rfl, rfl⟩ (by rw [Heap.size_push, hz]) fun b o x => Heap.get?_push_of_some _ (Heap.get?_push_of_some _ x)⟩

end
end DLs
namespace DLs
open PySem PySem.Spec PyProof.Rows L2
def Ite_T (K : PySem.W.Frag) (a : Addr) : It :=
  ⟨fun i H => ∃ (xs : List V) (x : V), SqT K H a xs ∧ xs[i]? = some x, fun i H v H' => ∃ T x, v = .ref T ∧ H T = none ∧ H' = upd H T (.tup [.int (i : Nat), x]) ∧ ∀ xs, SqT K H a xs → xs[i]? = some x, fun i H => ∃ xs : List V, SqT K H a xs ∧ xs.length ≤ i⟩
theorem turn_enum_T {P : Program} {w : World} {K : PySem.W.Frag} {elts : List Expr} {kk : Nat} {tpos : Pos} (a e it : Addr) :
    Turn P w K (.Tuple elts kk tpos) (Ite_T K a) [e, it] e (fun i h => (∃ old, IsEnum h e it ((i : Nat) : Int) old) ∧ h.IsTupleIter it a i ∧ e ≠ it) where
  mem := by simp
  obj := fun i h st b hb => by
    obtain ⟨⟨old, he⟩, ⟨o, ho, hc, hd⟩, _⟩ := st
    have e' : b = e ∨ b = it := by simpa using hb
    rcases e' with z | z
    · rw [z]; exact ⟨_, he, fun v q => nomatch q⟩
    · rw [z]; exact ⟨o, ho, fun v q => by rw [hd] at q; cases q⟩
  keep := fun i h h' st k => let ⟨⟨old, he⟩, hi, hne⟩ := st; ⟨⟨old, k e (by simp) _ he⟩, hi.at fun o q => k it (by simp) o q, hne⟩
  item := by
    intro X hP hw hK hc i pins s σ H E I hf st hg
    subst hP hw hK
    obtain ⟨⟨old, he⟩, hit, hne⟩ := st
    obtain ⟨xs, x, hq, hx⟩ := hg
    obtain ⟨its, rv, p, hz⟩ := I.tuple hq
    obtain ⟨u, hu, ru⟩ := rv.get hx
    have hel : e < s.heap.objs.size := Heap.lt_size he
    have hil : it < s.heap.objs.size := by obtain ⟨_, q, _⟩ := hit; exact Heap.lt_size q
    refine wpAny_pyNext_enum_item_T he hit p (x := u) (by simpa using hu) hne fun h' ho hit' hT hsz hk => ?_
    refine ⟨_, rfl, wpAny_letOwnedTupleGo_enum (s := { s with heap := h', toks := s.toks + 1 }) ho fun h'' he' sb => ?_⟩
    have hT2 : h''.get? s.heap.objs.size = some { cls := .type "tuple", data := .seq #[.int i s.toks, u] } := (sb.2 _ (Nat.ne_of_gt hel)).trans hT
    have new : ObjOk X.prog X.w (upd H s.heap.objs.size (.tup [.int (i : Nat), x])) h'' s.heap.objs.size (.tup [.int (i : Nat), x]) :=
      ⟨by show 2 ≤ sizeLine; decide, [.int i s.toks, u], .cons ⟨_, rfl⟩ (.cons ru .nil), ⟨_, hT2, rfl, _, rfl⟩⟩
    have I1 : Inv X pins σ (upd H s.heap.objs.size (.tup [.int (i : Nat), x])) { s with heap := h'', toks := s.toks + 1 } :=
      I.turnedNew (ch := [e, it]) (fun b ob hb q => (sb.2 b (fun z => hb (by simp [z]))).trans (hk b ob (fun z => hb (by simp [z])) (fun z => hb (by simp [z])) q)) hf (Nat.le_refl _) new
    refine ⟨.ref s.heap.objs.size, _, I1, rfl, ⟨_, x, rfl, I.hok.fresh (Nat.le_refl _), rfl, fun ys hy => by rw [I.tuple_inj hy hq]; exact hx⟩, ⟨⟨u, ?_⟩, hit'.at fun o q => (sb.2 it (Ne.symm hne)).trans q, hne⟩, fun b hb => ?_⟩
    · have e1 : ((i + 1 : Nat) : Int) = (i : Int) + 1 := by omega
      rw [e1]; exact he'
    · have hb' : b < s.heap.objs.size := by
        have e' : b = e ∨ b = it := by simpa using hb
        rcases e' with z | z
        · rw [z]; exact hel
        · rw [z]; exact hil
      rw [upd_ne (Nat.ne_of_lt hb')]
      exact (hf b hb).1
  done := by
    intro X hP hw hK hc i pins s σ H E I hf st hg
    subst hP hw hK
    obtain ⟨⟨old, he⟩, hit, hne⟩ := st
    obtain ⟨xs, hq, hx⟩ := hg
    obtain ⟨its, rv, p, hz⟩ := I.tuple hq
    obtain ⟨f0, f1, f2, f3, f4, f5⟩ := hf it (by simp)
    have hl := rv.length
    exact wpAny_pyNext_enum_end_T (I.ok.hd hc) he hit p (by simp; omega) fun h' eb => ⟨rfl, I.turned (t' := s.toks) (fun b o hb q => eb b o hb q) f0 f1 f3 f4 f5⟩
  self := fun A i s Q E st h => let ⟨⟨_, he⟩, _⟩ := st; wpAny_pyIter_enum he h
def iEnum_T (K : PySem.W.Frag) (ta : TA) : TI := fun σ H R => ta σ H fun vs H1 => ∃ a xs, vs = [.ref a] ∧ SqT K H1 a xs ∧ R (Ite_T K a) H1
theorem pi_enum_T {X : Cx} {e : Expr} {ta : TA} {p pos tpos : Pos} {elts : List Expr} {kk : Nat} (hg : Gl X "enumerate") (hm : X.mg "enumerate" = none) (ha : PA X [e] ta) (hs : starEach [e] X.env = [(false, eval e X.env)] := by rfl) :
    PI X (.Tuple elts kk tpos) (.Call (.Name "enumerate" p) [e] [] pos) (iEnum_T X.K ta) := by
  refine ⟨fun pins s σ H R I h => ?_⟩
  refine Call_ (ld_blt I hg hm boot_enumerate (PyProof.Rows.callWith_type1 (thn (ha.run pos pins s σ H _ I h) fun us s1 ⟨vs, H1, I1, r1, q1⟩ => ?_) hs rfl))
  obtain ⟨a, xs, ex, hq, q⟩ := q1
  subst ex
  cases r1 with
  | cons r rr =>
    cases rr
    cases r
    obtain ⟨its, rv, p', hz⟩ := I1.tuple hq
    refine call_enumerate_list_T p' fun h' he hit hsz hk => wpAny_pyIter_enum he ?_
    have I2 : Inv X pins σ H1 { s1 with heap := h' } := I1.kept (t' := s1.toks) hk
    refine ⟨s1.heap.objs.size + 1, [s1.heap.objs.size + 1, s1.heap.objs.size], _, _, H1, rfl, I2, turn_enum_T a (s1.heap.objs.size + 1) s1.heap.objs.size, ⟨⟨.none, he⟩, hit, Nat.succ_ne_self _⟩, fun b hb => ?_, q⟩
    have e' : b = s1.heap.objs.size + 1 ∨ b = s1.heap.objs.size := by simpa using hb
    have hle : s1.heap.objs.size ≤ b := by
      rcases e' with z | z
      · rw [z]; exact Nat.le_add_right _ _
      · rw [z]; exact Nat.le_refl _
    exact I1.fpOk hle (I1.hok.fresh hle)

end DLs
namespace DL
open PySem PySem.Spec L2
def gEnum2 : List D → Option (List D)
  | [.list xs] => some (enumD xs)
  | [.tuple xs] => some (enumD xs)
  | _ => none
def iEn2 (K : PySem.W.Frag) (ta : TA) : TI := fun σ H R => ta σ H fun vs H1 => ∃ a xs, vs = [.ref a] ∧ ((SqL K H1 a xs ∧ R (Ite K a) H1) ∨ (SqT K H1 a xs ∧ R (DLs.Ite_T K a) H1))
theorem walk_enumT {K : PySem.W.Frag} {a : Addr} {xs : List V} : Walk (DLs.Ite_T K a) xs.length (fun H => SqT K H a xs) (YPair (fun i => some (.int (i : Nat))) (fun i => xs[i]?)) := by
  refine ⟨fun i _ hi q => ?_, fun _ q => ⟨xs, q, Nat.le_refl _⟩, fun i H v H' _ q y => ?_⟩
  · exact ⟨xs, xs[i], q, by simp [hi]⟩
  · obtain ⟨T, x, h1, h2, h3, h4⟩ := y
    exact ⟨T, _, x, h1, h2, h3, rfl, h4 xs q⟩
end DL

namespace DLs
open PySem PySem.Spec PyProof.Rows L2
theorem pi_enum2 {X : Cx} {e : Expr} {ta : TA} {p pos tpos : Pos} {elts : List Expr} {kk : Nat} (hg : Gl X "enumerate") (hm : X.mg "enumerate" = none) (ha : PA X [e] ta) (hs : starEach [e] X.env = [(false, eval e X.env)] := by rfl) :
    PI X (.Tuple elts kk tpos) (.Call (.Name "enumerate" p) [e] [] pos) (DL.iEn2 X.K ta) := by
  refine ⟨fun pins s σ H R I h => ?_⟩
  refine Call_ (ld_blt I hg hm boot_enumerate (PyProof.Rows.callWith_type1 (thn (ha.run pos pins s σ H _ I h) fun us s1 ⟨vs, H1, I1, r1, q1⟩ => ?_) hs rfl))
  obtain ⟨a, xs, ex, hq⟩ := q1
  subst ex
  cases r1 with
  | cons r rr =>
    cases rr
    cases r
    rcases hq with ⟨hq, q⟩ | ⟨hq, q⟩
    · obtain ⟨its, rv, p', hz⟩ := I1.list hq
      refine call_enumerate_list p'.isList fun h' he hit hsz hk => wpAny_pyIter_enum he ?_
      have I2 : Inv X pins σ H1 { s1 with heap := h' } := I1.kept (t' := s1.toks) hk
      refine ⟨s1.heap.objs.size + 1, [s1.heap.objs.size + 1, s1.heap.objs.size], _, _, H1, rfl, I2, turn_enum a (s1.heap.objs.size + 1) s1.heap.objs.size, ⟨⟨.none, he⟩, hit, Nat.succ_ne_self _⟩, fun b hb => ?_, q⟩
      have e' : b = s1.heap.objs.size + 1 ∨ b = s1.heap.objs.size := by simpa using hb
      have hle : s1.heap.objs.size ≤ b := by
        rcases e' with z | z
        · rw [z]; exact Nat.le_add_right _ _
        · rw [z]; exact Nat.le_refl _
      exact I1.fpOk hle (I1.hok.fresh hle)
    · obtain ⟨its, rv, p', hz⟩ := I1.tuple hq
      refine call_enumerate_list_T p' fun h' he hit hsz hk => wpAny_pyIter_enum he ?_
      have I2 : Inv X pins σ H1 { s1 with heap := h' } := I1.kept (t' := s1.toks) hk
      refine ⟨s1.heap.objs.size + 1, [s1.heap.objs.size + 1, s1.heap.objs.size], _, _, H1, rfl, I2, turn_enum_T a (s1.heap.objs.size + 1) s1.heap.objs.size, ⟨⟨.none, he⟩, hit, Nat.succ_ne_self _⟩, fun b hb => ?_, q⟩
      have e' : b = s1.heap.objs.size + 1 ∨ b = s1.heap.objs.size := by simpa using hb
      have hle : s1.heap.objs.size ≤ b := by
        rcases e' with z | z
        · rw [z]; exact Nat.le_add_right _ _
        · rw [z]; exact Nat.le_refl _
      exact I1.fpOk hle (I1.hok.fresh hle)
end DLs
namespace DL
open PySem PySem.Spec L2
section
variable {X : Cx} {E : XK} {fs : AM}
theorem pdi_enum2 {a : Expr} {p pos tpos : Pos} {elts : List Expr} {kk : Nat} (hg : Gl X "enumerate") (hm : X.mg "enumerate" = none) (ha : PDA X E [a] fs)
    (hs : starEach [a] X.env = [(false, eval a X.env)] := by rfl) : PDI X E (.Tuple elts kk tpos) (.Call (.Name "enumerate" p) [a] [] pos) (iCB gEnum2 fs) := PI.imp (DLs.pi_enum2 hg hm ha hs) fun σ H R h => by
  refine tA_mono (fun vs H1 h => ?_) (icb_go h)
  obtain ⟨G, ds, rs, ex, k, hz, p⟩ := h
  unfold gEnum2 at hz
  split at hz
  · cases hz
    cases k with
    | cons k1 k2 =>
      cases k2
      cases k1 with
      | @lst a vs xs q1 r1 =>
        refine ⟨a, vs, rfl, .inl ⟨ex_l ex q1, p _ ?_⟩⟩
        have hl := dps_len r1
        refine itd_pair (n := vs.length) (by rw [enumD, zipD_len, rngD_len, Nat.min_self, hl]) walk_enum (fun P' H' e => ex_l ex_hd (ex_l e q1)) fun i x y e1 e2 => ?_
        cases e1
        obtain ⟨e, e4, k2⟩ := dps_get r1 e2
        obtain ⟨hi, _⟩ := List.getElem?_eq_some_iff.mp e4
        refine ⟨.int (i : Nat), e, ?_, .int _, k2⟩
        unfold enumD
        exact zipD_get (by rw [rngD_get hi]; simp) e4
  · cases hz
    cases k with
    | cons k1 k2 =>
      cases k2
      cases k1 with
      | @tup a vs xs q1 r1 =>
        refine ⟨a, vs, rfl, .inr ⟨ex_t ex q1, p _ ?_⟩⟩
        have hl := dps_len r1
        refine itd_pair (n := vs.length) (by rw [enumD, zipD_len, rngD_len, Nat.min_self, hl]) walk_enumT (fun P' H' e => ex_t ex_hd (ex_t e q1)) fun i x y e1 e2 => ?_
        cases e1
        obtain ⟨e, e4, k2⟩ := dps_get r1 e2
        obtain ⟨hi, _⟩ := List.getElem?_eq_some_iff.mp e4
        refine ⟨.int (i : Nat), e, ?_, .int _, k2⟩
        unfold enumD
        exact zipD_get (by rw [rngD_get hi]; simp) e4
  · cases hz
end
/-! ### < of ints, of tuples of ints -/
def rLt2 (K : PySem.W.Frag) : R2 := fun x y H Q => rI0 (fun i j => .bl (decide (i < j))) x y H Q ∨ rLtT K x y H Q
theorem op_lt2 {X : Cx} (hu : X.A.units < cLine) : OpR X (compareOp .Lt) (rLt2 X.K) := by
  intro pins s σ H x y v u Q I rx ry h
  rcases h with h | h
  · exact op_lt pins s σ H x y v u Q I rx ry h
  · exact op_ltT hu pins s σ H x y v u Q I rx ry h
def gLt : D → D → Option D
  | .int i, .int j => some (.bool (decide (i < j)))
  | .tuple xs, .tuple ys => match intsOf xs, intsOf ys with
    | some ns, some ms => some (.bool (HT.lexLt ns ms))
    | _, _ => none
  | _, _ => none
theorem lt_ok {K : PySem.W.Frag} : OpD K (rLt2 K) gLt := by
  intro P H x y d e z hP k1 k2 hg Q q
  unfold gLt at hg
  split at hg
  · cases hg
    rw [dp_int k1, dp_int k2]
    exact .inl ⟨_, _, rfl, rfl, q _ _ (Ex.refl _) (.bl _)⟩
  · rename_i xs ys
    split at hg
    · rename_i ns ms e1 e2
      cases hg
      obtain ⟨a, vs, rfl, h1, h2⟩ := dp_tup k1
      obtain ⟨b, ws, rfl, h3, h4⟩ := dp_tup k2
      obtain ⟨rfl, _⟩ := ints_dps h2 e1
      obtain ⟨rfl, _⟩ := ints_dps h4 e2
      exact .inr ⟨a, b, ns, ms, rfl, rfl, ex_t ex_hd h1, ex_t ex_hd h3, q _ _ (Ex.refl _) (.bl _)⟩
    · cases hg
  · cases hg
end DL

namespace DL
open PySem PySem.Spec L2
/-! ### sorted(set(xs)), xs rows of small ints -/
def ddR : List (List Int) → List (List Int)
  | [] => []
  | r :: rs => if rs.contains r then ddR rs else r :: ddR rs
theorem ddR_mem {r : List Int} : ∀ {rs : List (List Int)}, r ∈ ddR rs ↔ r ∈ rs
  | [] => Iff.rfl
  | q :: rs => by
    unfold ddR
    split
    · rename_i h
      rw [ddR_mem, List.mem_cons]
      exact ⟨.inr, fun z => z.elim (fun e => by subst e; simpa using h) id⟩
    · rw [List.mem_cons, List.mem_cons, ddR_mem]
theorem ddR_nodup : ∀ (rs : List (List Int)), (ddR rs).Nodup
  | [] => .nil
  | q :: rs => by
    unfold ddR
    split
    · exact ddR_nodup rs
    · rename_i h
      refine List.nodup_cons.mpr ⟨fun z => h ?_, ddR_nodup rs⟩
      simpa using ddR_mem.mp z
def codeLe (a b : List Int) : Bool := decide (TS.code 64 a ≤ TS.code 64 b)
def setSortR (rs : List (List Int)) : List (List Int) := (ddR rs).mergeSort codeLe
def rowD (r : List Int) : D := .tuple (r.map .int)
def rowsOk (rs : List (List Int)) : Bool := decide (rs.length < 64) && rs.all fun r => decide (1 ≤ r.length) && r.all (fun n => decide (0 ≤ n) && decide (n < 64)) && rs.all fun q => q.length == r.length
def gSetSort (d : D) : Option S := match seqOf d with
  | some ds => (match rowsOf ds with
    | some rs => if rowsOk rs = true then some (.dat (.list ((setSortR rs).map rowD))) else none
    | none => none)
  | none => none
theorem code_inj : ∀ {a b : List Int}, a.length = b.length → TS.Bd 64 a → TS.Bd 64 b → TS.code 64 a = TS.code 64 b → a = b
  | [], [], _, _, _, _ => rfl
  | [], _ :: _, h, _, _, _ => by simp at h
  | _ :: _, [], h, _, _, _ => by simp at h
  | x :: a, y :: b, h, h1, h2, e => by
    have hl : a.length = b.length := by simpa using h
    rcases Int.lt_trichotomy x y with c | c | c
    · have := TS.code_lt hl h1.tail h2.tail c; omega
    · subst c
      have e2 : TS.code 64 a = TS.code 64 b := by
        have : x * 64 ^ a.length + TS.code 64 a = x * 64 ^ b.length + TS.code 64 b := e
        rw [hl] at this
        omega
      rw [code_inj hl h1.tail h2.tail e2]
    · have := TS.code_lt hl.symm h2.tail h1.tail c; omega
theorem codeLe_trans (a b c : List Int) (h : codeLe a b = true) (h' : codeLe b c = true) : codeLe a c = true := by
  unfold codeLe at *
  simp at *
  omega
theorem codeLe_total (a b : List Int) : (codeLe a b || codeLe b a) = true := by
  unfold codeLe
  simp
  omega
theorem setSortR_perm (rs : List (List Int)) : (setSortR rs).Perm (ddR rs) := List.mergeSort_perm _ _
theorem setSortR_mem {rs : List (List Int)} {r : List Int} : r ∈ setSortR rs ↔ r ∈ rs := (setSortR_perm rs).mem_iff.trans ddR_mem
theorem setSortR_nodup (rs : List (List Int)) : (setSortR rs).Nodup := (setSortR_perm rs).nodup_iff.mpr (ddR_nodup rs)
theorem setSortR_le (rs : List (List Int)) : (setSortR rs).Pairwise fun a b => TS.code 64 a ≤ TS.code 64 b := (List.pairwise_mergeSort codeLe_trans codeLe_total (ddR rs)).imp fun h => by simpa [codeLe] using h
theorem rowsOk_get {rs : List (List Int)} (h : rowsOk rs = true) : rs.length < 64 ∧ (∀ r ∈ rs, 1 ≤ r.length ∧ TS.Bd 64 r) ∧ ∀ r ∈ rs, ∀ q ∈ rs, q.length = r.length := by
  unfold rowsOk at h
  simp only [Bool.and_eq_true, decide_eq_true_eq, List.all_eq_true, beq_iff_eq] at h
  exact ⟨h.1, fun r hr => ⟨(h.2 r hr).1.1, fun m hm => (h.2 r hr).1.2 m hm⟩, fun r hr q hq => (h.2 r hr).2 q hq⟩
/-- what the model's sort leaves is that -/
theorem setSort_eq {ks L : List (List Int)} (ok : rowsOk ks = true) (hn : L.Nodup) (hp : L.Pairwise fun a b => TS.code 64 a ≤ TS.code 64 b) (hm : ∀ r, r ∈ L ↔ r ∈ ks) : L = setSortR ks := by
  obtain ⟨_, h1, h2⟩ := rowsOk_get ok
  refine List.Perm.eq_of_pairwise (le := fun a b => TS.code 64 a ≤ TS.code 64 b) (fun a b ha hb x y => ?_) hp (setSortR_le ks) ((List.perm_ext_iff_of_nodup hn (setSortR_nodup ks)).mpr fun r => (hm r).trans setSortR_mem.symm)
  have ha' := (hm a).mp ha
  have hb' := setSortR_mem.mp hb
  exact code_inj (h2 b hb' a ha') (h1 a ha').2 (h1 b hb').2 (by omega)
theorem rows_dps {K : PySem.W.Frag} {H : Hp} : ∀ {vs : List V} {ds : List D} {rs : List (List Int)}, DpAll K H vs ds → rowsOf ds = some rs → ∃ ks : List (Addr × List Int), vs = ks.map (fun p => V.ref p.1) ∧ rs = ks.map (·.2) ∧ ∀ p ∈ ks, SqT K H p.1 (p.2.map V.int)
  | _, _, _, .nil, e => by cases e; exact ⟨[], rfl, rfl, fun _ h => by simp at h⟩
  | _, _, _, .cons (ds := ds) h hs, e => by
    unfold rowsOf at e
    split at e
    · rename_i x xs e1 e2
      cases e
      obtain ⟨ks, k1, k2, k3⟩ := rows_dps hs e2
      unfold rowOf at e1
      split at e1
      · obtain ⟨a, ws, rfl, q1, q2⟩ := dp_tup h
        obtain ⟨rfl, _⟩ := ints_dps q2 e1
        refine ⟨(a, x) :: ks, by rw [k1]; rfl, by rw [k2]; rfl, fun p hp => ?_⟩
        rcases List.mem_cons.mp hp with rfl | hp
        · exact q1
        · exact k3 p hp
      · cases e1
    · cases e
/-- set(xs), xs a list or a tuple of tuples of ints -/
def rSetOfT2 (K : PySem.W.Frag) (P : Program) (w : World) : List V → Hp → VK → Prop := fun xs H Q => ∃ (l : Addr) (ks : List (Addr × List Int)), xs = [V.ref l] ∧ (SqL K H l (ks.map fun p => V.ref p.1) ∨ SqT K H l (ks.map fun p => V.ref p.1)) ∧ (∀ p ∈ ks, SqT K H p.1 (p.2.map V.int)) ∧ ks.length < 64 ∧
  ∀ a L, H a = none → (∀ p ∈ L, p ∈ ks) → (∀ p ∈ ks, p.2 ∈ L.map (·.2)) → Q (.ref a) (upd H a (SetTO P w a L))
end DL
namespace DLs
open PySem PySem.Spec PyProof.Rows L2
theorem cr_setOfT2 {X : Cx} (hc : X.calm = true) (hu : X.A.units + 64 < cLine) : CallR X (.type "set") (DL.rSetOfT2 X.K X.prog X.w) := by
  intro pins s σ H xs us Q I r h
  obtain ⟨l, ks, rfl, hl, hk, hf, q⟩ := h
  rw [Vals.ref1 r]
  have hn : H s.heap.objs.size = none := I.hok.fresh (Nat.le_refl _)
  rcases hl with hl | hl
  · obtain ⟨its, rv, pl, hz⟩ := I.list hl
    refine call_set_tups (P := X.prog) (w := X.w) ks (I.ok.hd hc) pl.isList (by simpa using refs_of_vals rv) (fun p hp => I.isT (hk p hp)) hf (by omega) fun h' tk L es ep t R g k => ?_
    refine ⟨.ref s.heap.objs.size, upd H s.heap.objs.size (SetTO X.prog X.w s.heap.objs.size L), I.laid (t' := tk) k (Nat.le_refl _) (setTO_new R.t0), rfl, q _ L hn (fun p hp => ?_) fun p hp => ?_⟩
    · exact List.mem_of_mem_take (g.sub p hp)
    · exact g.all p (by rw [List.take_length]; exact hp)
  · obtain ⟨its, rv, pl, hz⟩ := I.tuple hl
    refine set_of_tuple (P := X.prog) (w := X.w) ks (I.ok.hd hc) pl (by simpa using refs_of_vals rv) (fun p hp => I.isT (hk p hp)) hf (by omega) fun h' tk L es ep t R g k => ?_
    refine ⟨.ref s.heap.objs.size, upd H s.heap.objs.size (SetTO X.prog X.w s.heap.objs.size L), I.laid (t' := tk) k (Nat.le_refl _) (setTO_new R.t0), rfl, q _ L hn (fun p hp => ?_) fun p hp => ?_⟩
    · exact List.mem_of_mem_take (g.sub p hp)
    · exact g.all p (by rw [List.take_length]; exact hp)
end DLs
namespace DL
open PySem PySem.Spec L2
def mSS (f : EM) : EM := bindD f fun d => optS (gSetSort d)
theorem ints_map_dps {K : PySem.W.Frag} {H : Hp} : ∀ ns : List Int, DpAll K H (ns.map V.int) (ns.map PyData.int)
  | [] => .nil
  | n :: ns => .cons (.int n) (ints_map_dps ns)
theorem refs_dps {K : PySem.W.Frag} {H : Hp} : ∀ {L : List (Addr × List Int)}, (∀ p ∈ L, SqT K H p.1 (p.2.map V.int)) → DpAll K H (L.map fun p => V.ref p.1) ((L.map (·.2)).map rowD)
  | [], _ => .nil
  | p :: L, h => .cons (.tup (h p (by simp)) (ints_map_dps _)) (refs_dps fun q hq => h q (by simp [hq]))
section
variable {X : Cx} {E : XK} {e : Expr} {fe : EM} {pos : Pos}
theorem pd_sortset {p1 p2 pos2 : Pos} (hc : X.calm = true) (hu : X.A.units + 64 < cLine) (hg : Gl X "sorted") (hm : X.mg "sorted" = none) (hg2 : Gl X "set") (hm2 : X.mg "set" = none) (he : PD X E e fe)
    (hs1 : starEach [e] X.env = (false, eval e X.env) :: starEach [] X.env := by rfl) (hpl : (backTo pos2 (starEach ([] : List Expr) X.env)).any (·.1) = false := by rfl)
    (hs2 : starEach [.Call (.Name "set" p2) [e] [] pos2] X.env = (false, eval (.Call (.Name "set" p2) [e] [] pos2) X.env) :: starEach [] X.env := by rfl) (hpl2 : (backTo pos (starEach ([] : List Expr) X.env)).any (·.1) = false := by rfl) :
    PD X E (.Call (.Name "sorted" p1) [.Call (.Name "set" p2) [e] [] pos2] [] pos) (mSS fe) := by
  have h1 := pe_callTy (p := p2) (DLs.cr_setOfT2 hc hu) hg2 hm2 PyProof.Rows.boot_set (pa_cons he pa_nil hs1) (by decide) (by decide) hs1 hpl
  have h2 := pe_callB (p := p1) (cr_sortedT hc) hg hm (by rfl) (pa_cons h1 pa_nil hs2) (by decide) (by decide) hs2 hpl2
  refine PE.imp h2 fun σ H Q h => ?_
  obtain ⟨P, o, ρ, res, a, e, p⟩ := h
  refine tE_mono (fun x H1 h => ?_) (bindD_go a .refl e p)
  obtain ⟨ρ1, d, _, c1, a1, k, h⟩ := h
  obtain ⟨z, hz, rfl⟩ := optS_some h
  unfold gSetSort at hz
  split at hz
  · rename_i ds hds
    split at hz
    · rename_i rs hrs
      split at hz
      · rename_i ok
        cases hz
        obtain ⟨l, vs, rfl, hl, kd⟩ := seq_dp k hds
        obtain ⟨ks, rfl, rfl, hk⟩ := rows_dps kd hrs
        obtain ⟨o1, o2, o3⟩ := rowsOk_get ok
        refine ⟨l, ks, rfl, hl.elim (fun z => .inl (ex_l ex_hd z)) (fun z => .inr (ex_t ex_hd z)), fun p hp => ex_t ex_hd (hk p hp), by simpa using o1, fun a L ha hL1 hL2 => ?_⟩
        have hL : ∀ p ∈ L, SqT X.K (hd (hid P o) H1) p.1 (p.2.map V.int) := fun p hp => hk p (hL1 p hp)
        have hmem : ∀ r, r ∈ L.map (·.2) ↔ r ∈ ks.map (·.2) := fun r => by
          constructor
          · intro h
            obtain ⟨p, hp, rfl⟩ := List.mem_map.mp h
            exact List.mem_map.mpr ⟨p, hL1 p hp, rfl⟩
          · intro h
            obtain ⟨p, hp, rfl⟩ := List.mem_map.mp h
            exact hL2 p hp
        have ex1 : Ex H1 (upd H1 a (SetTO X.prog X.w a L)) := Ex.new ha
        have hdim : ∃ n, 1 ≤ n ∧ ∀ p ∈ L, p.2.length = n ∧ TS.Bd 64 p.2 := by
          cases hks : L with
          | nil => exact ⟨1, Nat.le_refl _, fun p hp => by simp at hp⟩
          | cons q L' =>
            have hq : q.2 ∈ ks.map (·.2) := List.mem_map.mpr ⟨q, hL1 q (by rw [hks]; simp), rfl⟩
            refine ⟨q.2.length, (o2 _ hq).1, fun p hp => ?_⟩
            have hp' : p.2 ∈ ks.map (·.2) := List.mem_map.mpr ⟨p, hL1 p (by rw [hks]; exact hp), rfl⟩
            exact ⟨o3 _ hq _ hp', (o2 _ hp').2⟩
        obtain ⟨n, hn1, hn2⟩ := hdim
        refine ⟨a, L, n, 64, rfl, by simp [upd], fun p hp => ex_t ex1 (ex_t ex_hd (hL p hp)), hn1, hn2, fun L' q pm nd _ pw hq => ?_⟩
        have hL' : L'.map (·.2) = setSortR (ks.map (·.2)) := setSort_eq ok nd (List.pairwise_map.mpr pw) fun r => by rw [← hmem r]; exact (pm.map (·.2)).mem_iff
        have hdp := refs_dps (L := L') fun p hp => hL p (pm.mem_iff.mp hp)
        rw [hL'] at hdp
        have c2 : Chg o H1 (upd (upd H1 a (SetTO X.prog X.w a L)) q (.lst (L'.map fun p => V.ref p.1))) := .of (ex1.trans (.new hq))
        have a2 := a1.ext (ex1.trans (Ex.new (o := .lst (L'.map fun p => V.ref p.1)) hq))
        refine p _ _ (c1.trans c2) ⟨a2, new_lst (fun b hb => ?_) hq (dps_mono (ex_hd_hd ex1) hdp)⟩
        obtain ⟨u, hu⟩ := a1.domH hb
        exact ⟨u, ex1 b u hu⟩
      · cases hz
    · cases hz
  · cases hz
end
end DL

namespace DL
open PySem PySem.Spec L2
/-! ### several values at once -/
/-- values held: data, new own objects -/
inductive Hld (K : PySem.W.Frag) (G H : Hp) : List V → List S → List Addr → Prop where
  | nil : Hld K G H [] [] []
  | dat {v : V} {d : D} {vs : List V} {ss : List S} {as : List Addr} : Dp K G v d → Hld K G H vs ss as → Hld K G H (v :: vs) (.dat d :: ss) as
  | own {a : Addr} {s : S} {vs : List V} {ss : List S} {as : List Addr} : OwnOk K G H a s → a ∉ as → Hld K G H vs ss as → Hld K G H (.ref a :: vs) (s :: ss) (a :: as)
theorem Hld.mono {K : PySem.W.Frag} {G G' H : Hp} (e : Ex G G') : ∀ {vs : List V} {ss : List S} {as : List Addr}, Hld K G H vs ss as → Hld K G' H vs ss as
  | _, _, _, .nil => .nil
  | _, _, _, .dat h r => .dat (dp_mono e h) (r.mono e)
  | _, _, _, .own h n r => .own (h.imp e fun _ k => k) n (r.mono e)
abbrev plusL (P : Addr → Prop) (as : List Addr) : Addr → Prop := fun b => P b ∨ b ∈ as
theorem plusL_cons (P : Addr → Prop) (a : Addr) (as : List Addr) : plusL (plusA P a) as = plusL P (a :: as) := by
  funext b
  simp only [plusL, plusA, List.mem_cons, eq_iff_iff]
  constructor
  · rintro ((h | h) | h)
    · exact .inl h
    · exact .inr (.inl h)
    · exact .inr (.inr h)
  · rintro (h | h | h)
    · exact .inl (.inl h)
    · exact .inl (.inr h)
    · exact .inr h
theorem plusA_L (P : Addr → Prop) (a : Addr) (as : List Addr) : plusA (plusL P as) a = plusL P (a :: as) := by
  funext b
  simp only [plusL, plusA, List.mem_cons, eq_iff_iff]
  constructor
  · rintro ((h | h) | h)
    · exact .inl h
    · exact .inr (.inr h)
    · exact .inr (.inl h)
  · rintro (h | h | h)
    · exact .inl (.inl h)
    · exact .inr h
    · exact .inl (.inr h)
theorem plusL_nil (P : Addr → Prop) : plusL P [] = P := by
  funext b
  simp [plusL]
abbrev LM := Env → Option (Sum (List S) (Str × Option D) × Env)
def parE : List EM → LM
  | [], ρ => some (.inl [], ρ)
  | f :: fs, ρ => match f ρ with
    | some (.ok s, ρ1) => (match parE fs ρ1 with
      | some (.inl ss, ρ2) => some (.inl (s :: ss), ρ2)
      | some (.inr x, ρ2) => some (.inr x, ρ2)
      | none => none)
    | some (.ex c p, ρ1) => some (.inr (c, p), ρ1)
    | none => none
def setAll (np : Nat) : List Nat → List S → Env → Option Env
  | [], [], ρ => some ρ
  | i :: is, s :: ss, ρ => if okset np i ρ = true then setAll np is ss (ρ.set i (some s)) else none
  | _, _, _ => none
def setV : List Nat → List V → St → St
  | i :: is, v :: vs, σ => setV is vs (σ.set i (some v))
  | _, _, σ => σ
def parS (np : Nat) (is : List Nat) (fs : List EM) : SM := fun ρ => match parE fs ρ with
  | some (.inl ss, ρ1) => (match setAll np is ss ρ1 with
    | some ρ2 => some (.nx ρ2)
    | none => none)
  | some (.inr (c, p), ρ1) => some (.ex c p ρ1)
  | none => none
def tAll (K : PySem.W.Frag) (mg : Str → Option Value) (E : XK) : List EM → TA
  | [] => tNil
  | f :: fs => tCons (tE K mg E f) (tAll K mg E fs)
theorem XR.up {K : PySem.W.Frag} {mg : Str → Option Value} {G G' H : Hp} {c : Str} {p : Option D} {cls : Value} {dx : Option Addr} (e : Ex G G') (h : XR K mg G H c p cls dx) : XR K mg G' H c p cls dx := by
  obtain ⟨C, h1, h2, h3⟩ := h
  refine ⟨C, h1, h2, ?_⟩
  cases p with
  | none => exact h3
  | some d =>
    obtain ⟨a, f, v, e1, e2, e3⟩ := h3
    exact ⟨a, f, v, e1, e2, dp_mono e e3⟩
theorem par_go {K : PySem.W.Frag} {mg : Str → Option Value} {E : XK} {o : Ow} {σ : St} {Q : List V → Hp → Prop} : ∀ (fs : List EM) {P : Addr → Prop} {ρ ρ' : Env} {H : Hp} {res : Sum (List S) (Str × Option D)}, At K P o ρ σ H → parE fs ρ = some (res, ρ') →
    (match res with
    | .inl ss => ∀ vs as H', Chg o H H' → At K (plusL P as) o ρ' σ H' → Hld K (hd (hid (plusL P as) o) H') H' vs ss as → (∀ a ∈ as, H a = none ∧ ¬ hid P o a) → Q vs H'
    | .inr (c, p) => ExPost K mg E P o ρ' σ H c p) → tAll K mg E fs σ H Q
  | [], P, ρ, ρ', H, res, a, e, p => by
    cases e
    refine p [] [] H .refl ?_ .nil fun a h => by simp at h
    rw [plusL_nil]; exact a
  | f :: fs, P, ρ, ρ', H, res, a, e, p => by
    unfold parE at e
    cases hf : f ρ with
    | none => rw [hf] at e; cases e
    | some r1 =>
      obtain ⟨r, ρ1⟩ := r1
      rw [hf] at e
      refine ⟨P, o, ρ, _, a, hf, ?_⟩
      cases r with
      | ex n pl =>
        cases e
        exact p
      | ok s =>
        intro x H1 c1 ok
        simp only at e
        cases hr : parE fs ρ1 with
        | none => rw [hr] at e; cases e
        | some r2 =>
          obtain ⟨r2, ρ2⟩ := r2
          rw [hr] at e
          cases r2 with
          | inr y =>
            cases e
            obtain ⟨c, pl⟩ := y
            have lift : ∀ P', (∀ b, P b → P' b) → ExPost K mg E P' o ρ' σ H1 c pl := fun P' hP cls dx H' c2 a2 xr => p cls dx H' (c1.trans c2) (a2.less hP) (xr.up (ex_hd_le fun b z => z.elim (fun z => .inl (hP b z)) .inr))
            have own : (∃ b, x = .ref b ∧ H b = none ∧ ¬ hid P o b ∧ At K (plusA P b) o ρ1 σ H1 ∧ OwnOk K (hd (hid (plusA P b) o) H1) H1 b s) → tAll K mg E fs σ H1 fun xs H2 => Q (x :: xs) H2 := by
              rintro ⟨b, rfl, h2, h3, h4, h5⟩
              exact par_go fs h4 hr (lift (plusA P b) fun _ z => Or.inl z)
            cases s with
            | dat d => exact par_go fs ok.1 hr (lift P fun _ z => z)
            | own xs => exact own ok
            | odk xs => exact own ok
            | odt xs => exact own ok
          | inl ss =>
            cases e
            have own : (∃ b, x = .ref b ∧ H b = none ∧ ¬ hid P o b ∧ At K (plusA P b) o ρ1 σ H1 ∧ OwnOk K (hd (hid (plusA P b) o) H1) H1 b s) → tAll K mg E fs σ H1 fun xs H2 => Q (x :: xs) H2 := by
              rintro ⟨b, rfl, h2, h3, h4, h5⟩
              refine par_go fs h4 hr fun vs as H2 c2 a2 k2 hn => ?_
              have nb : b ∉ as := fun z => (hn b z).2 (.inl (.inr rfl))
              have nob : ¬ Own o b := fun z => h3 (.inr z)
              have ex : Ex (hd (hid (plusA P b) o) H1) (hd (hid (plusL (plusA P b) as) o) H2) := fun c u hc => by
                obtain ⟨n, hc⟩ := hd_some.mp hc
                refine hd_some.mpr ⟨fun z => ?_, c2.keep c u hc fun z => n (.inr z)⟩
                rcases z with (z | z) | z
                · exact n (.inl z)
                · rw [(hn c z).1] at hc; cases hc
                · exact n (.inr z)
              have k1 := h5.imp ex fun u hu => c2.keep b u hu nob
              rw [plusL_cons] at a2 k2 k1
              refine p (.ref b :: vs) (b :: as) H2 (c1.trans c2) a2 (.own k1 nb k2) fun c hc => ?_
              rcases List.mem_cons.mp hc with rfl | hc
              · exact ⟨h2, h3⟩
              · exact ⟨c1.back (hn c hc).1, fun z => (hn c hc).2 (z.elim (fun z => .inl (.inl z)) .inr)⟩
            cases s with
            | dat d =>
              obtain ⟨a1, dx⟩ := ok
              refine par_go fs a1 hr fun vs as H2 c2 a2 k2 hn => ?_
              have ex : Ex (hd (hid P o) H1) (hd (hid (plusL P as) o) H2) := fun c u hc => by
                obtain ⟨n, hc⟩ := hd_some.mp hc
                refine hd_some.mpr ⟨fun z => ?_, c2.keep c u hc fun z => n (.inr z)⟩
                rcases z with (z | z) | z
                · exact n (.inl z)
                · rw [(hn c z).1] at hc; cases hc
                · exact n (.inr z)
              exact p (x :: vs) as H2 (c1.trans c2) a2 (.dat (dp_mono ex dx) k2) fun c hc => ⟨c1.back (hn c hc).1, (hn c hc).2⟩
            | own xs => exact own ok
            | odk xs => exact own ok
            | odt xs => exact own ok
theorem set_go {K : PySem.W.Frag} {np : Nat} {P : Addr → Prop} {H0 H : Hp} : ∀ (is : List Nat) {o : Ow} {ρ ρ' : Env} {σ : St} {vs : List V} {ss : List S} {as : List Addr}, At K (plusL P as) o ρ σ H → Hld K (hd (hid (plusL P as) o) H) H vs ss as → (∀ a ∈ as, H0 a = none ∧ ¬ hid P o a) →
    setAll np is ss ρ = some ρ' → ∃ o', (∀ a, Own o' a → Own o a ∨ H0 a = none) ∧ (∀ i a, i < np → o i = some a → o' i = some a) ∧ At K P o' ρ' (setV is vs σ) H
  | [], o, ρ, ρ', σ, vs, ss, as, a, k, hn, e => by
    cases k with
    | nil =>
      cases e
      rw [plusL_nil] at a
      exact ⟨o, fun _ => .inl, fun _ _ _ h => h, a⟩
    | dat _ _ => cases e
    | own _ _ _ => cases e
  | i :: is, o, ρ, ρ', σ, vs, ss, as, a, k, hn, e => by
    cases k with
    | nil => cases e
    | @dat v d vs ss as h k =>
      unfold setAll at e
      split at e
      · rename_i hok
        have a1 := a.setD h (okset_lt hok)
        have c := chgS_clr a hok
        have ex : Ex (hd (hid (plusL P as) o) H) (hd (hid (plusL P as) (clr o i)) H) := ex_hd_le fun b z => z.elim .inl fun z => .inr (own_clr z)
        obtain ⟨o', h1, h2, h3⟩ := set_go (H0 := H0) is a1 (k.mono ex) (fun b hb => ⟨(hn b hb).1, fun z => (hn b hb).2 (z.elim .inl fun z => .inr (own_clr z))⟩) e
        exact ⟨o', fun b hb => (h1 b hb).elim (fun z => .inl (own_clr z)) .inr, fun j b hj q => h2 j b hj (c.par j b hj q), h3⟩
      · cases e
    | @own b s vs ss as h nb k =>
      unfold setAll at e
      split at e
      · rename_i hok
        rw [← plusA_L] at a h k
        have nh : ¬ hid (plusL P as) o b := fun z => by
          rcases z with (z | z) | z
          · exact (hn b (by simp)).2 (.inl z)
          · exact nb z
          · exact (hn b (by simp)).2 (.inr z)
        have a1 := a.setO nh h (okset_lt hok)
        have ex : Ex (hd (hid (plusA (plusL P as) b) o) H) (hd (hid (plusL P as) (ups o i b)) H) := ex_hd_le fun c z => by
          rcases z with z | ⟨j, z⟩
          · exact .inl (.inl z)
          · unfold ups at z
            split at z
            · cases z; exact .inl (.inr rfl)
            · exact .inr ⟨j, z⟩
        have own' : ∀ c, Own (ups o i b) c → Own o c ∨ c = b := fun c z => by
          obtain ⟨j, z⟩ := z
          unfold ups at z
          split at z
          · cases z; exact .inr rfl
          · exact .inl ⟨j, z⟩
        obtain ⟨o', h1, h2, h3⟩ := set_go (H0 := H0) is a1 (k.mono ex) (fun c hc => ⟨(hn c (by simp [hc])).1, fun z => by
          rcases z with z | z
          · exact (hn c (by simp [hc])).2 (.inl z)
          · rcases own' c z with z | z
            · exact (hn c (by simp [hc])).2 (.inr z)
            · subst z; exact nb hc⟩) e
        refine ⟨o', fun c hc => ?_, fun j c hj q => h2 j c hj ?_, h3⟩
        · rcases h1 c hc with z | z
          · rcases own' c z with z | z
            · exact .inl z
            · subst z; exact .inr (hn c (by simp)).1
          · exact .inr z
        · unfold ups
          split
          · rename_i ej
            subst ej
            exact (okset_par a hok hj q).elim
          · exact q
      · cases e
theorem parS_go {K : PySem.W.Frag} {mg : Str → Option Value} {E : XK} {np : Nat} {is : List Nat} {fs : List EM} {σ : St} {H : Hp} {D : Ends} (h : tS K mg E np (parS np is fs) D σ H) : tAll K mg E fs σ H fun vs H1 => vs.length = is.length ∧ D.nx (setV is vs σ) H1 := by
  obtain ⟨P, o, ρ, fl, a, e, p⟩ := h
  unfold parS at e
  cases hr : parE fs ρ with
  | none => rw [hr] at e; cases e
  | some r =>
    obtain ⟨res, ρ1⟩ := r
    rw [hr] at e
    refine par_go fs a hr ?_
    cases res with
    | inr y =>
      obtain ⟨c, pl⟩ := y
      cases e
      exact p.exp rfl
    | inl ss =>
      intro vs as H1 c1 a1 k1 hn
      simp only at e
      cases hs : setAll np is ss ρ1 with
      | none => rw [hs] at e; cases e
      | some ρ2 =>
        rw [hs] at e
        cases e
        obtain ⟨o', h1, h2, h3⟩ := set_go (H0 := H) is a1 k1 hn hs
        have hl : ∀ (is : List Nat) {ss : List S} {vs : List V} {as : List Addr} {G : Hp} {ρ ρ' : Env}, Hld K G H1 vs ss as → setAll np is ss ρ = some ρ' → vs.length = is.length := by
          intro is
          induction is with
          | nil => intro ss vs as G ρ ρ' k e; cases k <;> first | rfl | cases e
          | cons i is ih =>
            intro ss vs as G ρ ρ' k e
            cases k with
            | nil => cases e
            | dat _ k =>
              unfold setAll at e
              split at e
              · simp [ih k e]
              · cases e
            | own _ _ k =>
              unfold setAll at e
              split at e
              · simp [ih k e]
              · cases e
        exact ⟨hl is k1 hs, p o' _ H1 ⟨c1.keep, c1.dom, h1, h2⟩ h3⟩
section
variable {X : Cx} {E : XK} {np i j l : Nat} {x y z : Str} {a b c : Expr} {fa fb fc : EM} {px py pz pt pos : Pos} {kt k2 pt2}
theorem pds_par (hc : X.calm = true) (hN : X.N.Nodup) (hi : X.N[i]? = some x) (hj : X.N[j]? = some y) (hij : i ≠ j)
    (hx : X.env.scope.names.lookup x = some .local) (hy : X.env.scope.names.lookup y = some .local) (ha : PD X E a fa) (hb : PD X E b fb)
    (hw : swappedStores [.Tuple [.Name x px, .Name y py] kt pt] (.Tuple [a, b] k2 pt2) X.env = pure (some [x, y]))
    (hs : swapsWithSole [.Tuple [.Name x px, .Name y py] kt pt] (.Tuple [a, b] k2 pt2) pos.line X.env = pure false := by rfl)
    (hs1 : starEach [a, b] X.env = (false, eval a X.env) :: starEach [b] X.env := by rfl) (hs2 : starEach [b] X.env = (false, eval b X.env) :: starEach [] X.env := by rfl) :
    PDS X E np (.Assign [.Tuple [.Name x px, .Name y py] kt pt] (.Tuple [a, b] k2 pt2) pos) (parS np [i, j] [fa, fb]) := PS.imp (ps_par hc hN hi hj hij hx hy (pa_cons ha (pa_cons hb pa_nil hs2) hs1) hw hs) fun D σ H h => by
  have := parS_go h
  refine tE_mono (fun v H1 h => tE_mono (fun w H2 h => ?_) h) this
  exact ⟨v, w, rfl, h.2⟩
theorem pds_par3 (hc : X.calm = true) (hN : X.N.Nodup) (hi : X.N[i]? = some x) (hj : X.N[j]? = some y) (hl : X.N[l]? = some z) (hij : i ≠ j) (hil : i ≠ l) (hjl : j ≠ l)
    (hx : X.env.scope.names.lookup x = some .local) (hy : X.env.scope.names.lookup y = some .local) (hz : X.env.scope.names.lookup z = some .local) (ha : PD X E a fa) (hb : PD X E b fb) (hcc : PD X E c fc)
    (hw : swappedStores [.Tuple [.Name x px, .Name y py, .Name z pz] kt pt] (.Tuple [a, b, c] k2 pt2) X.env = pure (some [x, y, z]))
    (hs : swapsWithSole [.Tuple [.Name x px, .Name y py, .Name z pz] kt pt] (.Tuple [a, b, c] k2 pt2) pos.line X.env = pure false := by rfl)
    (hs1 : starEach [a, b, c] X.env = (false, eval a X.env) :: starEach [b, c] X.env := by rfl) (hs2 : starEach [b, c] X.env = (false, eval b X.env) :: starEach [c] X.env := by rfl) (hs3 : starEach [c] X.env = (false, eval c X.env) :: starEach [] X.env := by rfl) :
    PDS X E np (.Assign [.Tuple [.Name x px, .Name y py, .Name z pz] kt pt] (.Tuple [a, b, c] k2 pt2) pos) (parS np [i, j, l] [fa, fb, fc]) := PS.imp (ps_par3 hc hN hi hj hl hij hil hjl hx hy hz (pa_cons ha (pa_cons hb (pa_cons hcc pa_nil hs3) hs2) hs1) hw hs) fun D σ H h => by
  have := parS_go h
  refine tE_mono (fun u H1 h => tE_mono (fun v H2 h => tE_mono (fun w H3 h => ?_) h) h) this
  exact ⟨u, v, w, rfl, h.2⟩
end
end DL

namespace DL
open PySem PySem.Spec L2
/-! ### short words for derivations -/
/-- the built-ins' names stand for the built-ins -/
structure Bi (mg : Str → Option Value) : Prop where
  all : mg "all" = none
  any : mg "any" = none
  enumerate : mg "enumerate" = none
  int : mg "int" = none
  isinstance : mg "isinstance" = none
  len : mg "len" = none
  list : mg "list" = none
  max : mg "max" = none
  range : mg "range" = none
  set : mg "set" = none
  sorted : mg "sorted" = none
  str : mg "str" = none
  tuple : mg "tuple" = none
  zip : mg "zip" = none
  bool : mg "bool" = none
section
variable {X : Cx} {E : XK} {k : Nat} {a b c e : Expr} {fa fb fc fe : EM} {pos p p2 : Pos}
theorem pv (i : Nat) {x : Str} (hN : X.N[i]? = some x := by rfl) (hv : Vis X.env.scope x := by first | exact .inl rfl | exact .inr (.inl rfl) | exact .inr (.inr rfl)) (hd : (x == ("__debug__" : Str)) = false := by decide) (hcd : (x == ("__classdict__" : Str)) = false := by decide) : PD X E (.Name x pos) (mV i) := pd_var hN hv hd hcd
theorem p_add (ha : PD X E a fa) (hb : PD X E b fb) : PD X E (.BinOp a .Add b pos) (op2 gAdd fa fb) := pd_op op_add4 add_ok ha hb
theorem p_sub (ha : PD X E a fa) (hb : PD X E b fb) : PD X E (.BinOp a .Sub b pos) (op2 gSub fa fb) := pd_op op_sub sub_ok ha hb
theorem p_mul (ha : PD X E a fa) (hb : PD X E b fb) : PD X E (.BinOp a .Mult b pos) (op2 gMul fa fb) := pd_op op_mul mul_ok ha hb
theorem p_fdiv (ha : PD X E a fa) (hb : PD X E b fb) : PD X E (.BinOp a .FloorDiv b pos) (op2 gFdiv fa fb) := pd_op op_fdivN fdiv_ok ha hb
theorem p_mod (ha : PD X E a fa) (hb : PD X E b fb) : PD X E (.BinOp a .Mod b pos) (op2 gMod fa fb) := pd_op op_modN mod_ok ha hb
theorem p_pow (ha : PD X E a fa) (hb : PD X E b fb) : PD X E (.BinOp a .Pow b pos) (op2 gPow fa fb) := pd_op op_pow pow_ok ha hb
def gNeg : D → Option D
  | .int i => some (.int (-i))
  | _ => none
theorem neg_ok {K : PySem.W.Frag} : UnD K (rU fun i => .int (-i)) gNeg := by
  intro P H x d z k hg Q q
  unfold gNeg at hg
  split at hg
  · cases hg
    rw [dp_int k]
    exact ⟨_, rfl, q _ _ (Ex.refl _) (.int _)⟩
  · cases hg
theorem p_neg (ha : PD X E a fa) : PD X E (.UnaryOp .USub a pos) (op1 gNeg fa) := pd_un un_neg neg_ok ha
theorem p_ix (ha : PD X E a fa) (hb : PD X E b fb) (hs : PlainIx b := by intro _ _; rfl) : PD X E (.Subscript a b pos) (op2 gIx fa fb) := pd_ix ix2 ix_ok ha hb hs
theorem p_sl {lo hi : Option Expr} {fl fh : Env → Option (Sum (Option Int) (Str × Option D) × Env)} (he : PD X E e fe) (hl : PDO X E lo fl) (hu : PDO X E hi fh) : PD X E (.Subscript e (.Slice lo hi none p2) pos) (mSl gSl fe fl fh) := pd_slice sl2 sl_ok he hl hu
/- comparisons: values v_, tests t_ -/
theorem v_eq (hr : Room k X.A) (ha : PD X E a fa) (hb : PD X E b fb) (hm : behindInMarks .Eq b = false := by with_unfolding_all rfl) : PD X E (.Compare a [.Eq] [b] pos) (op2 gEq fa fb) := pd_cmp (op_eq2 hr.units) eq_ok ha hb hm
theorem t_eq (hr : Room k X.A) (ha : PD X E a fa) (hb : PD X E b fb) (hm : behindInMarks .Eq b = false := by with_unfolding_all rfl) : PDT X E (.Compare a [.Eq] [b] pos) (op2 gEq fa fb) := pdt_cmp (op_eq2 hr.units) eq_ok ha hb hm
theorem v_ne (hr : Room k X.A) (ha : PD X E a fa) (hb : PD X E b fb) (hm : behindInMarks .NotEq b = false := by with_unfolding_all rfl) : PD X E (.Compare a [.NotEq] [b] pos) (op2 gNe fa fb) := pd_cmp (op_ne2 hr.units) ne_ok ha hb hm
theorem t_ne (hr : Room k X.A) (ha : PD X E a fa) (hb : PD X E b fb) (hm : behindInMarks .NotEq b = false := by with_unfolding_all rfl) : PDT X E (.Compare a [.NotEq] [b] pos) (op2 gNe fa fb) := pdt_cmp (op_ne2 hr.units) ne_ok ha hb hm
theorem v_lt (hr : Room k X.A) (ha : PD X E a fa) (hb : PD X E b fb) (hm : behindInMarks .Lt b = false := by with_unfolding_all rfl) : PD X E (.Compare a [.Lt] [b] pos) (op2 gLt fa fb) := pd_cmp (op_lt2 hr.units0) lt_ok ha hb hm
theorem t_lt (hr : Room k X.A) (ha : PD X E a fa) (hb : PD X E b fb) (hm : behindInMarks .Lt b = false := by with_unfolding_all rfl) : PDT X E (.Compare a [.Lt] [b] pos) (op2 gLt fa fb) := pdt_cmp (op_lt2 hr.units0) lt_ok ha hb hm
theorem v_le (ha : PD X E a fa) (hb : PD X E b fb) (hm : behindInMarks .LtE b = false := by with_unfolding_all rfl) : PD X E (.Compare a [.LtE] [b] pos) (op2 gLe fa fb) := pd_cmp op_le gB_ok ha hb hm
theorem t_le (ha : PD X E a fa) (hb : PD X E b fb) (hm : behindInMarks .LtE b = false := by with_unfolding_all rfl) : PDT X E (.Compare a [.LtE] [b] pos) (op2 gLe fa fb) := pdt_cmp op_le gB_ok ha hb hm
theorem v_gt (ha : PD X E a fa) (hb : PD X E b fb) (hm : behindInMarks .Gt b = false := by with_unfolding_all rfl) : PD X E (.Compare a [.Gt] [b] pos) (op2 gGt fa fb) := pd_cmp op_gt gB_ok ha hb hm
theorem t_gt (ha : PD X E a fa) (hb : PD X E b fb) (hm : behindInMarks .Gt b = false := by with_unfolding_all rfl) : PDT X E (.Compare a [.Gt] [b] pos) (op2 gGt fa fb) := pdt_cmp op_gt gB_ok ha hb hm
theorem v_ge (ha : PD X E a fa) (hb : PD X E b fb) (hm : behindInMarks .GtE b = false := by with_unfolding_all rfl) : PD X E (.Compare a [.GtE] [b] pos) (op2 gGe fa fb) := pd_cmp op_ge gB_ok ha hb hm
theorem t_ge (ha : PD X E a fa) (hb : PD X E b fb) (hm : behindInMarks .GtE b = false := by with_unfolding_all rfl) : PDT X E (.Compare a [.GtE] [b] pos) (op2 gGe fa fb) := pdt_cmp op_ge gB_ok ha hb hm
theorem units65 (hr : Room k X.A) : X.A.units + 65 < cLine := by have := hr.un; omega
theorem units110 (hr : Room k X.A) : X.A.units + 110 < cLine := by have := hr.un; omega
theorem v_in (hr : Room k X.A) (ha : PD X E a fa) (hb : PD X E b fb) (hm : behindInMarks .In b = false := by with_unfolding_all rfl) : PD X E (.Compare a [.In] [b] pos) (op2 (gIn false) fa fb) := pd_cmp (op_in2 (units65 hr)) (in_ok false) ha hb hm
theorem t_in (hr : Room k X.A) (ha : PD X E a fa) (hb : PD X E b fb) (hm : behindInMarks .In b = false := by with_unfolding_all rfl) : PDT X E (.Compare a [.In] [b] pos) (op2 (gIn false) fa fb) := pdt_cmp (op_in2 (units65 hr)) (in_ok false) ha hb hm
theorem v_notin (hr : Room k X.A) (ha : PD X E a fa) (hb : PD X E b fb) (hm : behindInMarks .NotIn b = false := by with_unfolding_all rfl) : PD X E (.Compare a [.NotIn] [b] pos) (op2 (gIn true) fa fb) := pd_cmp (op_notIn2 (units65 hr)) (in_ok true) ha hb hm
theorem t_notin (hr : Room k X.A) (ha : PD X E a fa) (hb : PD X E b fb) (hm : behindInMarks .NotIn b = false := by with_unfolding_all rfl) : PDT X E (.Compare a [.NotIn] [b] pos) (op2 (gIn true) fa fb) := pdt_cmp (op_notIn2 (units65 hr)) (in_ok true) ha hb hm
theorem v_is (ha : PD X E a fa) (hb : PD X E b fb) (hm : behindInMarks .Is b = false := by with_unfolding_all rfl) : PD X E (.Compare a [.Is] [b] pos) (op2 gIsN fa fb) := pd_cmp op_isN isN_ok ha hb hm
theorem t_is (ha : PD X E a fa) (hb : PD X E b fb) (hm : behindInMarks .Is b = false := by with_unfolding_all rfl) : PDT X E (.Compare a [.Is] [b] pos) (op2 gIsN fa fb) := pdt_cmp op_isN isN_ok ha hb hm
theorem v_isnot (ha : PD X E a fa) (hb : PD X E b fb) (hm : behindInMarks .IsNot b = false := by with_unfolding_all rfl) : PD X E (.Compare a [.IsNot] [b] pos) (op2 gIsNotN fa fb) := pd_cmp op_notN isNotN_ok ha hb hm
theorem t_isnot (ha : PD X E a fa) (hb : PD X E b fb) (hm : behindInMarks .IsNot b = false := by with_unfolding_all rfl) : PDT X E (.Compare a [.IsNot] [b] pos) (op2 gIsNotN fa fb) := pdt_cmp op_notN isNotN_ok ha hb hm
/- chains of ints -/
theorem v_lele (ha : PD X E a fa) (hb : PD X E b fb) (hc : PD X E c fc) (hm : lastMarks [.LtE, .LtE] [b, c] = false := by with_unfolding_all rfl) : PD X E (.Compare a [.LtE, .LtE] [b, c] pos) (mChain gLe gLe fa fb fc) := pd_chain op_le gB_ok op_le gB_ok ha hb hc hm
theorem t_lele (ha : PD X E a fa) (hb : PD X E b fb) (hc : PD X E c fc) (hm : lastMarks [.LtE, .LtE] [b, c] = false := by with_unfolding_all rfl) : PDT X E (.Compare a [.LtE, .LtE] [b, c] pos) (mChain gLe gLe fa fb fc) := pdt_chain op_le gB_ok op_le gB_ok ha hb hc hm
theorem v_lelt (ha : PD X E a fa) (hb : PD X E b fb) (hc : PD X E c fc) (hm : lastMarks [.LtE, .Lt] [b, c] = false := by with_unfolding_all rfl) : PD X E (.Compare a [.LtE, .Lt] [b, c] pos) (mChain gLe gLtI fa fb fc) := pd_chain op_le gB_ok op_lt gB_ok ha hb hc hm
theorem t_lelt (ha : PD X E a fa) (hb : PD X E b fb) (hc : PD X E c fc) (hm : lastMarks [.LtE, .Lt] [b, c] = false := by with_unfolding_all rfl) : PDT X E (.Compare a [.LtE, .Lt] [b, c] pos) (mChain gLe gLtI fa fb fc) := pdt_chain op_le gB_ok op_lt gB_ok ha hb hc hm
/- built-ins -/
theorem p_len (B : Bi X.mg) (he : PD X E e fe) (hg : Gl X "len" := by rfl) (hs : starEach [e] X.env = (false, eval e X.env) :: starEach [] X.env := by rfl) (hpl : (backTo pos (starEach ([] : List Expr) X.env)).any (·.1) = false := by rfl) : PD X E (.Call (.Name "len" p) [e] [] pos) (mCB gLen (mAc fe mA0)) := pd_cb cr_len2 len_ok hg B.len (by decide +kernel) (pda_cons he pda_nil hs) (by decide) (by decide) hs hpl
theorem p_all (B : Bi X.mg) (hc : X.calm = true) (he : PD X E e fe) (hg : Gl X "all" := by rfl) (hs : starEach [e] X.env = (false, eval e X.env) :: starEach [] X.env := by rfl) (hpl : (backTo pos (starEach ([] : List Expr) X.env)).any (·.1) = false := by rfl) : PD X E (.Call (.Name "all" p) [e] [] pos) (mCB gAll (mAc fe mA0)) := pd_cb (cr_all hc) all_ok hg B.all (by decide +kernel) (pda_cons he pda_nil hs) (by decide) (by decide) hs hpl
theorem p_any (B : Bi X.mg) (hc : X.calm = true) (he : PD X E e fe) (hg : Gl X "any" := by rfl) (hs : starEach [e] X.env = (false, eval e X.env) :: starEach [] X.env := by rfl) (hpl : (backTo pos (starEach ([] : List Expr) X.env)).any (·.1) = false := by rfl) : PD X E (.Call (.Name "any" p) [e] [] pos) (mCB gAny (mAc fe mA0)) := pd_cb (cr_any hc) any_ok hg B.any (by decide +kernel) (pda_cons he pda_nil hs) (by decide) (by decide) hs hpl
theorem p_sorted (B : Bi X.mg) (hr : Room k X.A) (he : PD X E e fe) (hg : Gl X "sorted" := by rfl) (hs : starEach [e] X.env = (false, eval e X.env) :: starEach [] X.env := by rfl) (hpl : (backTo pos (starEach ([] : List Expr) X.env)).any (·.1) = false := by rfl) : PD X E (.Call (.Name "sorted" p) [e] [] pos) (mCB gSorted (mAc fe mA0)) := pd_cb (cr_sortedD (units110 hr)) sorted_ok hg B.sorted (by decide +kernel) (pda_cons he pda_nil hs) (by decide) (by decide) hs hpl
theorem p_list (B : Bi X.mg) (he : PD X E e fe) (hg : Gl X "list" := by rfl) (hs : starEach [e] X.env = (false, eval e X.env) :: starEach [] X.env := by rfl) (hpl : (backTo pos (starEach ([] : List Expr) X.env)).any (·.1) = false := by rfl) : PD X E (.Call (.Name "list" p) [e] [] pos) (mCB gList (mAc fe mA0)) := pd_ct call_list_of list_ok hg B.list (by decide +kernel) (pda_cons he pda_nil hs) (by decide) (by decide) hs hpl
theorem p_listO (B : Bi X.mg) (he : PD X E e fe) (hg : Gl X "list" := by rfl) (hs : starEach [e] X.env = (false, eval e X.env) :: starEach [] X.env := by rfl) (hpl : (backTo pos (starEach ([] : List Expr) X.env)).any (·.1) = false := by rfl) : PD X E (.Call (.Name "list" p) [e] [] pos) (mCB gListO (mAc fe mA0)) := pd_ct call_list_of listO_ok hg B.list (by decide +kernel) (pda_cons he pda_nil hs) (by decide) (by decide) hs hpl
theorem p_tuple (B : Bi X.mg) (he : PD X E e fe) (hg : Gl X "tuple" := by rfl) (hs : starEach [e] X.env = (false, eval e X.env) :: starEach [] X.env := by rfl) (hpl : (backTo pos (starEach ([] : List Expr) X.env)).any (·.1) = false := by rfl) : PD X E (.Call (.Name "tuple" p) [e] [] pos) (mCB gTuple (mAc fe mA0)) := pd_ct call_tuple_of tuple_ok hg B.tuple (by decide +kernel) (pda_cons he pda_nil hs) (by decide) (by decide) hs hpl
theorem p_int (B : Bi X.mg) (he : PD X E e fe) (hg : Gl X "int" := by rfl) (hs : starEach [e] X.env = (false, eval e X.env) :: starEach [] X.env := by rfl) (hpl : (backTo pos (starEach ([] : List Expr) X.env)).any (·.1) = false := by rfl) : PD X E (.Call (.Name "int" p) [e] [] pos) (mCB gInt (mAc fe mA0)) := pd_ct call_int1 int_ok hg B.int (by decide +kernel) (pda_cons he pda_nil hs) (by decide) (by decide) hs hpl
theorem p_ss (B : Bi X.mg) (hc : X.calm = true) (hr : Room k X.A) (he : PD X E e fe) {p3 pos2 : Pos} (hg : Gl X "sorted" := by rfl) (hg2 : Gl X "set" := by rfl)
    (hs1 : starEach [e] X.env = (false, eval e X.env) :: starEach [] X.env := by rfl) (hpl : (backTo pos2 (starEach ([] : List Expr) X.env)).any (·.1) = false := by rfl)
    (hs2 : starEach [.Call (.Name "set" p2) [e] [] pos2] X.env = (false, eval (.Call (.Name "set" p2) [e] [] pos2) X.env) :: starEach [] X.env := by rfl) (hpl2 : (backTo pos (starEach ([] : List Expr) X.env)).any (·.1) = false := by rfl) :
    PD X E (.Call (.Name "sorted" p3) [.Call (.Name "set" p2) [e] [] pos2] [] pos) (mSS fe) := pd_sortset hc hr.units hg B.sorted hg2 B.set he hs1 hpl hs2 hpl2
theorem p_isInt (B : Bi X.mg) (he : PD X E e fe) (hg : Gl X "isinstance" := by rfl) (hg2 : Gl X "int" := by rfl) (hs : starEach (.Name "int" p2 :: []) X.env = (false, eval (.Name "int" p2) X.env) :: starEach [] X.env := by rfl)
    (hse : starEach [e, .Name "int" p2] X.env = (false, eval e X.env) :: starEach [.Name "int" p2] X.env := by rfl) (hpl : (backTo pos (starEach [.Name "int" p2] X.env)).any (·.1) = false := by rfl) : PD X E (.Call (.Name "isinstance" p) [e, .Name "int" p2] [] pos) (op1 (gIsi "int") fe) := pd_isi kits_int hg B.isinstance hg2 B.int (by decide +kernel) he (by decide) (by decide) hs hse hpl
theorem p_isBool (B : Bi X.mg) (he : PD X E e fe) (hg : Gl X "isinstance" := by rfl) (hg2 : Gl X "bool" := by rfl) (hs : starEach (.Name "bool" p2 :: []) X.env = (false, eval (.Name "bool" p2) X.env) :: starEach [] X.env := by rfl)
    (hse : starEach [e, .Name "bool" p2] X.env = (false, eval e X.env) :: starEach [.Name "bool" p2] X.env := by rfl) (hpl : (backTo pos (starEach [.Name "bool" p2] X.env)).any (·.1) = false := by rfl) : PD X E (.Call (.Name "isinstance" p) [e, .Name "bool" p2] [] pos) (op1 (gIsi "bool") fe) := pd_isi kits_bool hg B.isinstance hg2 B.bool (by decide +kernel) he (by decide) (by decide) hs hse hpl
theorem p_isStr (B : Bi X.mg) (he : PD X E e fe) (hg : Gl X "isinstance" := by rfl) (hg2 : Gl X "str" := by rfl) (hs : starEach (.Name "str" p2 :: []) X.env = (false, eval (.Name "str" p2) X.env) :: starEach [] X.env := by rfl)
    (hse : starEach [e, .Name "str" p2] X.env = (false, eval e X.env) :: starEach [.Name "str" p2] X.env := by rfl) (hpl : (backTo pos (starEach [.Name "str" p2] X.env)).any (·.1) = false := by rfl) : PD X E (.Call (.Name "isinstance" p) [e, .Name "str" p2] [] pos) (op1 (gIsi "str") fe) := pd_isi kits_str hg B.isinstance hg2 B.str (by decide +kernel) he (by decide) (by decide) hs hse hpl
theorem p_isList (B : Bi X.mg) (he : PD X E e fe) (hg : Gl X "isinstance" := by rfl) (hg2 : Gl X "list" := by rfl) (hs : starEach (.Name "list" p2 :: []) X.env = (false, eval (.Name "list" p2) X.env) :: starEach [] X.env := by rfl)
    (hse : starEach [e, .Name "list" p2] X.env = (false, eval e X.env) :: starEach [.Name "list" p2] X.env := by rfl) (hpl : (backTo pos (starEach [.Name "list" p2] X.env)).any (·.1) = false := by rfl) : PD X E (.Call (.Name "isinstance" p) [e, .Name "list" p2] [] pos) (op1 (gIsi "list") fe) := pd_isi kits_list hg B.isinstance hg2 B.list (by decide +kernel) he (by decide) (by decide) hs hse hpl
theorem p_isTuple (B : Bi X.mg) (he : PD X E e fe) (hg : Gl X "isinstance" := by rfl) (hg2 : Gl X "tuple" := by rfl) (hs : starEach (.Name "tuple" p2 :: []) X.env = (false, eval (.Name "tuple" p2) X.env) :: starEach [] X.env := by rfl)
    (hse : starEach [e, .Name "tuple" p2] X.env = (false, eval e X.env) :: starEach [.Name "tuple" p2] X.env := by rfl) (hpl : (backTo pos (starEach [.Name "tuple" p2] X.env)).any (·.1) = false := by rfl) : PD X E (.Call (.Name "isinstance" p) [e, .Name "tuple" p2] [] pos) (op1 (gIsi "tuple") fe) := pd_isi kits_tuple hg B.isinstance hg2 B.tuple (by decide +kernel) he (by decide) (by decide) hs hse hpl
/- own lists -/
theorem p_oix (i : Nat) {x : Str} (he : PD X E e fe) (hN : X.N[i]? = some x := by rfl) (hv : Vis X.env.scope x := by first | exact .inl rfl | exact .inr (.inl rfl) | exact .inr (.inr rfl)) (hs : PlainIx e := by intro _ _; rfl) (hd : (x == ("__debug__" : Str)) = false := by decide) (hcd : (x == ("__classdict__" : Str)) = false := by decide) : PD X E (.Subscript (.Name x p) e pos) (mOix i fe) := pd_oix hN hv he hs hd hcd
theorem p_olen (B : Bi X.mg) (i : Nat) {x : Str} (hN : X.N[i]? = some x := by rfl) (hv : Vis X.env.scope x := by first | exact .inl rfl | exact .inr (.inl rfl) | exact .inr (.inr rfl)) (hg : Gl X "len" := by rfl)
    (he : starEach [.Name x p] X.env = (false, eval (.Name x p) X.env) :: starEach [] X.env := by rfl) (hpl : (backTo pos (starEach ([] : List Expr) X.env)).any (·.1) = false := by rfl) (hd : (x == ("__debug__" : Str)) = false := by decide) (hcd : (x == ("__classdict__" : Str)) = false := by decide) : PD X E (.Call (.Name "len" p2) [.Name x p] [] pos) (mOlen i) := pd_olen (x2 := x) hN hv hg B.len he hpl hd hcd
end
section
variable {X : Cx} {E : XK} {fs : AM} {es : List Expr} {pos p : Pos}
theorem a_ref (i : Nat) {x : Str} {npos : Pos} (hr : PDA X E es fs) (hN : X.N[i]? = some x := by rfl) (hv : Vis X.env.scope x := by first | exact .inl rfl | exact .inr (.inl rfl) | exact .inr (.inr rfl)) (hs : starEach (.Name x npos :: es) X.env = (false, eval (.Name x npos) X.env) :: starEach es X.env := by rfl)
    (hd : (x == ("__debug__" : Str)) = false := by decide) (hcd : (x == ("__classdict__" : Str)) = false := by decide) : PDA X E (.Name x npos :: es) (mAr i fs) := pda_ref hN hv hr hs hd hcd
theorem i_rng1 (B : Bi X.mg) {tg a : Expr} (ha : PDA X E [a] fs) (hg : Gl X "range" := by rfl) (hs : starEach [a] X.env = [(false, eval a X.env)] := by rfl) : PDI X E tg (.Call (.Name "range" p) [a] [] pos) (iCB gRng1 fs) := pdi_range1 hg B.range ha hs
theorem i_rng2 (B : Bi X.mg) {tg a b : Expr} (ha : PDA X E [a, b] fs) (hg : Gl X "range" := by rfl) (hs : starEach [a, b] X.env = [(false, eval a X.env), (false, eval b X.env)] := by rfl) (hs2 : starEach [b] X.env = [(false, eval b X.env)] := by rfl) : PDI X E tg (.Call (.Name "range" p) [a, b] [] pos) (iCB gRng2 fs) := pdi_range2 hg B.range ha hs hs2
theorem i_enum (B : Bi X.mg) {a : Expr} {tpos : Pos} {elts : List Expr} {kk : Nat} (ha : PDA X E [a] fs) (hg : Gl X "enumerate" := by rfl) (hs : starEach [a] X.env = [(false, eval a X.env)] := by rfl) : PDI X E (.Tuple elts kk tpos) (.Call (.Name "enumerate" p) [a] [] pos) (iCB gEnum2 fs) := pdi_enum2 hg B.enumerate ha hs
theorem i_zip (B : Bi X.mg) {a b : Expr} {tpos : Pos} {elts : List Expr} {kk : Nat} (ha : PDA X E [a, b] fs) (hg : Gl X "zip" := by rfl)
    (hs : starEach [a, b] X.env = (false, eval a X.env) :: starEach [b] X.env := by rfl) (hpl : (backTo pos (starEach [b] X.env)).any (·.1) = false := by rfl) : PDI X E (.Tuple elts kk tpos) (.Call (.Name "zip" p) [a, b] [] pos) (iCB gZip fs) := pdi_zip hg B.zip ha hs hpl
end
/-! ### module constants -/
section
variable {X : Cx} {E : XK} {x : Str} {pos : Pos}
theorem p_gint {i : Int} (h : ∃ t, X.mg x = some (.int i t)) (hg : Gl X x := by rfl) (hd : (x == ("__debug__" : Str)) = false := by decide) : PD X E (.Name x pos) (mC (.int i)) := by
  obtain ⟨t, h⟩ := h
  exact pd_const (pe_glob (v := .int i) hg h ⟨t, rfl⟩ hd) fun _ _ => .int _
/-- a constant object of the module -/
theorem p_gobj {d : D} (h : ∃ a, X.mg x = some (.ref a) ∧ ∀ H, Dp X.K H (.ref a) d) (hg : Gl X x := by rfl) (hd : (x == ("__debug__" : Str)) = false := by decide) : PD X E (.Name x pos) (mC d) := by
  obtain ⟨a, h, k⟩ := h
  refine PE.imp (pe_glob hg h (v := .ref a) rfl hd) fun σ H Q h => ?_
  obtain ⟨P, o, ρ, res, a1, e, p⟩ := h
  cases e
  exact p _ _ .refl ⟨a1, k _⟩
end
end DL

namespace DL
open PySem PySem.Spec L2
theorem pdb_never {X : Cx} {E : XK} {np : Nat} {sts : List Stmt} : PDB X E np sts failS := ⟨fun pins s σ H D I h => by
  obtain ⟨P, o, ρ, fl, a, e, p⟩ := h
  cases e⟩
/-! ### list(range(n)) -/
def gLR (ow : Bool) : D → Option S
  | .int n => if -(2 ^ 62) ≤ n ∧ n ≤ big then some (if ow = true then .own (rngD 0 n.toNat) else .dat (.list (rngD 0 n.toNat))) else none
  | _ => none
def mLR (ow : Bool) (f : EM) : EM := bindD f fun d => optS (gLR ow d)
theorem rg_dps {K : PySem.W.Frag} {H : Hp} {n : Int} : DpAll K H (rgV 0 n) (rngD 0 n.toNat) := by
  have key : ∀ l : List Nat, DpAll K H (l.map fun i => V.int (0 + (i : Nat))) (l.map fun i => PyData.int (0 + (i : Nat))) := by
    intro l
    induction l with
    | nil => exact .nil
    | cons a l ih => exact .cons (.int _) ih
  unfold rgV rngD
  rw [Int.sub_zero]
  exact key _
section
variable {X : Cx} {E : XK} {e : Expr} {fe : EM} {p p2 pos pos2 : Pos}
theorem p_lr {ow : Bool} (B : Bi X.mg) (hc : X.calm = true) (he : PD X E e fe) (hg : Gl X "list" := by rfl) (hg2 : Gl X "range" := by rfl) (na : starEach [e] X.env = (false, eval e X.env) :: starEach [] X.env := by rfl)
    (na2 : starEach [.Call (.Name "range" p2) [e] [] pos2] X.env = (false, eval (.Call (.Name "range" p2) [e] [] pos2) X.env) :: starEach [] X.env := by rfl) : PD X E (.Call (.Name "list" p) [.Call (.Name "range" p2) [e] [] pos2] [] pos) (mLR ow fe) := by
  refine PE.imp (pe_listRg hc hg B.list (prg_1 hg2 B.range he na) na2) fun σ H Q h => ?_
  obtain ⟨P, o, ρ, res, a, e, p⟩ := h
  refine tE_mono (fun x H1 h => ?_) (bindD_go a .refl e p)
  obtain ⟨ρ1, d, _, c1, a1, k, h⟩ := h
  obtain ⟨z, hz, rfl⟩ := optS_some h
  unfold gLR at hz
  split at hz
  · rename_i n
    split at hz
    · rename_i hn
      cases hz
      refine ⟨n, dp_int k, ⟨by omega, by omega, hn.1, ?_, ?_⟩, fun q hq => ?_⟩
      · have h2 := hn.2; unfold big at h2; have : (2 : Int) ^ 62 = 4611686018427387904 := by decide
        omega
      · have h2 := hn.2; unfold big at h2; have : (2 : Nat) ^ 24 = 16777216 := by decide
        omega
      · have nh : ¬ hid P o q := fun z => by
          obtain ⟨u, hu⟩ := a1.domH z
          rw [hq] at hu; cases hu
        refine p _ _ (c1.trans (.of (.new hq))) ?_
        exact okP_list (c1.back hq) nh (a1.plus hq) (by simp [upd]) rg_dps
    · cases hz
  · cases hz
end
end DL

namespace DL
open PySem PySem.Spec L2
/-! ### the law's end -/
def startE (ns : List Int) : Env := [some (.dat (.list (ns.map .int)))]
theorem law_start {K : PySem.W.Frag} {H : Hp} {a : Addr} {ns : List Int} (h : SqL K H a (ns.map V.int)) : At K (fun _ => False) (fun _ => none) (startE ns) [some (V.ref a)] H := by
  have eh : hd (hid (fun _ => False) (fun _ => none)) H = H := by
    funext b
    unfold hd
    rw [if_neg]
    rintro (z | ⟨i, z⟩)
    · exact z
    · cases z
  refine ⟨rfl, fun _ z => z.elim, fun _ _ _ z => (nomatch z), fun _ _ z => (nomatch z), fun _ _ z => (nomatch z), fun i d q => ?_, fun i s q z => ?_⟩
  · match i, q with
    | 0, q =>
      cases q
      refine ⟨_, rfl, ?_⟩
      rw [eh]
      exact .lst h (ints_map_dps ns)
    | i + 1, q => simp [startE] at q
  · match i, q with
    | 0, q => cases q; cases z
    | i + 1, q => simp [startE] at q
theorem law_sp {K : PySem.W.Frag} {mg : Str → Option Value} {F : EM} {n : Nat} (hF : ∀ ns : List Int, ns.length ≤ n → ∃ ρ', F (startE ns) = some (.ok (.dat (.bool true)), ρ')) (H : Hp) (a : Addr) (ns : List Int) (hl : ns.length ≤ n) (hS : SqL K H a (ns.map V.int)) :
    spF K mg 1 F [.ref a] H (fun v _ => v = .bl true) fun _ _ _ => False := by
  obtain ⟨ρ', h⟩ := hF ns hl
  exact ⟨rfl, _, _, _, _, law_start hS, h, fun v H' c ok => dp_bl ok.2⟩
/-- nothing is let out -/
theorem fnok0 {Pr : Program} {w : World} {K : PySem.W.Frag} {mg : Str → Option Value} {base : Heap} {k : Nat} {f : Addr} {fd : FuncData} {ps : List Str} {sp : Sp} (F : FnOk Pr w K mg base (L2.CX Pr w) k f fd ps sp) : FnOk Pr w K mg base CX0 k f fd ps fun vs H Q E => sp vs H Q E0 :=
  ⟨fun vs H Q E h => F.len vs H Q E0 h, fun A outer s H args us vs Q E hr e hb hv h => codeAny_mono (F.run A outer s H args us vs Q E0 hr e hb hv h) fun r s' c => by
    unfold CR at c ⊢
    cases r with
    | ok u => cases u <;> exact c
    | error e =>
      obtain ⟨_, _, _, _, _, _, _, _, _, _, _, _, z⟩ := c
      exact z.elim⟩
end DL

namespace DL
open PySem PySem.Spec L2
/-! ### reckoning with mirrors -/
def thenD (r : Option (R × Env)) (k : D → EM) : Option (R × Env) := match r with
  | some (.ok s, ρ1) => (match s.toD with
    | some d => k d ρ1
    | none => none)
  | some (.ex c p, ρ1) => some (.ex c p, ρ1)
  | none => none
def thenS (r : Option (R × Env)) (k : S → SM) : Option Fl := match r with
  | some (.ok s, ρ1) => k s ρ1
  | some (.ex c p, ρ1) => some (.ex c p ρ1)
  | none => none
def thenQ (r : Option Fl) (g : SM) : Option Fl := match r with
  | some (.nx ρ1) => g ρ1
  | r => r
def thenA {α : Type} (r : Option (Sum (List Arg) (Str × Option D) × Env)) (x : Str × Option D → Env → Option α) (k : List Arg → Env → Option α) : Option α := match r with
  | some (.inl as, ρ1) => k as ρ1
  | some (.inr y, ρ1) => x y ρ1
  | none => none
def runK (np : Nat) (ρ : Env) (r : Option Fl) : Option (R × Env) := match r with
  | some (.rt s ρ') => if np ≤ ρ'.length then some (.ok s, restP ρ ρ') else none
  | some (.nx ρ') => if np ≤ ρ'.length then some (.ok (.dat .none), restP ρ ρ') else none
  | _ => none
section
variable {c : Prop} [Decidable c] {x y : Option (R × Env)} {xs ys : List D} {d : D} {s : S} {ρ ρ1 ρ2 : Env} {k : D → EM} {kS : S → SM} {u v : Option Fl} {f g : SM} {fa fb : EM} {np n i : Nat}
@[simp] theorem bindD_eq {f : EM} : bindD f k ρ = thenD (f ρ) k := by
  unfold bindD bindE thenD
  cases h : f ρ with
  | none => rfl
  | some r =>
    obtain ⟨r, ρ1⟩ := r
    cases r with
    | ex _ _ => rfl
    | ok s =>
      simp only
      cases s.toD <;> rfl
@[simp] theorem bindS_eq {f : EM} : bindS f kS ρ = thenS (f ρ) kS := (rfl)
@[simp] theorem seqS_eq : seqS f g ρ = thenQ (f ρ) g := (rfl)
@[simp] theorem thenD_ok : thenD (some (.ok (.dat d), ρ)) k = k d ρ := (rfl)
@[simp] theorem thenD_own : thenD (some (.ok (.own xs), ρ)) k = k (.list xs) ρ := (rfl)
@[simp] theorem thenD_none : thenD none k = none := (rfl)
@[simp] theorem thenD_ite : thenD (if c then x else y) k = if c then thenD x k else thenD y k := by split <;> rfl
@[simp] theorem thenS_ok : thenS (some (.ok s, ρ)) kS = kS s ρ := (rfl)
@[simp] theorem thenS_none : thenS none kS = none := (rfl)
@[simp] theorem thenS_ite : thenS (if c then x else y) kS = if c then thenS x kS else thenS y kS := by split <;> rfl
@[simp] theorem thenQ_nx : thenQ (some (.nx ρ)) g = g ρ := (rfl)
@[simp] theorem thenQ_rt : thenQ (some (.rt s ρ)) g = some (.rt s ρ) := (rfl)
@[simp] theorem thenQ_bk : thenQ (some (.bk ρ)) g = some (.bk ρ) := (rfl)
@[simp] theorem thenQ_ct : thenQ (some (.ct ρ)) g = some (.ct ρ) := (rfl)
@[simp] theorem thenQ_none : thenQ none g = none := (rfl)
@[simp] theorem thenQ_ite : thenQ (if c then u else v) g = if c then thenQ u g else thenQ v g := by split <;> rfl
@[simp] theorem runQ_eq {loc : Nat} : runQ np loc f ρ = if ρ.length = np then runK np ρ (f (ρ ++ List.replicate loc none)) else none := (rfl)
@[simp] theorem runK_rt : runK np ρ (some (.rt s ρ1)) = if np ≤ ρ1.length then some (.ok s, restP ρ ρ1) else none := (rfl)
@[simp] theorem runK_nx : runK np ρ (some (.nx ρ1)) = if np ≤ ρ1.length then some (.ok (.dat .none), restP ρ ρ1) else none := (rfl)
@[simp] theorem runK_none : runK np ρ none = none := (rfl)
@[simp] theorem runK_ite : runK np ρ (if c then u else v) = if c then runK np ρ u else runK np ρ v := by split <;> rfl
@[simp] theorem boolK_b {b : Bool} : boolK fa fb (.bool b) ρ = if b = true then fa ρ else fb ρ := by cases b <;> rfl
@[simp] theorem boolS_b {b : Bool} : boolS f g (.dat (.bool b)) ρ = if b = true then f ρ else g ρ := by cases b <;> rfl
@[simp] theorem op2_eq {h : D → D → Option D} : op2 h fa fb ρ = thenD (fa ρ) fun x ρ => thenD (fb ρ) fun y => optD (h x y) := by
  unfold op2
  rw [bindD_eq]
  congr 1
  funext x ρ
  rw [bindD_eq]
@[simp] theorem op1_eq {h : D → Option D} : op1 h fa ρ = thenD (fa ρ) fun x => optD (h x) := bindD_eq
@[simp] theorem mAnd_eq : mAnd fa fb ρ = thenD (fa ρ) (boolK fb (retD (.bool false))) := bindD_eq
@[simp] theorem mOr_eq : mOr fa fb ρ = thenD (fa ρ) (boolK (retD (.bool true)) fb) := bindD_eq
@[simp] theorem mNot_eq : mNot fa ρ = thenD (fa ρ) (boolK (retD (.bool false)) (retD (.bool true))) := bindD_eq
@[simp] theorem mIfE_eq {ft : EM} : mIfE ft fa fb ρ = thenD (ft ρ) (boolK fa fb) := bindD_eq
@[simp] theorem mChain_eq {h h' : D → D → Option D} {fc : EM} : mChain h h' fa fb fc ρ = thenD (fa ρ) fun x ρ => thenD (fb ρ) fun y ρ => thenD (optD (h x y) ρ) (boolK (fun ρ => thenD (fc ρ) fun z => optD (h' y z)) (retD (.bool false))) := by
  unfold mChain
  rw [bindD_eq]
  congr 1
  funext x ρ
  rw [bindD_eq]
  congr 1
  funext y ρ
  rw [bindD_eq]
  congr 2
  funext ρ
  rw [bindD_eq]
@[simp] theorem retD_eq : retD d ρ = some (.ok (.dat d), ρ) := (rfl)
@[simp] theorem mC_eq : mC d ρ = some (.ok (.dat d), ρ) := (rfl)
@[simp] theorem optD_s : optD (some d) ρ = some (.ok (.dat d), ρ) := (rfl)
@[simp] theorem optD_n : optD none ρ = none := (rfl)
@[simp] theorem optD_ite {a b : Option D} : optD (if c then a else b) ρ = if c then optD a ρ else optD b ρ := by split <;> rfl
@[simp] theorem optS_s : optS (some s) ρ = some (.ok s, ρ) := (rfl)
@[simp] theorem optS_n : optS none ρ = none := (rfl)
@[simp] theorem optS_ite {a b : Option S} : optS (if c then a else b) ρ = if c then optS a ρ else optS b ρ := by split <;> rfl
theorem mV0 {o : Option S} : mV 0 (some (.dat d) :: ρ) = some (.ok (.dat d), some (.dat d) :: ρ) := (rfl)
theorem mV_s {e : Option S} (h : ρ[i]? = some (some (.dat d))) : mV i ρ = some (.ok (.dat d), ρ) := by unfold mV; rw [h]
@[simp] theorem ifS_eq {ft : EM} : ifS ft f g ρ = thenS (ft ρ) (boolS f g) := (rfl)
@[simp] theorem retS_eq' {e : EM} : retS' e ρ = thenS (e ρ) fun s ρ => some (.rt s ρ) := (rfl)
@[simp] theorem retNS_eq : retNS ρ = some (.rt (.dat .none) ρ) := (rfl)
@[simp] theorem nextS_eq : nextS ρ = some (.nx ρ) := (rfl)
@[simp] theorem brkS_eq : brkS ρ = some (.bk ρ) := (rfl)
@[simp] theorem cntS_eq : cntS ρ = some (.ct ρ) := (rfl)
@[simp] theorem failS_eq : failS ρ = none := (rfl)
@[simp] theorem dropS_eq {e : EM} : dropS e ρ = thenS (e ρ) fun _ ρ => some (.nx ρ) := (rfl)
@[simp] theorem asgN_eq {e : EM} : asgN np i e ρ = thenS (e ρ) fun s ρ => if okset np i ρ = true then some (.nx (ρ.set i (some s))) else none := (rfl)
@[simp] theorem asgT_eq {T : TgM} {e : EM} : asgT T e ρ = thenS (e ρ) fun s ρ => match s.toD with
  | some d => (match T d ρ with
    | some ρ' => some (.nx ρ')
    | none => none)
  | none => none := (rfl)
/- arguments -/
@[simp] theorem mA0_eq : mA0 ρ = some (.inl [], ρ) := (rfl)
theorem mAc_ok {fs : AM} (h : fa ρ = some (.ok (.dat d), ρ1)) : mAc fa fs ρ = consA (.dat d) (fs ρ1) := by unfold mAc; rw [h]; rfl
def argK (fs : AM) (r : Option (R × Env)) : Option (Sum (List Arg) (Str × Option D) × Env) := match r with
  | some (.ok s, ρ1) => (match s.toD with
    | some d => consA (.dat d) (fs ρ1)
    | none => none)
  | some (.ex c p, ρ1) => some (.inr (c, p), ρ1)
  | none => none
@[simp] theorem mAc_eq {fs : AM} : mAc fa fs ρ = argK fs (fa ρ) := (rfl)
@[simp] theorem argK_ok {fs : AM} : argK fs (some (.ok (.dat d), ρ)) = consA (.dat d) (fs ρ) := (rfl)
@[simp] theorem argK_own {fs : AM} : argK fs (some (.ok (.own xs), ρ)) = consA (.dat (.list xs)) (fs ρ) := (rfl)
@[simp] theorem argK_none {fs : AM} : argK fs none = none := (rfl)
@[simp] theorem argK_ite {fs : AM} : argK fs (if c then x else y) = if c then argK fs x else argK fs y := by split <;> rfl
@[simp] theorem consA_in {a : Arg} {as : List Arg} : consA a (some (.inl as, ρ)) = some (.inl (a :: as), ρ) := (rfl)
@[simp] theorem consA_none {a : Arg} : consA a none = none := (rfl)
@[simp] theorem consA_ite {a : Arg} {p q : Option (Sum (List Arg) (Str × Option D) × Env)} : consA a (if c then p else q) = if c then consA a p else consA a q := by split <;> rfl
@[simp] theorem thenA_in {α : Type} {as : List Arg} {xx : Str × Option D → Env → Option α} {kk : List Arg → Env → Option α} : thenA (some (.inl as, ρ)) xx kk = kk as ρ := (rfl)
@[simp] theorem thenA_none {α : Type} {xx : Str × Option D → Env → Option α} {kk : List Arg → Env → Option α} : thenA none xx kk = none := (rfl)
@[simp] theorem thenA_ite {α : Type} {p q : Option (Sum (List Arg) (Str × Option D) × Env)} {xx : Str × Option D → Env → Option α} {kk : List Arg → Env → Option α} : thenA (if c then p else q) xx kk = if c then thenA p xx kk else thenA q xx kk := by split <;> rfl
def optB {α β : Type} (o : Option α) (k : α → Option β) : Option β := match o with
  | some a => k a
  | none => none
@[simp] theorem optB_s {α β : Type} {a : α} {k : α → Option β} : optB (some a) k = k a := (rfl)
@[simp] theorem optB_n {α β : Type} {k : α → Option β} : optB none k = none := (rfl)
@[simp] theorem mCB_eq {h : List D → Option S} {fs : AM} : mCB h fs ρ = thenA (fs ρ) (fun y ρ => some (.ex y.1 y.2, ρ)) fun as ρ => optB (datsOf as) fun ds => optS (h ds) ρ := by
  unfold mCB thenA optB
  rcases fs ρ with _ | ⟨as | ⟨_, _⟩, _⟩
  · rfl
  · simp only
    cases datsOf as <;> rfl
  · rfl
@[simp] theorem datsOf_nil : datsOf [] = some [] := (rfl)
@[simp] theorem datsOf_cons {as : List Arg} : datsOf (.dat d :: as) = (datsOf as).map (d :: ·) := (rfl)
def callK (F : EM) (as : List Arg) (ρ : Env) : Option (R × Env) := if nodupN (refsOf as) = true then optB (F (argEnv as ρ)) fun r => if r.2.length = as.length then some (r.1, putBack as r.2 ρ) else none else none
@[simp] theorem callM_eq {F : EM} {fs : AM} : callM F fs ρ = thenA (fs ρ) (fun y ρ => some (.ex y.1 y.2, ρ)) (callK F) := by
  unfold callM thenA callK optB
  rcases fs ρ with _ | ⟨_ | ⟨_, _⟩, ρ1⟩
  · rfl
  · simp only
    split
    · cases F _ with
      | none => rfl
      | some r => rfl
    · rfl
  · rfl
/-- a call with data alone -/
def allDat : List D → List Arg := List.map .dat
theorem putBack_dat : ∀ (ds : List D) (ρc ρ : Env), putBack (ds.map Arg.dat) ρc ρ = ρ
  | [], _, _ => by simp [putBack]
  | _ :: ds, [], _ => by simp [putBack]
  | _ :: ds, _ :: ρc, ρ => by simp [putBack, putBack_dat ds]
theorem refs_dat : ∀ ds : List D, refsOf (ds.map Arg.dat) = []
  | [] => rfl
  | _ :: ds => by simpa [refsOf] using refs_dat ds
end
/-- what a def answers for data -/
def Ans (F : EM) (ds : List D) (d : D) : Prop := ∃ ρ', ρ'.length = ds.length ∧ F (ds.map fun d => some (.dat d)) = some (.ok (.dat d), ρ')
theorem callK_dat {F : EM} {ds : List D} {d : D} {ρ : Env} (h : Ans F ds d) : callK F (ds.map Arg.dat) ρ = some (.ok (.dat d), ρ) := by
  obtain ⟨ρ', hl, h⟩ := h
  unfold callK
  rw [refs_dat]
  have e : argEnv (ds.map Arg.dat) ρ = ds.map fun d => some (.dat d) := by simp [argEnv, argS]
  rw [e, h]
  simp [nodupN, optB, hl, putBack_dat]
@[simp] theorem callK1 {F : EM} {a d : D} {ρ : Env} (h : Ans F [a] d) : callK F [.dat a] ρ = some (.ok (.dat d), ρ) := callK_dat h
@[simp] theorem callK2 {F : EM} {a b d : D} {ρ : Env} (h : Ans F [a, b] d) : callK F [.dat a, .dat b] ρ = some (.ok (.dat d), ρ) := callK_dat h
@[simp] theorem callK3 {F : EM} {a b c d : D} {ρ : Env} (h : Ans F [a, b, c] d) : callK F [.dat a, .dat b, .dat c] ρ = some (.ok (.dat d), ρ) := callK_dat h
@[simp] theorem callK0 {F : EM} {d : D} {ρ : Env} (h : Ans F [] d) : callK F [] ρ = some (.ok (.dat d), ρ) := callK_dat (ds := []) h
/-! ### comprehensions -/
def thenI {α : Type} (r : Option (Sum (List D) (Str × Option D) × Env)) (x : Str × Option D → Env → Option α) (k : List D → Env → Option α) : Option α := match r with
  | some (.inl ds, ρ1) => k ds ρ1
  | some (.inr y, ρ1) => x y ρ1
  | none => none
theorem iSeq_ok {f : EM} {ρ ρ1 : Env} {d : D} {ds : List D} (h : f ρ = some (.ok (.dat d), ρ1)) (hs : seqOf d = some ds) : iSeq f ρ = some (.inl ds, ρ1) := by
  unfold iSeq
  rw [h]
  simp [S.toD, hs]
theorem iCB_ok {g : List D → Option (List D)} {fs : AM} {ρ ρ1 : Env} {as : List Arg} {ds rs : List D} (h : fs ρ = some (.inl as, ρ1)) (h1 : datsOf as = some ds) (h2 : g ds = some rs) : iCB g fs ρ = some (.inl rs, ρ1) := by
  unfold iCB
  rw [h]
  simp [h1, h2]
/-- one turn of a clause at the wiped env w -/
structure TurnC (T : TgM) (ft fe : EM) (vs : List Nat) (w : Env) (d : D) (p : Bool) (x : D) : Prop where
  go : ∃ ρ1, T d w = some ρ1 ∧ ∃ ρ2, ft ρ1 = some (.ok (.dat (.bool p)), ρ2) ∧
    (if p = true then ∃ s ρ3, fe ρ2 = some (.ok s, ρ3) ∧ s.toD = some x ∧ noOwn ρ3 vs = true ∧ wipeE ρ3 vs = w else noOwn ρ2 vs = true ∧ wipeE ρ2 vs = w)
theorem loopC_eq {T : TgM} {ft fe : EM} {vs : List Nat} {w : Env} (hw : noOwn w vs = true) {p : D → Bool} {g : D → D} : ∀ (ds acc : List D), (∀ d ∈ ds, TurnC T ft fe vs w d (p d) (g d)) → acc.length + ds.length ≤ big →
    loopC T ft fe vs acc ds w = some (acc ++ (ds.filter p).map g, w)
  | [], acc, _, _ => by simp [loopC, hw]
  | d :: ds, acc, h, hl => by
    obtain ⟨ρ1, h1, ρ2, h2, h3⟩ := (h d (by simp)).go
    unfold loopC
    simp only [h1, h2]
    cases hp : p d with
    | false =>
      rw [hp] at h3
      simp only [Bool.false_eq_true, if_false] at h3
      simp only [h3.1, if_true, h3.2, List.filter_cons, hp, Bool.false_eq_true, if_false]
      exact loopC_eq hw ds acc (fun d hd => h d (by simp [hd])) (by simp at hl; omega)
    | true =>
      rw [hp] at h3
      simp only [if_true] at h3
      obtain ⟨s, ρ3, h4, h5, h6, h7⟩ := h3
      have hlt : acc.length < big := by simp at hl; omega
      simp only [h4, h5, hlt, h6, and_self, if_true, h7, List.filter_cons, hp, List.map_cons]
      rw [loopC_eq hw ds (acc ++ [g d]) (fun d hd => h d (by simp [hd])) (by simp at hl ⊢; omega)]
      simp
theorem restE_self {ρ : Env} : ∀ {vs : List Nat}, restE ρ (wipeE ρ vs) vs = ρ := by
  intro vs
  apply List.ext_getElem?
  intro i
  by_cases hi : i ∈ vs
  · exact restE_in (wipeE_len ρ vs).symm hi
  · rw [restE_out hi, wipeE_out hi]
theorem noOwn_wipe {ρ : Env} {vs : List Nat} (h : noOwn ρ vs = true) : noOwn (wipeE ρ vs) vs = true := by
  unfold noOwn at h ⊢
  rw [List.all_eq_true] at h ⊢
  intro i hi
  have := h i hi
  split
  · rename_i s hs
    obtain ⟨h1, h2⟩ := wipeE_some hs
    exact (h2 hi).elim
  · rfl
theorem compE_eq {ow : Bool} {fi : IM} {T : TgM} {ft fe : EM} {vs : List Nat} {ρ ρ1 : Env} {ds : List D} (p : D → Bool) (g : D → D) (hi : fi ρ = some (.inl ds, ρ1)) (hn : noOwn ρ1 vs = true) (ht : ∀ d ∈ ds, TurnC T ft fe vs (wipeE ρ1 vs) d (p d) (g d)) (hl : ds.length ≤ big) :
    compE ow fi T ft fe vs ρ = some (.ok (if ow = true then .own ((ds.filter p).map g) else .dat (.list ((ds.filter p).map g))), ρ1) := by
  unfold compE
  simp only [hi, hn, if_true]
  rw [loopC_eq (noOwn_wipe hn) ds [] ht (by simpa using hl)]
  simp only [List.nil_append, restE_self]
/-- one turn of the outer clause -/
structure TurnC2 (T : TgM) (ft : EM) (fi1 : IM) (T1 : TgM) (ft1 fe : EM) (vs vs1 : List Nat) (w : Env) (d : D) (xs : List D) : Prop where
  go : ∃ ρ1, T d w = some ρ1 ∧ ∃ ρ2, ft ρ1 = some (.ok (.dat (.bool true)), ρ2) ∧ ∃ ds1 ρ3, fi1 ρ2 = some (.inl ds1, ρ3) ∧ noOwn ρ3 vs1 = true ∧ noOwn (wipeE ρ3 vs1) vs = true ∧ wipeE (wipeE ρ3 vs1) vs = w ∧ ∃ (p : D → Bool) (g : D → D), xs = (ds1.filter p).map g ∧ (∀ e ∈ ds1, TurnC T1 ft1 fe vs1 (wipeE ρ3 vs1) e (p e) (g e)) ∧ ds1.length ≤ 1000
theorem loopC2_eq {T : TgM} {ft : EM} {fi1 : IM} {T1 : TgM} {ft1 fe : EM} {vs vs1 : List Nat} {w : Env} (hw : noOwn w vs = true) {g : D → List D} : ∀ (ds acc : List D), (∀ d ∈ ds, TurnC2 T ft fi1 T1 ft1 fe vs vs1 w d (g d)) → acc.length + 1000 * ds.length ≤ big →
    loopC2 T ft fi1 T1 ft1 fe vs vs1 acc ds w = some (acc ++ ds.flatMap g, w)
  | [], acc, _, _ => by simp [loopC2, hw]
  | d :: ds, acc, h, hl => by
    obtain ⟨ρ1, h1, ρ2, h2, ds1, ρ3, h3, h4, h5, h6, p, f, hx, ht, hlen⟩ := (h d (by simp)).go
    unfold loopC2
    have hl2 := List.length_filter_le p ds1
    simp only [h1, h2, h3, h4, if_true]
    rw [loopC_eq (noOwn_wipe h4) ds1 acc ht (by simp at hl; omega)]
    simp only [h5, if_true, h6, ← hx]
    rw [loopC2_eq hw ds _ (fun d hd => h d (by simp [hd])) (by simp [hx] at hl ⊢; omega)]
    simp
theorem compE2_eq {ow : Bool} {fi : IM} {T : TgM} {ft : EM} {fi1 : IM} {T1 : TgM} {ft1 fe : EM} {vs vs1 : List Nat} {ρ ρ1 : Env} {ds : List D} (g : D → List D) (hi : fi ρ = some (.inl ds, ρ1)) (hn : noOwn ρ1 vs = true) (ht : ∀ d ∈ ds, TurnC2 T ft fi1 T1 ft1 fe vs vs1 (wipeE ρ1 vs) d (g d)) (hl : ds.length ≤ 1000) :
    compE2 ow fi T ft fi1 T1 ft1 fe vs vs1 ρ = some (.ok (if ow = true then .own (ds.flatMap g) else .dat (.list (ds.flatMap g))), ρ1) := by
  unfold compE2
  simp only [hi, hn, if_true]
  rw [loopC2_eq (noOwn_wipe hn) ds [] ht (by unfold big; simp; omega)]
  simp only [List.nil_append, restE_self]
/-! ### loops -/
/-- an invariant of the items done -/
theorem loopS_inv {T : TgM} {fb : SM} (I : List D → Env → Prop) : ∀ (ds pre : List D) {ρ : Env}, I pre ρ → (∀ pre d post ρ, pre ++ d :: post = pre ++ d :: post → I pre ρ → d ∈ ds → ∃ ρ1, T d ρ = some ρ1 ∧ ∃ ρ2, (fb ρ1 = some (.nx ρ2) ∨ fb ρ1 = some (.ct ρ2)) ∧ I (pre ++ [d]) ρ2) →
    ∃ ρ', loopS T fb ds ρ = some (.nx ρ') ∧ I (pre ++ ds) ρ'
  | [], pre, ρ, h, _ => ⟨ρ, rfl, by simpa using h⟩
  | d :: ds, pre, ρ, h, hs => by
    obtain ⟨ρ1, h1, ρ2, h2, h3⟩ := hs pre d [] ρ rfl h (by simp)
    obtain ⟨ρ', h4, h5⟩ := loopS_inv I ds (pre ++ [d]) h3 fun pre d post ρ e hI hd => hs pre d post ρ e hI (by simp [hd])
    refine ⟨ρ', ?_, by simpa using h5⟩
    unfold loopS
    rcases h2 with h2 | h2 <;> simp only [h1, h2, h4]
theorem forS_inv {fi : IM} {T : TgM} {fb : SM} {ρ ρ1 : Env} {ds : List D} (I : List D → Env → Prop) (hi : fi ρ = some (.inl ds, ρ1)) (h0 : I [] ρ1) (hs : ∀ pre d ρ, I pre ρ → d ∈ ds → ∃ ρ1, T d ρ = some ρ1 ∧ ∃ ρ2, (fb ρ1 = some (.nx ρ2) ∨ fb ρ1 = some (.ct ρ2)) ∧ I (pre ++ [d]) ρ2) :
    ∃ ρ', forS fi T fb ρ = some (.nx ρ') ∧ I ds ρ' := by
  obtain ⟨ρ', h1, h2⟩ := loopS_inv I ds [] h0 fun pre d _ ρ _ => hs pre d ρ
  refine ⟨ρ', ?_, by simpa using h2⟩
  unfold forS
  simp only [hi, h1]
@[simp] theorem gLt_ii {i j : Int} : gLt (.int i) (.int j) = some (.bool (decide (i < j))) := (rfl)
section
variable {ρ : Env} {i j np : Nat} {d e : D} {xs ys : List D} {a b : Int} {s : S} {o : Option S} {as bs : Env}
@[simp] theorem x_mV : mV i ρ = (match ρ[i]? with
  | some (some (.dat d)) => some (.ok (.dat d), ρ)
  | _ => none) := (rfl)
@[simp] theorem x_okset : okset np i ρ = (decide (i < ρ.length) && (decide (np ≤ i) || match ρ[i]? with
  | some (some s) => !s.isOwn
  | _ => true)) := (rfl)
@[simp] theorem x_isOwn1 : S.isOwn (.dat d) = false := (rfl)
@[simp] theorem x_isOwn2 : S.isOwn (.own xs) = true := (rfl)
@[simp] theorem x_toD1 : S.toD (.dat d) = some d := (rfl)
@[simp] theorem x_toD2 : S.toD (.own xs) = some (.list xs) := (rfl)
@[simp] theorem x_rest0 : restP [] bs = [] := by cases bs <;> rfl
@[simp] theorem x_rest1 : restP (some s :: as) (o :: bs) = (if s.isOwn = true then o else some s) :: restP as bs := (rfl)
@[simp] theorem x_gIsi {T : String} : gIsi T d = some (.bool (isiT T d)) := (rfl)
@[simp] theorem x_gB {f : Int → Int → Bool} : gB f (.int a) (.int b) = some (.bool (f a b)) := (rfl)
@[simp] theorem x_add1 : gAdd (.int a) (.int b) = some (.int (a + b)) := (rfl)
@[simp] theorem x_add2 : gAdd (.tuple xs) (.tuple ys) = if xs.length + ys.length ≤ big then some (.tuple (xs ++ ys)) else none := (rfl)
@[simp] theorem x_add3 : gAdd (.list xs) (.list ys) = if xs.length + ys.length ≤ big then some (.list (xs ++ ys)) else none := (rfl)
@[simp] theorem x_gI0 {f : Int → Int → Int} : gI0 f (.int a) (.int b) = some (.int (f a b)) := (rfl)
@[simp] theorem x_gEq : gEq d e = if eqOk d e = true then some (.bool (PyData.eqv d e)) else none := (rfl)
@[simp] theorem x_gNe : gNe d e = if eqOk d e = true then some (.bool (!PyData.eqv d e)) else none := (rfl)
@[simp] theorem x_gIx1 : gIx (.list xs) (.int a) = atI xs a := (rfl)
@[simp] theorem x_gIx2 : gIx (.tuple xs) (.int a) = atI xs a := (rfl)
@[simp] theorem x_gTup : gTup' xs = if xs.length ≤ big then some (.dat (.tuple xs)) else none := (rfl)
@[simp] theorem x_gLst : gLst xs = if xs.length ≤ big then some (.dat (.list xs)) else none := (rfl)
@[simp] theorem x_gLstO : gLstO xs = if xs.length ≤ big then some (.own xs) else none := (rfl)
@[simp] theorem x_len1 : gLen [.list xs] = some (.dat (.int xs.length)) := (rfl)
@[simp] theorem x_len2 : gLen [.tuple xs] = some (.dat (.int xs.length)) := (rfl)
@[simp] theorem x_gNeg : gNeg (.int a) = some (.int (-a)) := (rfl)
end
end DL

namespace DL
open PySem PySem.Spec L2
section
variable {c : Prop} [Decidable c] {ρ ρ1 : Env} {d : D} {i : Int} {f : EM} {n : Nat}
abbrev OM := Env → Option (Sum (Option Int) (Str × Option D) × Env)
def thenO (r : Option (Sum (Option Int) (Str × Option D) × Env)) (k : Option Int → EM) : Option (R × Env) := match r with
  | some (.inl i, ρ1) => k i ρ1
  | some (.inr (c, p), ρ1) => some (.ex c p, ρ1)
  | none => none
@[simp] theorem thenO_in {o : Option Int} {k : Option Int → EM} : thenO (some (.inl o, ρ)) k = k o ρ := (rfl)
@[simp] theorem mSl_eq {g : D → Option Int → Option Int → Option D} {fl fh : OM} : mSl g f fl fh ρ = thenD (f ρ) fun d ρ => thenO (fl ρ) fun lo ρ => thenO (fh ρ) fun hi => optD (g d lo hi) := by
  unfold mSl
  rw [bindD_eq]
  congr 1
def partK (r : Option (R × Env)) : Option (Sum (Option Int) (Str × Option D) × Env) := match r with
  | some (.ok (.dat (.int i)), ρ1) => some (.inl (some i), ρ1)
  | some (.ex c p, ρ1) => some (.inr (c, p), ρ1)
  | _ => none
@[simp] theorem mPart_eq : mPart f ρ = partK (f ρ) := (rfl)
@[simp] theorem partK_ok : partK (some (.ok (.dat (.int i)), ρ)) = some (.inl (some i), ρ) := (rfl)
@[simp] theorem mNoPart_eq : mNoPart ρ = some (.inl none, ρ) := (rfl)
theorem cut_from {xs : List D} : cutD xs (some (n : Int)) none = xs.drop n := by
  unfold cutD
  rw [HT.sIx_nat, HT.sIx_none]
  rcases Nat.le_total n xs.length with h | h
  · rw [Nat.min_eq_left h, List.take_of_length_le (by simp)]
  · rw [Nat.min_eq_right h]; simp [List.drop_eq_nil_of_le h]
theorem cut_to {xs : List D} : cutD xs none (some (n : Int)) = xs.take n := by
  unfold cutD
  rw [HT.sIx_nat, HT.sIx_none]
  simp
theorem cut_01 {xs : List D} : cutD xs (some 1) none = xs.drop 1 := cut_from (n := 1)
end
@[simp] theorem le_big1 : 1 ≤ big := by unfold big; omega
@[simp] theorem le_big2 : 2 ≤ big := by unfold big; omega
@[simp] theorem le_big3 : 3 ≤ big := by unfold big; omega
@[simp] theorem le_big4 : 4 ≤ big := by unfold big; omega
@[simp] theorem le_big5 : 5 ≤ big := by unfold big; omega
@[simp] theorem le_big6 : 6 ≤ big := by unfold big; omega
@[simp] theorem le_big7 : 7 ≤ big := by unfold big; omega
@[simp] theorem le_big8 : 8 ≤ big := by unfold big; omega
@[simp] theorem le_big9 : 9 ≤ big := by unfold big; omega
@[simp] theorem x_sl1 {xs : List D} {lo hi : Option Int} : gSl (.list xs) lo hi = some (.list (cutD xs lo hi)) := (rfl)
@[simp] theorem x_sl2 {xs : List D} {lo hi : Option Int} : gSl (.tuple xs) lo hi = some (.tuple (cutD xs lo hi)) := (rfl)
theorem bools_map {α : Type} (p : α → Bool) : ∀ xs : List α, boolsOf (xs.map fun x => .bool (p x)) = some (xs.map p)
  | [] => rfl
  | x :: xs => by simp [boolsOf, bools_map p xs]
theorem gAll_map {α : Type} (p : α → Bool) (xs : List α) : gAll [.list (xs.map fun x => .bool (p x))] = some (.dat (.bool (xs.all p))) := by
  show (boolsOf (xs.map fun x => .bool (p x))).map _ = _
  rw [bools_map]
  simp [List.all_map]
/-- comprehensions of one clause without a test -/
structure TurnM (T : TgM) (fe : EM) (vs : List Nat) (w : Env) (d x : D) : Prop where
  go : ∃ ρ1, T d w = some ρ1 ∧ ∃ s ρ3, fe ρ1 = some (.ok s, ρ3) ∧ s.toD = some x ∧ noOwn ρ3 vs = true ∧ wipeE ρ3 vs = w
theorem compE_map {ow : Bool} {fi : IM} {T : TgM} {fe : EM} {vs : List Nat} {ρ ρ1 : Env} {ds : List D} (g : D → D) (hi : fi ρ = some (.inl ds, ρ1)) (hn : noOwn ρ1 vs = true) (ht : ∀ d ∈ ds, TurnM T fe vs (wipeE ρ1 vs) d (g d)) (hl : ds.length ≤ big) :
    compE ow fi T mYes fe vs ρ = some (.ok (if ow = true then .own (ds.map g) else .dat (.list (ds.map g))), ρ1) := by
  have := compE_eq (ow := ow) (T := T) (ft := mYes) (fe := fe) (fun _ => true) g hi hn (fun d hd => ?_) hl
  · have e : ds.filter (fun _ => true) = ds := List.filter_eq_self.mpr fun _ _ => rfl
    rw [e] at this
    exact this
  · obtain ⟨ρ1, h1, s, ρ3, h2, h3, h4, h5⟩ := (ht d hd).go
    exact ⟨⟨ρ1, h1, ρ1, rfl, by rw [if_pos rfl]; exact ⟨s, ρ3, h2, h3, h4, h5⟩⟩⟩
theorem compE_true {ow : Bool} {fi : IM} {T : TgM} {fe : EM} {vs : List Nat} {ρ ρ1 : Env} {ds : List D} {x : D} {n : Nat} (hi : fi ρ = some (.inl ds, ρ1)) (hn : noOwn ρ1 vs = true) (ht : ∀ d ∈ ds, TurnM T fe vs (wipeE ρ1 vs) d x) (hl : ds.length ≤ big) (e : ds.length = n) :
    compE ow fi T mYes fe vs ρ = some (.ok (if ow = true then .own (List.replicate n x) else .dat (.list (List.replicate n x))), ρ1) := by
  subst e
  rw [compE_map (fun _ => x) hi hn ht hl]
  have : ds.map (fun _ => x) = List.replicate ds.length x := List.map_const'
  rw [this]
theorem gAll_rep : ∀ n : Nat, gAll [.list (List.replicate n (.bool true))] = some (.dat (.bool true)) := fun n => by
  have e : List.replicate n (PyData.bool true) = (List.replicate n ()).map fun _ => PyData.bool ((fun _ => true) ()) := by simp
  rw [e]
  have := gAll_map (fun _ : Unit => true) (List.replicate n ())
  rw [this]
  simp
end DL

namespace DL
open PySem PySem.Spec L2
/-! ### data: depth, kinds -/
theorem depthAll_le {n : Nat} : ∀ {xs : List D}, (∀ x ∈ xs, x.depth ≤ n) → PyData.depthAll xs ≤ n
  | [], _ => by simp [PyData.depthAll]
  | x :: xs, h => by
    have h1 := h x (by simp)
    have h2 := depthAll_le (n := n) (xs := xs) fun y hy => h y (by simp [hy])
    simp only [PyData.depthAll]
    omega
theorem depth_tup {n : Nat} {xs : List D} (h : ∀ x ∈ xs, x.depth ≤ n) : (PyData.tuple xs).depth ≤ n + 1 := by
  have := depthAll_le h
  simp only [PyData.depth]
  omega
theorem depth_lst {n : Nat} {xs : List D} (h : ∀ x ∈ xs, x.depth ≤ n) : (PyData.list xs).depth ≤ n + 1 := by
  have := depthAll_le h
  simp only [PyData.depth]
  omega
theorem canLayAll_of : ∀ {xs : List D}, (∀ x ∈ xs, x.canLay0 = true) → PyData.canLayAll0 xs = true
  | [], _ => by simp [PyData.canLayAll0]
  | x :: xs, h => by
    simp only [PyData.canLayAll0, Bool.and_eq_true]
    exact ⟨h x (by simp), canLayAll_of fun y hy => h y (by simp [hy])⟩
theorem alikeAll_of : ∀ {xs ys : List D}, (∀ x ∈ xs, ∀ y ∈ ys, PySem.W.alike x y = true) → PySem.W.alikeAll xs ys = true
  | [], _, _ => by simp [PySem.W.alikeAll]
  | _ :: _, [], _ => by simp [PySem.W.alikeAll]
  | x :: xs, y :: ys, h => by
    simp only [PySem.W.alikeAll, Bool.and_eq_true]
    exact ⟨h x (by simp) y (by simp), alikeAll_of fun a ha b hb => h a (by simp [ha]) b (by simp [hb])⟩
mutual
theorem alike_refl : ∀ {d : D}, d.canLay0 = true → PySem.W.alike d d = true
  | .none, _ => by simp [PySem.W.alike]
  | .bool _, _ => by simp [PySem.W.alike]
  | .int _, _ => by simp [PySem.W.alike]
  | .str _, _ => by simp [PySem.W.alike]
  | .list xs, h => by
    simp only [PyData.canLay0] at h
    simp only [PySem.W.alike]
    exact alikeAll_refl h
  | .tuple xs, h => by
    simp only [PyData.canLay0] at h
    simp only [PySem.W.alike]
    exact alikeAll_refl h
  | .dict _, h => by simp [PyData.canLay0] at h
theorem alikeAll_refl : ∀ {xs : List D}, PyData.canLayAll0 xs = true → PySem.W.alikeAll xs xs = true
  | [], _ => by simp [PySem.W.alikeAll]
  | x :: xs, h => by
    simp only [PyData.canLayAll0, Bool.and_eq_true] at h
    simp only [PySem.W.alikeAll, Bool.and_eq_true]
    exact ⟨alike_refl h.1, alikeAll_refl h.2⟩
end
theorem sortable_of {ds : List D} (ha : ∀ x ∈ ds, ∀ y ∈ ds, PySem.W.alike x y = true) (hh : (∀ x ∈ ds, headed x = true) ∨ ∀ x ∈ ds, bare x = true) (hd : ∀ x ∈ ds, x.depth ≤ 100) (hl : ds.length ≤ big) : sortable ds = true := by
  unfold sortable allAlike
  simp only [Bool.and_eq_true, Bool.or_eq_true, List.all_eq_true, decide_eq_true_eq]
  exact ⟨⟨⟨ha, hh⟩, hd⟩, hl⟩
theorem sortD_perm (ds : List D) : (sortD ds).Perm ds := List.mergeSort_perm _ _
theorem gSorted_l {ds : List D} (h : sortable ds = true) : gSorted [.list ds] = some (.dat (.list (sortD ds))) := by
  show (if sortable ds = true then _ else _) = _
  rw [if_pos h]
theorem gSorted_t {ds : List D} (h : sortable ds = true) : gSorted [.tuple ds] = some (.dat (.list (sortD ds))) := by
  show (if sortable ds = true then _ else _) = _
  rw [if_pos h]
theorem gTuple_l {ds : List D} : gTuple [.list ds] = some (.dat (.tuple ds)) := rfl
theorem gTuple_t {ds : List D} : gTuple [.tuple ds] = some (.dat (.tuple ds)) := rfl
/-! ### rows of ints -/
theorem rowD_lay (r : List Int) : (rowD r).canLay0 = true := by
  unfold rowD
  simp only [PyData.canLay0]
  exact canLayAll_of fun x hx => by obtain ⟨n, _, rfl⟩ := List.mem_map.mp hx; simp [PyData.canLay0]
theorem rowD_depth (r : List Int) : (rowD r).depth ≤ 2 := depth_tup (n := 1) fun x hx => by
  obtain ⟨n, _, rfl⟩ := List.mem_map.mp hx
  simp [PyData.depth]
theorem rowD_alike (r q : List Int) : PySem.W.alike (rowD r) (rowD q) = true := by
  unfold rowD
  simp only [PySem.W.alike]
  exact alikeAll_of fun x hx y hy => by
    obtain ⟨n, _, rfl⟩ := List.mem_map.mp hx
    obtain ⟨m, _, rfl⟩ := List.mem_map.mp hy
    simp [PySem.W.alike]
theorem rowD_headed {r : List Int} (h : r ≠ []) : headed (rowD r) = true := by
  cases r with
  | nil => exact (h rfl).elim
  | cons a r => rfl
theorem rows_sortable {rs : List (List Int)} (h : ∀ r ∈ rs, r ≠ []) (hl : rs.length ≤ big) : sortable (rs.map rowD) = true := by
  refine sortable_of (fun x hx y hy => ?_) (.inl fun x hx => ?_) (fun x hx => ?_) (by simpa using hl)
  · obtain ⟨r, _, rfl⟩ := List.mem_map.mp hx
    obtain ⟨q, _, rfl⟩ := List.mem_map.mp hy
    exact rowD_alike r q
  · obtain ⟨r, hr, rfl⟩ := List.mem_map.mp hx
    exact rowD_headed (h r hr)
  · obtain ⟨r, _, rfl⟩ := List.mem_map.mp hx
    exact Nat.le_trans (rowD_depth r) (by omega)
theorem rows_inOk {r : List Int} {rs : List (List Int)} : inOk (rowD r) (rs.map rowD) = true := by
  have h1 : SeqAt.shaped (rowD r) = true := by
    unfold SeqAt.shaped
    have := rowD_depth r
    simp [rowD_lay]; omega
  have h2 : SeqAt.shaped (.list (rs.map rowD)) = true := by
    unfold SeqAt.shaped
    have h3 : PyData.canLay0 (.list (rs.map rowD)) = true := by
      simp only [PyData.canLay0]
      exact canLayAll_of fun x hx => by obtain ⟨q, _, rfl⟩ := List.mem_map.mp hx; exact rowD_lay q
    have h4 := depth_lst (n := 2) (xs := rs.map rowD) fun x hx => by obtain ⟨q, _, rfl⟩ := List.mem_map.mp hx; exact rowD_depth q
    simp [h3]; omega
  unfold inOk
  rw [h1, h2]
  simp
theorem gIn_rows {neg : Bool} {r : List Int} {rs : List (List Int)} : gIn neg (rowD r) (.tuple (rs.map rowD)) = some (.bool (if neg = true then !memD (rowD r) (rs.map rowD) else memD (rowD r) (rs.map rowD))) := by
  unfold gIn
  simp [seqOf, rows_inOk]
theorem Ans_run {np loc : Nat} {fb : SM} {ds : List D} {d : D} {ρ' : Env} (hl : ds.length = np) (h : fb (ds.map (fun d => some (.dat d)) ++ List.replicate loc none) = some (.rt (.dat d) ρ')) (h2 : np ≤ ρ'.length) : Ans (runQ np loc fb) ds d := by
  refine ⟨restP (ds.map fun d => some (.dat d)) ρ', by rw [restP_len, List.length_map], ?_⟩
  rw [runQ_eq, if_pos (by rw [List.length_map]; exact hl), h, runK_rt, if_pos h2]
theorem Ans_run0 {np loc : Nat} {fb : SM} {ds : List D} {ρ' : Env} (hl : ds.length = np) (h : fb (ds.map (fun d => some (.dat d)) ++ List.replicate loc none) = some (.nx ρ')) (h2 : np ≤ ρ'.length) : Ans (runQ np loc fb) ds .none := by
  refine ⟨restP (ds.map fun d => some (.dat d)) ρ', by rw [restP_len, List.length_map], ?_⟩
  rw [runQ_eq, if_pos (by rw [List.length_map]; exact hl), h, runK_nx, if_pos h2]
/-! ### steps -/
theorem seq_nx {f g : SM} {ρ ρ1 : Env} {r : Option Fl} (h : f ρ = some (.nx ρ1)) (h2 : g ρ1 = r) : seqS f g ρ = r := by
  unfold seqS
  rw [h]
  exact h2
theorem seq_rt {f g : SM} {ρ ρ1 : Env} {s : S} (h : f ρ = some (.rt s ρ1)) : seqS f g ρ = some (.rt s ρ1) := by
  unfold seqS
  rw [h]
/-! ### own lists -/
section
variable {ρ ρ1 : Env} {i np : Nat} {xs ys zs : List D} {f g : EM} {d : D} {k : Int} {s : S}
theorem iaddO_ok (h : ρ[i]? = some (some (.own xs))) (hf : f ρ = some (.ok (.own zs), ρ1)) (h1 : ρ1[i]? = some (some (.own ys))) (hl : ys.length + zs.length ≤ big) : iaddO i f ρ = some (.nx (ρ1.set i (some (.own (ys ++ zs))))) := by
  unfold iaddO
  rw [h]
  simp only [bindS, hf, h1]
  rw [if_pos hl]
theorem appO_ok (h : ρ[i]? = some (some (.own xs))) (hf : f ρ = some (.ok s, ρ1)) (hs : s.toD = some d) (h1 : ρ1[i]? = some (some (.own ys))) (hl : ys.length < big) : appO i f ρ = some (.nx (ρ1.set i (some (.own (ys ++ [d]))))) := by
  unfold appO
  rw [h]
  simp only [bindS, hf, h1, hs]
  rw [if_pos hl]
theorem setO_ok (hf : f ρ = some (.ok (.dat d), ρ)) (hg : g ρ = some (.ok (.dat (.int k)), ρ)) (h1 : ρ[i]? = some (some (.own ys))) {j : Nat} (hj : ixN ys.length k = some j) : setO i f g ρ = some (.nx (ρ.set i (some (.own (ys.set j d))))) := by
  unfold setO
  simp only [bindS, hf, S.toD, h1, hg, hj]
theorem mOix_ok (h1 : ρ[i]? = some (some (.own ys))) (hf : f ρ = some (.ok (.dat (.int k)), ρ)) (hx : atI ys k = some d) : mOix i f ρ = some (.ok (.dat d), ρ) := by
  unfold mOix
  rw [h1]
  simp only [bindD, bindE, hf, S.toD, h1, hx, optD]
theorem mOlen_ok (h1 : ρ[i]? = some (some (.own ys))) : mOlen i ρ = some (.ok (.dat (.int ys.length)), ρ) := by
  unfold mOlen
  rw [h1]
theorem frzS_ok {fb : SM} (hn : np ≤ i) (h : ρ[i]? = some (some (.own xs))) : frzS np i fb ρ = fb (ρ.set i (some (.dat (.list xs)))) := by
  unfold frzS frzE
  rw [if_pos hn, h]
theorem gTup_ok {ds : List D} (h : ds.length ≤ 1000) : gTup' ds = some (.dat (.tuple ds)) := by
  unfold gTup'
  rw [if_pos (Nat.le_trans h (by decide))]
theorem gAdd_t {xs ys : List D} (h : xs.length + ys.length ≤ big) : gAdd (.tuple xs) (.tuple ys) = some (.tuple (xs ++ ys)) := by
  show (if xs.length + ys.length ≤ big then _ else _) = _
  rw [if_pos h]
theorem gAdd_l {xs ys : List D} (h : xs.length + ys.length ≤ big) : gAdd (.list xs) (.list ys) = some (.list (xs ++ ys)) := by
  show (if xs.length + ys.length ≤ big then _ else _) = _
  rw [if_pos h]
end
/-! ### loops that append to a list -/
theorem enumD_mem {xs : List D} {d : D} (h : d ∈ enumD xs) : ∃ (i : Nat) (x : D), d = .tuple [.int i, x] ∧ xs[i]? = some x := by
  unfold enumD zipD at h
  obtain ⟨p, hp, rfl⟩ := List.mem_map.mp h
  obtain ⟨i, hi⟩ := List.mem_iff_getElem?.mp hp
  rw [List.getElem?_zip_eq_some] at hi
  obtain ⟨h1, h2⟩ := hi
  refine ⟨i, p.2, ?_, h2⟩
  have hl : i < xs.length := (List.getElem?_eq_some_iff.mp h2).1
  rw [rngD_get hl] at h1
  have := Option.some.inj h1
  rw [← this]
  simp
theorem loopS_inv2 {T : TgM} {fb : SM} (I : List D → Env → Prop) : ∀ (ds pre : List D) {ρ : Env}, I pre ρ → (∀ p d q ρ, pre ++ ds = p ++ d :: q → I p ρ → ∃ ρ1, T d ρ = some ρ1 ∧ ∃ ρ2, (fb ρ1 = some (.nx ρ2) ∨ fb ρ1 = some (.ct ρ2)) ∧ I (p ++ [d]) ρ2) →
    ∃ ρ', loopS T fb ds ρ = some (.nx ρ') ∧ I (pre ++ ds) ρ'
  | [], pre, ρ, h, _ => ⟨ρ, rfl, by simpa using h⟩
  | d :: ds, pre, ρ, h, hs => by
    obtain ⟨ρ1, h1, ρ2, h2, h3⟩ := hs pre d ds ρ rfl h
    obtain ⟨ρ', h4, h5⟩ := loopS_inv2 I ds (pre ++ [d]) h3 fun p e q ρ e' hI => hs p e q ρ (by rw [← e']; simp) hI
    refine ⟨ρ', ?_, by simpa using h5⟩
    unfold loopS
    rcases h2 with h2 | h2 <;> simp only [h1, h2, h4]
theorem forS_inv2 {fi : IM} {T : TgM} {fb : SM} {ρ ρ1 : Env} {ds : List D} (I : List D → Env → Prop) (hi : fi ρ = some (.inl ds, ρ1)) (h0 : I [] ρ1) (hs : ∀ p d q ρ, ds = p ++ d :: q → I p ρ → ∃ ρ1, T d ρ = some ρ1 ∧ ∃ ρ2, (fb ρ1 = some (.nx ρ2) ∨ fb ρ1 = some (.ct ρ2)) ∧ I (p ++ [d]) ρ2) :
    ∃ ρ', forS fi T fb ρ = some (.nx ρ') ∧ I ds ρ' := by
  obtain ⟨ρ', h1, h2⟩ := loopS_inv2 I ds [] h0 fun p d q ρ e => hs p d q ρ (by simpa using e)
  refine ⟨ρ', ?_, by simpa using h2⟩
  unfold forS
  simp only [hi, h1]
theorem flatMap_le {α β : Type} {f : α → List β} {c : Nat} : ∀ {xs : List α}, (∀ x ∈ xs, (f x).length ≤ c) → (xs.flatMap f).length ≤ c * xs.length
  | [], _ => by simp
  | x :: xs, h => by
    have h1 := h x (by simp)
    have h2 := flatMap_le (f := f) (c := c) (xs := xs) fun y hy => h y (by simp [hy])
    simp only [List.flatMap_cons, List.length_append, List.length_cons, Nat.mul_add]
    omega
theorem gRng2_nat {a b : Nat} (h : b < 1000) (h' : a < 1000) : gRng2 [.int a, .int b] = some (rngD a (b - a)) := by
  have h1 : -(2 ^ 62) ≤ (a : Int) := by omega
  have h2 : (a : Int) < 2 ^ 62 := by omega
  have h3 : -(2 ^ 62) ≤ (b : Int) := by omega
  have h4 : (b : Int) < 2 ^ 62 := by omega
  have e : ((b : Int) - a).toNat = b - a := by omega
  simp only [gRng2, h1, h2, h3, h4, and_self, if_true, e]
theorem rngD_mem {a n : Nat} {d : D} (h : d ∈ rngD a n) : ∃ i : Nat, a ≤ i ∧ i < a + n ∧ d = .int i := by
  unfold rngD at h
  obtain ⟨i, hi, rfl⟩ := List.mem_map.mp h
  exact ⟨a + i, by omega, by have := List.mem_range.mp hi; omega, by simp⟩
end DL

namespace M
open PySem PySem.Spec L2 DL
def c_HANDS : D := .tuple [.str "both", .str "within", .str "without"]
def c_WINDS : D := .tuple [.str "both", .str "opens", .str "shuts", .str "still"]
def b_is_within : SM := retS' (mAnd (op1 (gIsi "int") (mV 0)) (mAnd (mNot (op1 (gIsi "bool") (mV 0))) (mChain gLe gLe (mV 1) (mV 0) (mV 2))))
def m_is_within : EM := runQ 3 0 b_is_within
def b_is_word : SM := retS' (mAnd (op1 (gIsi "str") (mV 0)) (op2 (gIn false) (mV 0) (mV 1)))
def m_is_word : EM := runQ 2 0 b_is_word
def b_is_layer : SM := seqS (ifS (mOr (mNot (op1 (gIsi "tuple") (mV 0))) (mOr (op2 gNe (mCB gLen (mAc (mV 0) mA0)) (mC (.int 5))) (mNot (callM m_is_within (mAc (op2 gIx (mV 0) (mC (.int 0))) (mAc (mC (.int 1)) (mAc (mC (.int 2)) (mA0)))))))) (retS' (mC (.bool false))) (nextS)) (seqS (ifS (mOr (mNot (callM m_is_within (mAc (op2 gIx (mV 0) (mC (.int 1))) (mAc (op1 gNeg (mC (.int 1))) (mAc (op2 gIx (mV 0) (mC (.int 0))) (mA0)))))) (mNot (callM m_is_within (mAc (op2 gIx (mV 0) (mC (.int 2))) (mAc (op1 gNeg (mC (.int 1))) (mAc (op2 gIx (mV 0) (mC (.int 0))) (mA0))))))) (retS' (mC (.bool false))) (nextS)) (retS' (mAnd (callM m_is_word (mAc (op2 gIx (mV 0) (mC (.int 3))) (mAc (mC c_HANDS) (mA0)))) (callM m_is_word (mAc (op2 gIx (mV 0) (mC (.int 4))) (mAc (mC c_WINDS) (mA0)))))))
def m_is_layer : EM := runQ 1 0 b_is_layer
def b_is_bar : SM := seqS (ifS (mOr (mNot (op1 (gIsi "tuple") (mV 1))) (mOr (op2 gNe (mCB gLen (mAc (mV 1) mA0)) (mC (.int 4))) (mNot (callM m_is_within (mAc (op2 gIx (mV 1) (mC (.int 0))) (mAc (mC (.int 0)) (mAc (op2 gSub (mCB gLen (mAc (mV 0) mA0)) (mC (.int 1))) (mA0)))))))) (retS' (mC (.bool false))) (nextS)) (seqS (ifS (mOr (mNot (callM m_is_within (mAc (op2 gIx (mV 1) (mC (.int 1))) (mAc (mC (.int 0)) (mAc (op2 gSub (mCB gLen (mAc (mV 0) mA0)) (mC (.int 1))) (mA0)))))) (op2 gEq (op2 gIx (mV 1) (mC (.int 1))) (op2 gIx (mV 1) (mC (.int 0))))) (retS' (mC (.bool false))) (nextS)) (seqS (asgN 2 2 (op2 gIx (op2 gIx (mV 0) (op2 gIx (mV 1) (mC (.int 1)))) (mC (.int 0)))) (seqS (ifS (mOr (mNot (callM m_is_within (mAc (op2 gIx (mV 1) (mC (.int 2))) (mAc (mC (.int 0)) (mAc (mV 2) (mA0)))))) (mNot (callM m_is_within (mAc (op2 gIx (mV 1) (mC (.int 3))) (mAc (op2 gIx (mV 1) (mC (.int 2))) (mAc (mV 2) (mA0))))))) (retS' (mC (.bool false))) (nextS)) (retS' (mOr (op2 gGt (op2 gIx (mV 1) (mC (.int 2))) (mC (.int 0))) (op2 gLt (op2 gIx (mV 1) (mC (.int 3))) (mV 2)))))))
def m_is_bar : EM := runQ 2 1 b_is_bar
def b_is_window_value : SM := seqS (ifS (mOr (mNot (op1 (gIsi "tuple") (mV 0))) (mOr (op2 gNe (mCB gLen (mAc (mV 0) mA0)) (mC (.int 2))) (mNot (op1 (gIsi "tuple") (op2 gIx (mV 0) (mC (.int 0))))))) (retS' (mC (.bool false))) (nextS)) (seqS (asgT (gTp 2 (gCs (gNm 1 1) (gCs (gNm 1 2) (gNl)))) (mV 0)) (seqS (ifS (mOr (mNot (mChain gLe gLe (mC (.int 2)) (mCB gLen (mAc (mV 1) mA0)) (mC (.int 4)))) (mNot (mCB gAll (mAc (compE false (iSeq (mV 1)) (gNm 1 3) (mYes) (callM m_is_layer (mAc (mV 3) (mA0))) [3]) mA0)))) (retS' (mC (.bool false))) (nextS)) (seqS (ifS (mOr (mNot (op1 (gIsi "tuple") (mV 2))) (mOr (op2 gGt (mCB gLen (mAc (mV 2) mA0)) (mC (.int 6))) (mNot (mCB gAll (mAc (compE false (iSeq (mV 2)) (gNm 1 3) (mYes) (callM m_is_bar (mAc (mV 1) (mAc (mV 3) (mA0)))) [3]) mA0))))) (retS' (mC (.bool false))) (nextS)) (retS' (mCB gAll (mAc (compE false (iCB gZip (mAc (mV 2) (mAc (mSl gSl (mV 2) (mPart (mC (.int 1))) (mNoPart)) (mA0)))) (gTp 2 (gCs (gNm 1 3) (gCs (gNm 1 4) (gNl)))) (mYes) (op2 gLt (mV 3) (mV 4)) [3, 4]) mA0))))))
def m_is_window_value : EM := runQ 1 4 b_is_window_value
def b_need_window : SM := ifS (mNot (callM m_is_window_value (mAc (mV 0) (mA0)))) (failS) (nextS)
def m_need_window : EM := runQ 1 0 b_need_window
def b_all_bars : SM := seqS (asgN 1 1 (mLR false (mCB gLen (mAc (mV 0) mA0)))) (seqS (asgN 1 2 (compE2 false (iSeq (mV 1)) (gNm 1 4) (mYes) (iSeq (mV 1)) (gNm 1 5) (mYes) (mCB gTup' (mAc (mV 4) (mAc (mV 5) (mA0)))) [4, 5] [5])) (seqS (asgN 1 3 (compE2 false (iCB gRng1 (mAc (mC (.int 3)) (mA0))) (gNm 1 6) (mYes) (iCB gRng1 (mAc (mC (.int 3)) (mA0))) (gNm 1 7) (mYes) (mCB gTup' (mAc (mV 6) (mAc (mV 7) (mA0)))) [6, 7] [7])) (retS' (compE2 false (iSeq (mV 2)) (gNm 1 8) (mYes) (iSeq (mV 3)) (gNm 1 9) (callM m_is_bar (mAc (mV 0) (mAc (op2 gAdd (mV 8) (mV 9)) (mA0)))) (op2 gAdd (mV 8) (mV 9)) [8, 9] [9]))))
def m_all_bars : EM := runQ 1 9 b_all_bars
def b_bars_changed : SM := seqS (asgT (gTp 2 (gCs (gNm 1 1) (gCs (gNm 1 2) (gNl)))) (mV 0)) (seqS (asgN 1 3 (compE true (iCB gRng1 (mAc (mCB gLen (mAc (mV 2) mA0)) (mA0))) (gNm 1 4) (mYes) (mCB gTup' (mAc (mV 1) (mAc (op2 gAdd (mSl gSl (mV 2) (mNoPart) (mPart (mV 4))) (mSl gSl (mV 2) (mPart (op2 gAdd (mV 4) (mC (.int 1)))) (mNoPart))) (mA0)))) [4])) (seqS (ifS (op2 gLt (mCB gLen (mAc (mV 2) mA0)) (mC (.int 6))) (iaddO 3 (compE true (iSeq (callM m_all_bars (mAc (mV 1) (mA0)))) (gNm 1 5) (op2 (gIn true) (mV 5) (mV 2)) (mCB gTup' (mAc (mV 1) (mAc (mCB gTuple (mAc (mCB gSorted (mAc (op2 gAdd (mV 2) (mCB gTup' (mAc (mV 5) (mA0)))) mA0)) mA0)) (mA0)))) [5])) (nextS)) (frzS 1 3 (retS' (mCB gSorted (mAc (mV 3) mA0))))))
def m_bars_changed : EM := runQ 1 5 b_bars_changed
def b_bar_changes : SM := seqS (dropS (callM m_need_window (mAc (mV 0) (mA0)))) (retS' (callM m_bars_changed (mAc (mV 0) (mA0))))
def m_bar_changes : EM := runQ 1 0 b_bar_changes
def b__law_deck : SM := seqS (ifS (op2 gGe (mV 0) (op2 gPow (mC (.int 10)) (mC (.int 18)))) (retS' (mCB gLstO (mAc (op2 gSub (mV 0) (op2 gPow (mC (.int 10)) (mC (.int 18)))) (mAc (op2 gMod (mV 0) (mC (.int 2147483579))) (mAc (mV 1) (mA0)))))) (nextS)) (retS' (mCB gLstO (mAc (mC (.int 0)) (mAc (op2 gMod (mV 0) (mC (.int 2147483579))) (mAc (mV 1) (mA0))))))
def m__law_deck : EM := runQ 2 0 b__law_deck
def b__law_pick : SM := seqS (ifS (op2 gGt (mOix 0 (mC (.int 0))) (mC (.int 1))) (seqS (asgN 2 3 (op2 gMod (mCB gInt (mAc (mOix 0 (mC (.int 0))) mA0)) (mV 1))) (seqS (setO 0 (op2 gFdiv (mOix 0 (mC (.int 0))) (mV 1)) (mC (.int 0))) (retS' (mV 3)))) (nextS)) (seqS (setO 0 (op2 gAdd (mOix 0 (mC (.int 2))) (mC (.int 1))) (mC (.int 2))) (seqS (asgN 2 2 (op2 gMod (op2 gPow (op2 gAdd (mOix 0 (mC (.int 1))) (op2 gMul (mC (.int 15485867)) (mOix 0 (mC (.int 2))))) (mC (.int 5))) (mC (.int 2147483647)))) (seqS (asgN 2 3 (op2 gFdiv (op2 gMod (op2 gPow (op2 gAdd (mV 2) (op2 gMul (mC (.int 7919)) (mOix 0 (mC (.int 2))))) (mC (.int 3))) (mC (.int 2147483629))) (mC (.int 32)))) (retS' (op2 gMod (mCB gInt (mAc (mV 3) mA0)) (mV 1))))))
def m__law_pick : EM := runQ 2 2 b__law_pick
def b__law_one : SM := retS' (op2 gIx (mV 1) (callM m__law_pick (mAr 0 (mAc (mCB gLen (mAc (mV 1) mA0)) (mA0)))))
def m__law_one : EM := runQ 2 0 b__law_one
def b__law_sort : SM := seqS (ifS (op1 (gIsi "bool") (mV 0)) (retS' (mC (.int 1))) (nextS)) (seqS (ifS (op1 (gIsi "int") (mV 0)) (retS' (mC (.int 2))) (nextS)) (seqS (ifS (op1 (gIsi "str") (mV 0)) (retS' (mC (.int 3))) (nextS)) (seqS (ifS (op1 (gIsi "list") (mV 0)) (retS' (mC (.int 4))) (nextS)) (retS' (mIfE (op1 (gIsi "tuple") (mV 0)) (mC (.int 5)) (mC (.int 6)))))))
def m__law_sort : EM := runQ 1 0 b__law_sort
def b__law_same (g : EM) : SM := seqS (ifS (op2 gNe (callM m__law_sort (mAc (mV 0) (mA0))) (callM m__law_sort (mAc (mV 1) (mA0)))) (retS' (mC (.bool false))) (nextS)) (seqS (ifS (mAnd (op2 gGt (callM m__law_sort (mAc (mV 0) (mA0))) (mC (.int 3))) (op2 gLt (callM m__law_sort (mAc (mV 0) (mA0))) (mC (.int 6)))) (seqS (ifS (op2 gNe (mCB gLen (mAc (mV 0) mA0)) (mCB gLen (mAc (mV 1) mA0))) (retS' (mC (.bool false))) (nextS)) (retS' (op2 gEq (compE false (iCB gEnum2 (mAc (mV 0) (mA0))) (gTp 2 (gCs (gNm 2 2) (gCs (gNm 2 3) (gNl)))) (mNot (callM g (mAc (mV 3) (mAc (op2 gIx (mV 1) (mV 2)) (mA0))))) (mV 2) [2, 3]) (mCB gLst (mA0))))) (nextS)) (retS' (op2 gEq (mV 0) (mV 1))))
def m__law_same : Nat → EM
  | 0 => fun _ => none
  | n + 1 => runQ 2 2 (b__law_same (m__law_same n))
def b__law_layer : SM := seqS (asgN 1 1 (op2 gAdd (mC (.int 1)) (callM m__law_pick (mAr 0 (mAc (mC (.int 2)) (mA0)))))) (seqS (parS 1 [2, 3] [op2 gSub (callM m__law_pick (mAr 0 (mAc (op2 gAdd (mV 1) (mC (.int 2))) (mA0)))) (mC (.int 1)), op2 gSub (callM m__law_pick (mAr 0 (mAc (op2 gAdd (mV 1) (mC (.int 2))) (mA0)))) (mC (.int 1))]) (seqS (asgN 1 4 (callM m__law_one (mAr 0 (mAc (mCB gLst (mAc (mC (.str "within")) (mAc (mC (.str "within")) (mAc (mC (.str "both")) (mAc (mC (.str "without")) (mA0)))))) (mA0))))) (retS' (mCB gTup' (mAc (mV 1) (mAc (mV 2) (mAc (mV 3) (mAc (mV 4) (mAc (callM m__law_one (mAr 0 (mAc (mCB gLst (mAc (mC (.str "still")) (mAc (mC (.str "still")) (mAc (mC (.str "still")) (mAc (mC (.str "opens")) (mAc (mC (.str "shuts")) (mAc (mC (.str "both")) (mA0)))))))) (mA0)))) (mA0))))))))))
def m__law_layer : EM := runQ 1 4 b__law_layer
def b__law_every_bar : SM := seqS (asgN 1 1 (mCB gLstO (mA0))) (seqS (forS (iCB gRng1 (mAc (mCB gLen (mAc (mV 0) mA0)) (mA0))) (gNm 1 2) (forS (iCB gRng1 (mAc (mCB gLen (mAc (mV 0) mA0)) (mA0))) (gNm 1 3) (seqS (asgN 1 4 (op2 gIx (op2 gIx (mV 0) (mV 3)) (mC (.int 0)))) (forS (iCB gRng1 (mAc (op2 gAdd (mV 4) (mC (.int 1))) (mA0))) (gNm 1 5) (forS (iCB gRng2 (mAc (mV 5) (mAc (op2 gAdd (mV 4) (mC (.int 1))) (mA0)))) (gNm 1 6) (ifS (mAnd (op2 gNe (mV 2) (mV 3)) (mOr (op2 gGt (mV 5) (mC (.int 0))) (op2 gLt (mV 6) (mV 4)))) (appO 1 (mCB gTup' (mAc (mV 2) (mAc (mV 3) (mAc (mV 5) (mAc (mV 6) (mA0))))))) (nextS))))))) (frzS 1 1 (retS' (mV 1))))
def m__law_every_bar : EM := runQ 1 6 b__law_every_bar
def b__law_pane : SM := seqS (asgN 2 2 (mCB gTup' (mA0))) (seqS (forS (iCB gRng1 (mAc (op2 gAdd (mC (.int 2)) (callM m__law_pick (mAr 0 (mAc (op2 gSub (mV 1) (mC (.int 1))) (mA0))))) (mA0))) (gNm 2 3) (asgN 2 2 (op2 gAdd (mV 2) (mCB gTup' (mAc (callM m__law_layer (mAr 0 (mA0))) (mA0)))))) (seqS (parS 2 [4, 5] [mCB gLstO (mA0), callM m__law_every_bar (mAc (mV 2) (mA0))]) (seqS (forS (iCB gRng1 (mAc (callM m__law_pick (mAr 0 (mAc (mC (.int 4)) (mA0)))) (mA0))) (gNm 2 3) (appO 4 (callM m__law_one (mAr 0 (mAc (mV 5) (mA0)))))) (frzS 2 4 (retS' (mCB gTup' (mAc (mV 2) (mAc (mCB gTuple (mAc (mSS (mV 4)) mA0)) (mA0)))))))))
def m__law_pane : EM := runQ 2 4 b__law_pane
def b__law_known : SM := seqS (asgT (gTp 2 (gCs (gNm 0 0) (gCs (gNm 0 1) (gNl)))) (mCB gTup' (mAc (mCB gTup' (mAc (mC (.int 1)) (mAc (mC (.int 0)) (mAc (mC (.int 0)) (mAc (mC (.str "within")) (mAc (mC (.str "still")) (mA0))))))) (mAc (mCB gTup' (mAc (mC (.int 1)) (mAc (op1 gNeg (mC (.int 1))) (mAc (mC (.int 0)) (mAc (mC (.str "within")) (mAc (mC (.str "still")) (mA0))))))) (mA0))))) (seqS (asgN 0 2 (mCB gTup' (mAc (mCB gTup' (mAc (mV 0) (mAc (mV 1) (mA0)))) (mAc (mCB gTup' (mAc (mCB gTup' (mAc (mC (.int 0)) (mAc (mC (.int 1)) (mAc (mC (.int 1)) (mAc (mC (.int 1)) (mA0)))))) (mA0))) (mA0))))) (seqS (asgN 0 3 (mCB gTup' (mAc (mCB gTup' (mAc (mCB gTup' (mAc (mC (.int 1)) (mAc (mC (.int 0)) (mAc (mC (.int 0)) (mAc (mC (.str "within")) (mAc (mC (.str "shuts")) (mA0))))))) (mAc (mCB gTup' (mAc (mC (.int 1)) (mAc (op1 gNeg (mC (.int 1))) (mAc (mC (.int 0)) (mAc (mC (.str "both")) (mAc (mC (.str "still")) (mA0))))))) (mA0)))) (mAc (mCB gTup' (mA0)) (mA0))))) (seqS (asgN 0 4 (mCB gTup' (mAc (mCB gTup' (mAc (mV 0) (mAc (mCB gTup' (mAc (mC (.int 1)) (mAc (op1 gNeg (mC (.int 1))) (mAc (mC (.int 0)) (mAc (mC (.str "without")) (mAc (mC (.str "opens")) (mA0))))))) (mA0)))) (mAc (mCB gTup' (mAc (mCB gTup' (mAc (mC (.int 0)) (mAc (mC (.int 1)) (mAc (mC (.int 0)) (mAc (mC (.int 0)) (mA0)))))) (mA0))) (mA0))))) (seqS (asgN 0 5 (mCB gTup' (mAc (mCB gTup' (mAc (mCB gTup' (mAc (mCB gTup' (mAc (mC (.int 1)) (mAc (mC (.int 1)) (mA0)))) (mAc (mCB gTup' (mAc (mC (.int 0)) (mAc (mC (.int 1)) (mA0)))) (mAc (mCB gTup' (mAc (mC (.int 1)) (mAc (mC (.int 0)) (mA0)))) (mA0))))) (mAc (mC (.str "flyless")) (mA0)))) (mAc (mCB gTup' (mAc (mCB gTup' (mAc (mCB gTup' (mAc (mC (.int 1)) (mAc (mC (.int 1)) (mA0)))) (mAc (mCB gTup' (mAc (mC (.int 0)) (mAc (mC (.int 0)) (mA0)))) (mAc (mCB gTup' (mAc (mC (.int 1)) (mAc (mC (.int 0)) (mA0)))) (mA0))))) (mAc (mC (.str "dry")) (mA0)))) (mA0))))) (retS' (mCB gLst (mAc (mV 2) (mAc (mV 3) (mAc (mV 4) (mAc (mV 5) (mAc (mCB gTup' (mAc (mCB gTup' (mAc (mCB gTup' (mAc (mCB gTup' (mAc (mC (.int 0)) (mAc (mC (.int 1)) (mA0)))) (mAc (mCB gTup' (mAc (mC (.int 1)) (mAc (mC (.int 1)) (mA0)))) (mA0)))) (mAc (mC (.str "none")) (mA0)))) (mA0))) (mA0))))))))))))
def m__law_known : EM := runQ 0 6 b__law_known
def b__law_bars_changed : SM := seqS (asgT (gTp 2 (gCs (gNm 1 1) (gCs (gNm 1 2) (gNl)))) (mV 0)) (seqS (asgN 1 3 (compE true (iCB gRng1 (mAc (mCB gLen (mAc (mV 2) mA0)) (mA0))) (gNm 1 5) (mYes) (mCB gTup' (mAc (mV 1) (mAc (op2 gAdd (mSl gSl (mV 2) (mNoPart) (mPart (mV 5))) (mSl gSl (mV 2) (mPart (op2 gAdd (mV 5) (mC (.int 1)))) (mNoPart))) (mA0)))) [5])) (seqS (ifS (op2 gLt (mCB gLen (mAc (mV 2) mA0)) (mC (.int 6))) (forS (iSeq (callM m__law_every_bar (mAc (mV 1) (mA0)))) (gNm 1 4) (ifS (op2 (gIn true) (mV 4) (mV 2)) (appO 3 (mCB gTup' (mAc (mV 1) (mAc (mCB gTuple (mAc (mCB gSorted (mAc (op2 gAdd (mV 2) (mCB gTup' (mAc (mV 4) (mA0)))) mA0)) mA0)) (mA0))))) (nextS))) (nextS)) (frzS 1 3 (retS' (mCB gSorted (mAc (mV 3) mA0))))))
def m__law_bars_changed : EM := runQ 1 5 b__law_bars_changed
end M
namespace K10
open PySem PySem.Spec L2 DL M
def b_law : SM := seqS (forS (iSeq (mSl gSl (op2 gAdd (mCB gLst (mAc (mC (.int 0)) (mA0))) (mV 0)) (mNoPart) (mPart (mC (.int 10))))) (gNm 1 1) (seqS (asgN 1 2 (callM m__law_deck (mAc (mV 1) (mAc (mC (.int 10)) (mA0))))) (seqS (asgN 1 3 (callM m__law_pane (mAr 2 (mAc (mC (.int 3)) (mA0))))) (seqS (forS (iCB gRng1 (mAc (callM m__law_pick (mAr 2 (mAc (mC (.int 4)) (mA0)))) (mA0))) (gNm 1 4) (ifS (op2 gLt (mCB gLen (mAc (op2 gIx (mV 3) (mC (.int 1))) mA0)) (mC (.int 6))) (seqS (asgN 1 6 (op2 gAdd (op2 gIx (mV 3) (mC (.int 1))) (mCB gTup' (mAc (callM m__law_one (mAr 2 (mAc (callM m__law_every_bar (mAc (op2 gIx (mV 3) (mC (.int 0))) (mA0))) (mA0)))) (mA0))))) (asgN 1 3 (mCB gTup' (mAc (op2 gIx (mV 3) (mC (.int 0))) (mAc (mCB gTuple (mAc (mSS (mV 6)) mA0)) (mA0)))))) (nextS))) (seqS (ifS (mNot (callM (m__law_same 8) (mAc (callM m_bar_changes (mAc (mV 3) (mA0))) (mAc (callM m__law_bars_changed (mAc (mV 3) (mA0))) (mA0))))) (retS' (mC (.bool false))) (nextS)) (seqS (asgN 1 5 (mCB gTup' (mAc (op2 gIx (mV 3) (mC (.int 0))) (mAc (mCB gTuple (mAc (mSl gSl (callM m__law_every_bar (mAc (op2 gIx (mV 3) (mC (.int 0))) (mA0))) (mNoPart) (mPart (mC (.int 6)))) mA0)) (mA0))))) (ifS (mAnd (op2 gEq (mCB gLen (mAc (op2 gIx (mV 5) (mC (.int 1))) mA0)) (mC (.int 6))) (mNot (callM (m__law_same 8) (mAc (callM m_bar_changes (mAc (mV 5) (mA0))) (mAc (callM m__law_bars_changed (mAc (mV 5) (mA0))) (mA0)))))) (retS' (mC (.bool false))) (nextS)))))))) (retS' (op2 gEq (mCB gLen (mAc (callM m_bar_changes (mAc (op2 gIx (callM m__law_known mA0) (mC (.int 0))) (mA0))) mA0)) (mC (.int 4))))
def m_law : EM := runQ 1 6 b_law
end K10

namespace M
open PySem PySem.Spec L2 DL
def wi (v : D) (lo hi : Int) : Bool := match v with
  | .int i => decide (lo ≤ i) && decide (i ≤ hi)
  | _ => false
theorem e_is_within (v : D) (lo hi : Int) : Ans m_is_within [v, .int lo, .int hi] (.bool (wi v lo hi)) := by
  refine ⟨[some (.dat v), some (.dat (.int lo)), some (.dat (.int hi))], rfl, ?_⟩
  cases v <;> simp [m_is_within, b_is_within, isiT, tyName, wi]
  split
  · simp_all
  · simp_all
    intro h; omega
theorem e_is_word (v : Str) (ws : List D) (h : ws.all flatD = true) : Ans m_is_word [.str v, .tuple ws] (.bool (memD (.str v) ws)) := by
  refine ⟨[some (.dat (.str v)), some (.dat (.tuple ws))], rfl, ?_⟩
  have e : gIn false (.str v) (.tuple ws) = some (.bool (memD (.str v) ws)) := by simp [gIn, seqOf, inOk, flatD, h]
  simp [m_is_word, b_is_word, isiT, tyName, e]
structure Lay where
  top : Int
  rain : Int
  flies : Int
  hand : Str
  wind : Str
def layD (l : Lay) : D := .tuple [.int l.top, .int l.rain, .int l.flies, .str l.hand, .str l.wind]
structure GoodLay (l : Lay) : Prop where
  top : l.top = 1 ∨ l.top = 2
  rain : -1 ≤ l.rain ∧ l.rain ≤ l.top
  flies : -1 ≤ l.flies ∧ l.flies ≤ l.top
  hand : memD (.str l.hand) [.str "both", .str "within", .str "without"] = true
  wind : memD (.str l.wind) [.str "both", .str "opens", .str "shuts", .str "still"] = true
theorem e_is_layer {l : Lay} (h : GoodLay l) : Ans m_is_layer [layD l] (.bool true) := by
  refine ⟨[some (.dat (layD l))], rfl, ?_⟩
  have e1 : memD (.str l.hand) [.str "both", .str "within", .str "without"] = true := h.hand
  have w1 := callK_dat (ρ := [some (.dat (layD l))]) (e_is_within (.int l.top) 1 2)
  have w2 := callK_dat (ρ := [some (.dat (layD l))]) (e_is_within (.int l.rain) (-1) l.top)
  have w3 := callK_dat (ρ := [some (.dat (layD l))]) (e_is_within (.int l.flies) (-1) l.top)
  have w4 := callK_dat (ρ := [some (.dat (layD l))]) (e_is_word l.hand [.str "both", .str "within", .str "without"] rfl)
  have w5 := callK_dat (ρ := [some (.dat (layD l))]) (e_is_word l.wind [.str "both", .str "opens", .str "shuts", .str "still"] rfl)
  have t1 : wi (.int l.top) 1 2 = true := by simp [wi]; have := h.top; omega
  have t2 : wi (.int l.rain) (-1) l.top = true := by simp [wi]; exact h.rain
  have t3 : wi (.int l.flies) (-1) l.top = true := by simp [wi]; exact h.flies
  rw [t1] at w1
  rw [t2] at w2
  rw [t3] at w3
  rw [h.hand] at w4
  rw [h.wind] at w5
  simp only [List.map] at w1 w2 w3 w4 w5
  simp only [layD] at w1 w2 w3 w4 w5 ⊢
  simp [m_is_layer, b_is_layer, isiT, tyName, atI, ixN, c_HANDS, c_WINDS, eqOk, SeqAt.shaped, PyData.eqv, w1, w2, w3, w4, w5]
theorem atI_nat {α : Type} {xs : List α} {j : Nat} {x : α} (h : xs[j]? = some x) : atI xs (j : Int) = some x := by
  have hl := (List.getElem?_eq_some_iff.mp h).1
  unfold atI ixN
  simp [hl]
  rw [List.getElem?_eq_getElem hl] at h
  exact Option.some.inj h
def rowD4 (k j lo hi : Int) : D := .tuple [.int k, .int j, .int lo, .int hi]
def barB (top k j lo hi : Int) : Bool := !decide (j = k) && (decide (0 ≤ lo) && decide (lo ≤ top)) && (decide (lo ≤ hi) && decide (hi ≤ top)) && (decide (0 < lo) || decide (hi < top))
theorem e_is_bar {Ls : List Lay} {k j : Nat} {l : Lay} (lo hi : Int) (hk : k < Ls.length) (hj : Ls[j]? = some l) : Ans m_is_bar [.tuple (Ls.map layD), rowD4 k j lo hi] (.bool (barB l.top k j lo hi)) := by
  refine ⟨[some (.dat (.tuple (Ls.map layD))), some (.dat (rowD4 k j lo hi))], rfl, ?_⟩
  have hjl := (List.getElem?_eq_some_iff.mp hj).1
  have ij : atI (Ls.map layD) (j : Int) = some (layD l) := atI_nat (by simp [hj])
  have it : atI [PyData.int l.top, .int l.rain, .int l.flies, .str l.hand, .str l.wind] 0 = some (.int l.top) := rfl
  have w1 := fun ρ => callK_dat (ρ := ρ) (e_is_within (.int k) 0 (Ls.length - 1))
  have w2 := fun ρ => callK_dat (ρ := ρ) (e_is_within (.int j) 0 (Ls.length - 1))
  have w3 := fun ρ => callK_dat (ρ := ρ) (e_is_within (.int lo) 0 l.top)
  have w4 := fun ρ => callK_dat (ρ := ρ) (e_is_within (.int hi) lo l.top)
  have t1 : wi (.int k) 0 (Ls.length - 1) = true := by simp [wi]; omega
  have t2 : wi (.int j) 0 (Ls.length - 1) = true := by simp [wi]; omega
  simp only [t1, t2, wi, List.map] at w1 w2 w3 w4
  have a0 : ∀ a b c d : D, atI [a, b, c, d] 0 = some a := fun _ _ _ _ => rfl
  have a1 : ∀ a b c d : D, atI [a, b, c, d] 1 = some b := fun _ _ _ _ => rfl
  have a2 : ∀ a b c d : D, atI [a, b, c, d] 2 = some c := fun _ _ _ _ => rfl
  have a3 : ∀ a b c d : D, atI [a, b, c, d] 3 = some d := fun _ _ _ _ => rfl
  have e4 : PyData.eqv (.int 4) (.int 4) = true := rfl
  have ejk : PyData.eqv (.int j) (.int k) = decide ((j : Int) = k) := by
    by_cases h : (j : Int) = k <;> simp [PyData.eqv, h]
  simp only [layD] at ij it
  have k1 : (k : Int) ≤ Ls.length - 1 := by omega
  have j1 : (j : Int) ≤ Ls.length - 1 := by omega
  simp [m_is_bar, b_is_bar, isiT, tyName, rowD4, eqOk, e4, ejk, w1, w2, w3, w4, a0, a1, a2, a3, ij, it, layD, barB, k1, j1]
  split
  · rename_i h; simp [h]
  · rename_i h
    split
    · rename_i h2
      split
      · rename_i h3
        split
        · rename_i h4; simp [h, h2, h3, h4]
        · rename_i h4; simp [h, h2, h3, h4]
      · rename_i h3; simp [h, h2, h3]
    · rename_i h2; simp [h, h2]
def lays (Ls : List Lay) : D := .tuple (Ls.map layD)
def rowsT (Bs : List (List Int)) : D := .tuple (Bs.map rowD)
def paneD (Ls : List Lay) (Bs : List (List Int)) : D := .tuple [lays Ls, rowsT Bs]
inductive GoodBar (Ls : List Lay) : List Int → Prop where
  | mk {k j : Nat} {lo hi : Int} {l : Lay} : k < Ls.length → Ls[j]? = some l → barB l.top k j lo hi = true → GoodBar Ls [(k : Int), (j : Int), lo, hi]
structure GoodPane (Ls : List Lay) (Bs : List (List Int)) : Prop where
  two : 2 ≤ Ls.length
  four : Ls.length ≤ 4
  lay : ∀ l ∈ Ls, GoodLay l
  bar : ∀ b ∈ Bs, GoodBar Ls b
  six : Bs.length ≤ 6
  asc : Bs.Pairwise fun a b => HT.lexLt a b = true
theorem e_is_bar' {Ls : List Lay} {b : List Int} (h : GoodBar Ls b) : Ans m_is_bar [lays Ls, rowD b] (.bool true) := by
  cases h with
  | @mk k j lo hi l h1 h2 h3 =>
    have := e_is_bar lo hi h1 h2
    rw [h3] at this
    exact this
theorem zip_asc : ∀ {Bs : List (List Int)}, Bs.Pairwise (fun a b => HT.lexLt a b = true) → ∀ d ∈ zipD (Bs.map rowD) ((Bs.map rowD).drop 1), ∃ a b, d = .tuple [rowD a, rowD b] ∧ HT.lexLt a b = true
  | [], _, d, h => by simp [zipD] at h
  | [a], _, d, h => by simp [zipD] at h
  | a :: b :: Bs, h, d, hd => by
    have e : zipD ((a :: b :: Bs).map rowD) (((a :: b :: Bs).map rowD).drop 1) = .tuple [rowD a, rowD b] :: zipD ((b :: Bs).map rowD) (((b :: Bs).map rowD).drop 1) := by simp [zipD]
    rw [e] at hd
    rcases List.mem_cons.mp hd with rfl | hd
    · exact ⟨a, b, rfl, (List.pairwise_cons.mp h).1 b (by simp)⟩
    · exact zip_asc (List.pairwise_cons.mp h).2 d hd
theorem gLt_rows (a b : List Int) : gLt (rowD a) (rowD b) = some (.bool (HT.lexLt a b)) := by simp [gLt, rowD, intsOf_map]
theorem e_is_window_value {Ls : List Lay} {Bs : List (List Int)} (G : GoodPane Ls Bs) : Ans m_is_window_value [paneD Ls Bs] (.bool true) := by
  refine ⟨[some (.dat (paneD Ls Bs))], rfl, ?_⟩
  have a0 : ∀ a b : D, atI [a, b] 0 = some a := fun _ _ => rfl
  have e2 : PyData.eqv (.int 2) (.int 2) = true := rfl
  have l2 : (2 : Int) ≤ Ls.length := by have := G.two; omega
  have l4 : (Ls.length : Int) ≤ 4 := by have := G.four; omega
  have b6 : ¬ (6 : Int) < Bs.length := by have := G.six; omega
  have c1 : compE false (iSeq (mV 1)) (gNm 1 3) mYes (callM m_is_layer (mAc (mV 3) mA0)) [3] [some (.dat (paneD Ls Bs)), some (.dat (lays Ls)), some (.dat (rowsT Bs)), none, none] = some (.ok (.dat (.list (List.replicate Ls.length (.bool true)))), [some (.dat (paneD Ls Bs)), some (.dat (lays Ls)), some (.dat (rowsT Bs)), none, none]) := by
    refine compE_true (ow := false) (iSeq_ok (d := lays Ls) (by simp) rfl) (by simp [noOwn]) (fun d hd => ?_) (by simp [big]; have := G.four; omega) (by simp)
    obtain ⟨l, hl, rfl⟩ := List.mem_map.mp hd
    have w := fun ρ => callK_dat (ρ := ρ) (e_is_layer (G.lay l hl))
    simp only [List.map] at w
    exact ⟨⟨_, by simp [gNm, wipeE]; rfl, .dat (.bool true), _, by simp [w]; rfl, rfl, by simp [noOwn], by simp [wipeE]⟩⟩
  have c2 : compE false (iSeq (mV 2)) (gNm 1 3) mYes (callM m_is_bar (mAc (mV 1) (mAc (mV 3) mA0))) [3] [some (.dat (paneD Ls Bs)), some (.dat (lays Ls)), some (.dat (rowsT Bs)), none, none] = some (.ok (.dat (.list (List.replicate Bs.length (.bool true)))), [some (.dat (paneD Ls Bs)), some (.dat (lays Ls)), some (.dat (rowsT Bs)), none, none]) := by
    refine compE_true (ow := false) (iSeq_ok (d := rowsT Bs) (by simp) rfl) (by simp [noOwn]) (fun d hd => ?_) (by simp [big]; have := G.six; omega) (by simp)
    obtain ⟨b, hb, rfl⟩ := List.mem_map.mp hd
    have w := fun ρ => callK_dat (ρ := ρ) (e_is_bar' (G.bar b hb))
    simp only [List.map] at w
    exact ⟨⟨_, by simp [gNm, wipeE]; rfl, .dat (.bool true), _, by simp [w]; rfl, rfl, by simp [noOwn], by simp [wipeE]⟩⟩
  have c3 : compE false (iCB gZip (mAc (mV 2) (mAc (mSl gSl (mV 2) (mPart (mC (.int 1))) mNoPart) mA0))) (gTp 2 (gCs (gNm 1 3) (gCs (gNm 1 4) gNl))) mYes (op2 gLt (mV 3) (mV 4)) [3, 4] [some (.dat (paneD Ls Bs)), some (.dat (lays Ls)), some (.dat (rowsT Bs)), none, none] = some (.ok (.dat (.list (List.replicate (zipD (Bs.map rowD) ((Bs.map rowD).drop 1)).length (.bool true)))), [some (.dat (paneD Ls Bs)), some (.dat (lays Ls)), some (.dat (rowsT Bs)), none, none]) := by
    refine compE_true (ow := false) (iCB_ok (as := [.dat (rowsT Bs), .dat (.tuple ((Bs.map rowD).drop 1))]) (ds := [rowsT Bs, .tuple ((Bs.map rowD).drop 1)]) (by simp [rowsT, cut_01]) rfl rfl) (by simp [noOwn]) (fun d hd => ?_) (by simp [zipD, big]; have := G.six; omega) rfl
    obtain ⟨a, b, rfl, hab⟩ := zip_asc G.asc d hd
    exact ⟨⟨_, by simp [gTp, gCs, gNl, gNm, wipeE]; rfl, .dat (.bool true), _, by simp [gLt_rows, hab]; rfl, rfl, by simp [noOwn], by simp [wipeE]⟩⟩
  simp only [paneD, lays, rowsT] at c1 c2 c3
  simp [m_is_window_value, b_is_window_value, isiT, tyName, eqOk, e2, a0, paneD, lays, rowsT, gTp, gCs, gNl, gNm, c1, c2, c3, l2, l4, b6, gAll_rep]
theorem e_need_window {Ls : List Lay} {Bs : List (List Int)} (G : GoodPane Ls Bs) : Ans m_need_window [paneD Ls Bs] .none := by
  refine ⟨[some (.dat (paneD Ls Bs))], rfl, ?_⟩
  have w := fun ρ => callK_dat (ρ := ρ) (e_is_window_value G)
  simp only [List.map] at w
  simp [m_need_window, b_need_window, w]
end M

namespace M
open PySem PySem.Spec L2 DL
def catD : D → D → D
  | .tuple a, .tuple b => .tuple (a ++ b)
  | _, _ => .none
def topAt (Ls : List Lay) (j : Int) : Int := ((Ls[j.toNat]?).map Lay.top).getD 0
def barD (Ls : List Lay) : D → Bool
  | .tuple [.int k, .int j, .int lo, .int hi] => barB (topAt Ls j) k j lo hi
  | _ => false
def pairs (xs : List D) : List D := xs.flatMap fun a => xs.map fun b => .tuple [a, b]
def allBarsD (Ls : List Lay) : List D := (pairs (rngD 0 Ls.length)).flatMap fun r => ((pairs (rngD 0 3)).filter fun s => barD Ls (catD r s)).map fun s => catD r s
theorem rng_mem {n : Nat} {d : D} (h : d ∈ rngD 0 n) : ∃ i : Nat, i < n ∧ d = .int i := by
  unfold rngD at h
  obtain ⟨i, hi, rfl⟩ := List.mem_map.mp h
  exact ⟨i, List.mem_range.mp hi, by simp⟩
theorem pairs_mem {xs : List D} {d : D} (h : d ∈ pairs xs) : ∃ a ∈ xs, ∃ b ∈ xs, d = .tuple [a, b] := by
  unfold pairs at h
  obtain ⟨a, ha, h⟩ := List.mem_flatMap.mp h
  obtain ⟨b, hb, rfl⟩ := List.mem_map.mp h
  exact ⟨a, ha, b, hb, rfl⟩
theorem pairs_len (xs : List D) : (pairs xs).length = xs.length * xs.length := by
  unfold pairs
  rw [List.length_flatMap]
  simp [List.map_const', List.sum_replicate_nat]
theorem gRng1_nat {n : Nat} (h : n < 1000) : gRng1 [.int n] = some (rngD 0 n) := by
  unfold gRng1
  have h1 : (n : Int) < 2 ^ 62 := by omega
  have h2 : -(2 ^ 62) ≤ (n : Int) := by omega
  show (if (n : Int) < 2 ^ 62 then (if -(2 ^ 62) ≤ (n : Int) then some (rngD 0 (n : Int).toNat) else none) else none) = _
  rw [if_pos h1, if_pos h2, Int.toNat_natCast]
theorem mLR_nat {n : Nat} {f : EM} {ρ : DL.Env} (hn : n < 1000) (h : f ρ = some (.ok (.dat (.int n)), ρ)) : mLR false f ρ = some (.ok (.dat (.list (rngD 0 n))), ρ) := by
  unfold mLR
  rw [bindD_eq, h, thenD_ok]
  unfold gLR
  have h1 : -(2 ^ 62) ≤ (n : Int) ∧ (n : Int) ≤ big := by unfold big; omega
  simp [h1]
theorem filter_tt {α : Type} (xs : List α) : xs.filter (fun _ => true) = xs := List.filter_eq_self.mpr fun _ _ => rfl
theorem e_all_bars {Ls : List Lay} (h4 : Ls.length ≤ 4) : Ans m_all_bars [lays Ls] (.list (allBarsD Ls)) := by
  refine ⟨[some (.dat (lays Ls))], rfl, ?_⟩
  have r1 := fun ρ => mLR_nat (n := Ls.length) (f := mCB gLen (mAc (mV 0) mA0)) (ρ := some (.dat (lays Ls)) :: ρ) (by omega) (by simp [lays])
  have hl : (rngD 0 Ls.length).length ≤ 1000 := by rw [rngD_len]; omega
  have c1 : compE2 false (iSeq (mV 1)) (gNm 1 4) mYes (iSeq (mV 1)) (gNm 1 5) mYes (mCB gTup' (mAc (mV 4) (mAc (mV 5) mA0))) [4, 5] [5] [some (.dat (lays Ls)), some (.dat (.list (rngD 0 Ls.length))), none, none, none, none, none, none, none, none]
      = some (.ok (.dat (.list (pairs (rngD 0 Ls.length)))), [some (.dat (lays Ls)), some (.dat (.list (rngD 0 Ls.length))), none, none, none, none, none, none, none, none]) := by
    refine compE2_eq (ow := false) (fun d => (rngD 0 Ls.length).map fun e => .tuple [d, e]) (iSeq_ok (d := .list (rngD 0 Ls.length)) (by simp) rfl) (by simp [noOwn]) (fun d hd => ?_) hl
    refine ⟨⟨_, by simp [gNm, wipeE]; rfl, _, rfl, rngD 0 Ls.length, _, iSeq_ok (d := .list (rngD 0 Ls.length)) (by simp; rfl) rfl, by simp [noOwn], by simp [noOwn, wipeE], by simp [wipeE], fun _ => true, fun e => .tuple [d, e], by rw [filter_tt], fun e he => ?_, hl⟩⟩
    exact ⟨⟨_, by simp [gNm, wipeE]; rfl, _, rfl, by rw [if_pos rfl]; exact ⟨.dat (.tuple [d, e]), _, by simp [big]; rfl, rfl, by simp [noOwn], by simp [wipeE]⟩⟩⟩
  have c2 : compE2 false (iCB gRng1 (mAc (mC (.int 3)) mA0)) (gNm 1 6) mYes (iCB gRng1 (mAc (mC (.int 3)) mA0)) (gNm 1 7) mYes (mCB gTup' (mAc (mV 6) (mAc (mV 7) mA0))) [6, 7] [7] [some (.dat (lays Ls)), some (.dat (.list (rngD 0 Ls.length))), some (.dat (.list (pairs (rngD 0 Ls.length)))), none, none, none, none, none, none, none]
      = some (.ok (.dat (.list (pairs (rngD 0 3)))), [some (.dat (lays Ls)), some (.dat (.list (rngD 0 Ls.length))), some (.dat (.list (pairs (rngD 0 Ls.length)))), none, none, none, none, none, none, none]) := by
    refine compE2_eq (ow := false) (fun d => (rngD 0 3).map fun e => .tuple [d, e]) (iCB_ok (as := [.dat (.int 3)]) (ds := [.int 3]) (by simp) rfl (gRng1_nat (n := 3) (by omega))) (by simp [noOwn]) (fun d hd => ?_) (by rw [rngD_len]; omega)
    refine ⟨⟨_, by simp [gNm, wipeE]; rfl, _, rfl, rngD 0 3, _, iCB_ok (as := [.dat (.int 3)]) (ds := [.int 3]) (by simp; rfl) rfl (gRng1_nat (n := 3) (by omega)), by simp [noOwn], by simp [noOwn, wipeE], by simp [wipeE], fun _ => true, fun e => .tuple [d, e], by rw [filter_tt], fun e he => ?_, by rw [rngD_len]; omega⟩⟩
    exact ⟨⟨_, by simp [gNm, wipeE]; rfl, _, rfl, by rw [if_pos rfl]; exact ⟨.dat (.tuple [d, e]), _, by simp [big]; rfl, rfl, by simp [noOwn], by simp [wipeE]⟩⟩⟩
  have c3 : compE2 false (iSeq (mV 2)) (gNm 1 8) mYes (iSeq (mV 3)) (gNm 1 9) (callM m_is_bar (mAc (mV 0) (mAc (op2 gAdd (mV 8) (mV 9)) mA0))) (op2 gAdd (mV 8) (mV 9)) [8, 9] [9] [some (.dat (lays Ls)), some (.dat (.list (rngD 0 Ls.length))), some (.dat (.list (pairs (rngD 0 Ls.length)))), some (.dat (.list (pairs (rngD 0 3)))), none, none, none, none, none, none]
      = some (.ok (.dat (.list (allBarsD Ls))), [some (.dat (lays Ls)), some (.dat (.list (rngD 0 Ls.length))), some (.dat (.list (pairs (rngD 0 Ls.length)))), some (.dat (.list (pairs (rngD 0 3)))), none, none, none, none, none, none]) := by
    refine compE2_eq (ow := false) (fun r => ((pairs (rngD 0 3)).filter fun s => barD Ls (catD r s)).map fun s => catD r s) (iSeq_ok (d := .list (pairs (rngD 0 Ls.length))) (by simp) rfl) (by simp [noOwn]) (fun r hr => ?_) (by rw [pairs_len, rngD_len]; have := Nat.mul_le_mul h4 h4; omega)
    obtain ⟨a, ha, b, hb, rfl⟩ := pairs_mem hr
    obtain ⟨k, hk, rfl⟩ := rng_mem ha
    obtain ⟨j, hj, rfl⟩ := rng_mem hb
    have hjl : Ls[j]? = some Ls[j] := List.getElem?_eq_getElem hj
    refine ⟨⟨_, by simp [gNm, wipeE]; rfl, _, rfl, pairs (rngD 0 3), _, iSeq_ok (d := .list (pairs (rngD 0 3))) (by simp; rfl) rfl, by simp [noOwn], by simp [noOwn, wipeE], by simp [wipeE], fun s => barD Ls (catD (.tuple [.int k, .int j]) s), fun s => catD (.tuple [.int k, .int j]) s, rfl, fun s hs => ?_, by rw [pairs_len, rngD_len]; omega⟩⟩
    obtain ⟨c, hc, d, hd, rfl⟩ := pairs_mem hs
    obtain ⟨lo, _, rfl⟩ := rng_mem hc
    obtain ⟨hi, _, rfl⟩ := rng_mem hd
    have w := fun ρ => callK_dat (ρ := ρ) (e_is_bar (Ls := Ls) (k := k) (lo : Int) (hi : Int) hk hjl)
    have tp : topAt Ls j = Ls[j].top := by simp [topAt, hjl]
    have bb : barD Ls (catD (.tuple [.int k, .int j]) (.tuple [.int lo, .int hi])) = barB Ls[j].top k j lo hi := by simp [catD, barD, tp]
    simp only [List.map, rowD4] at w
    refine (show TurnC _ _ _ _ _ _ (barD Ls (catD (.tuple [.int k, .int j]) (.tuple [.int lo, .int hi]))) (catD (.tuple [.int k, .int j]) (.tuple [.int lo, .int hi])) from ?_)
    rw [bb]
    refine ⟨⟨_, by simp [gNm, wipeE]; rfl, _, by simp [big, lays, w]; rfl, ?_⟩⟩
    split
    · exact ⟨.dat (.tuple [.int k, .int j, .int lo, .int hi]), _, by simp [big]; rfl, rfl, by simp [noOwn], by simp [wipeE, lays]⟩
    · exact ⟨by simp [noOwn], by simp [wipeE, lays]⟩
  simp [m_all_bars, b_all_bars, r1, c1, c2, c3]
end M

namespace M
open PySem PySem.Spec L2 DL
/-! ### _law_same of equal data -/
def sameOk : Nat → D → Bool
  | 0, _ => false
  | _ + 1, .bool _ => true
  | _ + 1, .int _ => true
  | _ + 1, .str _ => true
  | n + 1, .list xs => decide (xs.length ≤ big) && xs.all (sameOk n)
  | n + 1, .tuple xs => decide (xs.length ≤ big) && xs.all (sameOk n)
  | _, _ => false
def kindOf : D → Int
  | .bool _ => 1
  | .int _ => 2
  | .str _ => 3
  | .list _ => 4
  | .tuple _ => 5
  | _ => 6
theorem e_sort (d : D) : Ans m__law_sort [d] (.int (kindOf d)) := by
  refine ⟨[some (.dat d)], rfl, ?_⟩
  cases d <;> simp [m__law_sort, b__law_sort, isiT, tyName, kindOf]
theorem eq_nil : gEq (.list []) (.list []) = some (.bool true) := by
  have e : PyData.eqv (.list []) (.list []) = true := by simp [PyData.eqv, PyData.eqvAll]
  have e2 : eqOk (.list []) (.list []) = true := by simp [eqOk, SeqAt.shaped, PyData.canLay0, PyData.canLayAll0, PyData.depth, PyData.depthAll]
  simp [gEq, e, e2]
theorem e_same : ∀ (n : Nat) (d : D), sameOk n d = true → Ans (m__law_same n) [d, d] (.bool true)
  | 0, _, h => by simp [sameOk] at h
  | n + 1, d, h => by
    refine ⟨[some (.dat d), some (.dat d)], rfl, ?_⟩
    have w := fun ρ => callK_dat (ρ := ρ) (e_sort d)
    simp only [List.map] at w
    have e1 : ∀ i : Int, PyData.eqv (.int i) (.int i) = true := fun i => by simp [PyData.eqv]
    have seq : ∀ (xs : List D), seqOf d = some xs → xs.length ≤ big → (∀ x ∈ xs, sameOk n x = true) → gEnum2 [d] = some (enumD xs) → (∀ (i : Nat) x, xs[i]? = some x → gIx d (.int i) = some x) →
        compE false (iCB gEnum2 (mAc (mV 0) mA0)) (gTp 2 (gCs (gNm 2 2) (gCs (gNm 2 3) gNl))) (mNot (callM (m__law_same n) (mAc (mV 3) (mAc (op2 gIx (mV 1) (mV 2)) mA0)))) (mV 2) [2, 3] [some (.dat d), some (.dat d), none, none]
          = some (.ok (.dat (.list [])), [some (.dat d), some (.dat d), none, none]) := by
      intro xs hs hl hx he hix
      have hf : (enumD xs).filter (fun _ => false) = [] := by simp
      have := compE_eq (ow := false) (fi := iCB gEnum2 (mAc (mV 0) mA0)) (T := gTp 2 (gCs (gNm 2 2) (gCs (gNm 2 3) gNl))) (ft := mNot (callM (m__law_same n) (mAc (mV 3) (mAc (op2 gIx (mV 1) (mV 2)) mA0)))) (fe := mV 2) (vs := [2, 3]) (ρ := [some (.dat d), some (.dat d), none, none]) (ρ1 := [some (.dat d), some (.dat d), none, none]) (ds := enumD xs)
        (fun _ => false) (fun _ => .none) (iCB_ok (as := [.dat d]) (ds := [d]) (by simp) rfl he) (by simp [noOwn]) (fun e hm => ?_) (by rw [enumD, zipD_len, rngD_len, Nat.min_self]; exact hl)
      · rw [hf] at this
        simpa using this
      · obtain ⟨i, x, rfl, hi⟩ := enumD_mem hm
        have w2 := fun ρ => callK_dat (ρ := ρ) (e_same n x (hx x (List.mem_of_getElem? hi)))
        simp only [List.map] at w2
        have hix' := hix i x hi
        refine ⟨⟨_, by simp [gTp, gCs, gNl, gNm, wipeE]; rfl, ?_⟩⟩
        refine ⟨_, by simp [hix', w2]; rfl, ?_⟩
        simp [noOwn, wipeE]
    cases d with
    | bool b =>
      have e2 : PyData.eqv (.bool b) (.bool b) = true := by simp [PyData.eqv]
      simp [m__law_same, b__law_same, w, kindOf, eqOk, e1, e2, SeqAt.shaped]
    | int b => simp [m__law_same, b__law_same, w, kindOf, eqOk, e1]
    | str b =>
      have e2 : PyData.eqv (.str b) (.str b) = true := by simp [PyData.eqv]
      simp [m__law_same, b__law_same, w, kindOf, eqOk, e1, e2]
    | list xs =>
      simp only [sameOk, Bool.and_eq_true, decide_eq_true_eq, List.all_eq_true] at h
      have c := seq xs rfl h.1 h.2 rfl fun i x hi => atI_nat hi
      have eqN : PyData.eqv (.list []) (.list []) = true := by simp [PyData.eqv, PyData.eqvAll]
      have shN : SeqAt.shaped (.list []) = true := by simp [SeqAt.shaped, PyData.canLay0, PyData.canLayAll0, PyData.depth, PyData.depthAll]
      simp [m__law_same, b__law_same, w, kindOf, eqOk, e1, c, eqN, shN]
    | tuple xs =>
      simp only [sameOk, Bool.and_eq_true, decide_eq_true_eq, List.all_eq_true] at h
      have c := seq xs rfl h.1 h.2 rfl fun i x hi => atI_nat hi
      have eqN : PyData.eqv (.list []) (.list []) = true := by simp [PyData.eqv, PyData.eqvAll]
      have shN : SeqAt.shaped (.list []) = true := by simp [SeqAt.shaped, PyData.canLay0, PyData.canLayAll0, PyData.depth, PyData.depthAll]
      simp [m__law_same, b__law_same, w, kindOf, eqOk, e1, c, eqN, shN]
    | none => simp [sameOk] at h
    | dict _ => simp [sameOk] at h
/-! ### bars_changed -/
def idx : D → Nat
  | .int i => i.toNat
  | _ => 0
def delsD (L : D) (bs : List D) : List D := (rngD 0 bs.length).map fun d => .tuple [L, .tuple (bs.take (idx d) ++ bs.drop (idx d + 1))]
def addD (L : D) (bs : List D) (b : D) : D := .tuple [L, .tuple (sortD (bs ++ [b]))]
def addsD (L : D) (bs every : List D) : List D := (every.filter fun b => !memD b bs).map (addD L bs)
def changed (L : D) (bs every : List D) : List D := delsD L bs ++ if bs.length < 6 then addsD L bs every else []
theorem barD_row {Ls : List Lay} {d : D} (h : barD Ls d = true) : ∃ r : List Int, d = rowD r ∧ r ≠ [] := by
  unfold barD at h
  split at h
  · exact ⟨[_, _, _, _], rfl, by simp⟩
  · cases h
theorem allBars_bar {Ls : List Lay} {d : D} (h : d ∈ allBarsD Ls) : barD Ls d = true := by
  unfold allBarsD at h
  obtain ⟨r, _, h⟩ := List.mem_flatMap.mp h
  obtain ⟨s, hs, rfl⟩ := List.mem_map.mp h
  exact (List.mem_filter.mp hs).2
theorem allBars_len (Ls : List Lay) (h4 : Ls.length ≤ 4) : (allBarsD Ls).length ≤ 144 := by
  unfold allBarsD
  have key : ∀ (xs : List D) (f : D → List D), (∀ x ∈ xs, (f x).length ≤ 9) → (xs.flatMap f).length ≤ 9 * xs.length := by
    intro xs f
    induction xs with
    | nil => simp
    | cons x xs ih =>
      intro h
      have h1 := h x (by simp)
      have h2 := ih fun y hy => h y (by simp [hy])
      simp only [List.flatMap_cons, List.length_append, List.length_cons]
      omega
  have := key (pairs (rngD 0 Ls.length)) (fun r => ((pairs (rngD 0 3)).filter fun s => barD Ls (catD r s)).map fun s => catD r s) fun x _ => by
    rw [List.length_map]
    have h1 := List.length_filter_le (fun s => barD Ls (catD x s)) (pairs (rngD 0 3))
    rw [pairs_len, rngD_len] at h1
    exact h1
  rw [pairs_len, rngD_len] at this
  have h := Nat.mul_le_mul h4 h4
  omega
def rowy (x : D) : Prop := ∃ r : List Int, x = rowD r
def chy (Ls : List Lay) (d : D) : Prop := ∃ rs : List D, d = .tuple [lays Ls, .tuple rs] ∧ rs.length ≤ 7 ∧ ∀ x ∈ rs, rowy x
theorem lays_alike (Ls : List Lay) : PySem.W.alike (lays Ls) (lays Ls) = true := by
  unfold lays
  simp only [PySem.W.alike]
  refine alikeAll_of fun x hx y hy => ?_
  obtain ⟨l, _, rfl⟩ := List.mem_map.mp hx
  obtain ⟨m, _, rfl⟩ := List.mem_map.mp hy
  simp [layD, PySem.W.alike, PySem.W.alikeAll]
theorem lays_depth (Ls : List Lay) : (lays Ls).depth ≤ 3 := depth_tup (n := 2) fun x hx => by
  obtain ⟨l, _, rfl⟩ := List.mem_map.mp hx
  simp [layD, PyData.depth, PyData.depthAll]
theorem chy_alike {Ls : List Lay} {d e : D} (h : chy Ls d) (h' : chy Ls e) : PySem.W.alike d e = true := by
  obtain ⟨rs, rfl, _, h1⟩ := h
  obtain ⟨qs, rfl, _, h2⟩ := h'
  have : PySem.W.alikeAll rs qs = true := alikeAll_of fun x hx y hy => by
    obtain ⟨r, rfl⟩ := h1 x hx
    obtain ⟨q, rfl⟩ := h2 y hy
    exact rowD_alike r q
  simp [PySem.W.alike, PySem.W.alikeAll, lays_alike, this]
theorem chy_depth {Ls : List Lay} {d : D} (h : chy Ls d) : d.depth ≤ 5 := by
  obtain ⟨rs, rfl, _, h1⟩ := h
  refine depth_tup (n := 4) fun x hx => ?_
  have h2 : (PyData.tuple rs).depth ≤ 3 := depth_tup (n := 2) fun y hy => by
    obtain ⟨r, rfl⟩ := h1 y hy
    exact rowD_depth r
  have h3 := lays_depth Ls
  simp only [List.mem_cons, List.not_mem_nil, or_false] at hx
  rcases hx with rfl | rfl <;> omega
theorem chy_sortable {Ls : List Lay} {ds : List D} (h : ∀ d ∈ ds, chy Ls d) (hl : ds.length ≤ big) : sortable ds = true :=
  sortable_of (fun x hx y hy => chy_alike (h x hx) (h y hy)) (.inl fun x hx => by obtain ⟨rs, rfl, _⟩ := h x hx; rfl) (fun x hx => Nat.le_trans (chy_depth (h x hx)) (by omega)) hl
theorem changed_chy {Ls : List Lay} {Bs : List (List Int)} {every : List D} (h6 : Bs.length ≤ 6) (he : ∀ d ∈ every, rowy d) {d : D} (h : d ∈ changed (lays Ls) (Bs.map rowD) every) : chy Ls d := by
  unfold changed at h
  rcases List.mem_append.mp h with h | h
  · unfold delsD at h
    obtain ⟨i, _, rfl⟩ := List.mem_map.mp h
    refine ⟨_, rfl, by simp; omega, fun x hx => ?_⟩
    have : x ∈ Bs.map rowD := by
      rcases List.mem_append.mp hx with hx | hx
      · exact List.mem_of_mem_take hx
      · exact List.mem_of_mem_drop hx
    obtain ⟨r, _, rfl⟩ := List.mem_map.mp this
    exact ⟨r, rfl⟩
  · split at h
    · unfold addsD addD at h
      obtain ⟨b, hb, rfl⟩ := List.mem_map.mp h
      have hb' := (List.mem_filter.mp hb).1
      refine ⟨_, rfl, by rw [(sortD_perm _).length_eq]; simp; omega, fun x hx => ?_⟩
      have := (sortD_perm _).mem_iff.mp hx
      rcases List.mem_append.mp this with hx | hx
      · obtain ⟨r, _, rfl⟩ := List.mem_map.mp hx
        exact ⟨r, rfl⟩
      · simp at hx
        subst hx
        exact he _ hb'
    · simp at h
theorem changed_len {Ls : List Lay} {Bs : List (List Int)} {every : List D} (h6 : Bs.length ≤ 6) (he : every.length ≤ 1000) : (changed (lays Ls) (Bs.map rowD) every).length ≤ 1006 := by
  unfold changed
  rw [List.length_append]
  have h1 : (delsD (lays Ls) (Bs.map rowD)).length ≤ 6 := by simp [delsD, rngD_len]; exact h6
  have h2 : (if (Bs.map rowD).length < 6 then addsD (lays Ls) (Bs.map rowD) every else []).length ≤ 1000 := by
    split
    · unfold addsD
      rw [List.length_map]
      exact Nat.le_trans (List.length_filter_le _ _) he
    · simp
  omega
theorem changed_sortable {Ls : List Lay} {Bs : List (List Int)} {every : List D} (h6 : Bs.length ≤ 6) (he : ∀ d ∈ every, rowy d) (hl : every.length ≤ 1000) : sortable (changed (lays Ls) (Bs.map rowD) every) = true :=
  chy_sortable (fun d h => changed_chy h6 he h) (by have := changed_len (Ls := Ls) h6 hl; unfold big; omega)
theorem all_rowy {Ls : List Lay} {d : D} (h : d ∈ allBarsD Ls) : rowy d := by
  obtain ⟨r, h, _⟩ := barD_row (allBars_bar h)
  exact ⟨r, h⟩
theorem add_sorted {bs : List (List Int)} {r : List Int} (hb : ∀ b ∈ bs, b ≠ []) (hr : r ≠ []) (hl : bs.length ≤ 6) : sortable (bs.map rowD ++ [rowD r]) = true := by
  have : bs.map rowD ++ [rowD r] = (bs ++ [r]).map rowD := by simp
  rw [this]
  refine rows_sortable (fun q hq => ?_) (by unfold big; simp; omega)
  rcases List.mem_append.mp hq with hq | hq
  · exact hb q hq
  · simp at hq; subst hq; exact hr
/-- the part of the bars taken out -/
theorem cut_at {bs : List D} {i : Nat} : cutD bs none (some (i : Int)) = bs.take i ∧ cutD bs (some ((i : Int) + 1)) none = bs.drop (i + 1) := ⟨cut_to, by have := cut_from (xs := bs) (n := i + 1); simpa using this⟩
theorem gIn_any {neg : Bool} {b : D} {bs : List D} (h : inOk b bs = true) : gIn neg b (.tuple bs) = some (.bool (if neg = true then !memD b bs else memD b bs)) := by
  unfold gIn
  simp [seqOf, h]
section
variable {L : D} {bs every : List D}
abbrev pn (L : D) (bs : List D) : D := .tuple [L, .tuple bs]
theorem e_bars_changed (ha : Ans m_all_bars [L] (.list every)) (h6 : bs.length ≤ 6) (hin : ∀ b ∈ every, inOk b bs = true) (hso : ∀ b ∈ every, sortable (bs ++ [b]) = true) (hs : sortable (changed L bs every) = true) (hl : every.length ≤ 1000) :
    Ans m_bars_changed [pn L bs] (.list (sortD (changed L bs every))) := by
  have c1 : compE true (iCB gRng1 (mAc (mCB gLen (mAc (mV 2) mA0)) mA0)) (gNm 1 4) mYes (mCB gTup' (mAc (mV 1) (mAc (op2 gAdd (mSl gSl (mV 2) mNoPart (mPart (mV 4))) (mSl gSl (mV 2) (mPart (op2 gAdd (mV 4) (mC (.int 1)))) mNoPart)) mA0))) [4]
      [some (.dat (pn L bs)), some (.dat L), some (.dat (.tuple bs)), none, none, none] = some (.ok (.own (delsD L bs)), [some (.dat (pn L bs)), some (.dat L), some (.dat (.tuple bs)), none, none, none]) := by
    have hr : gRng1 [.int bs.length] = some (rngD 0 bs.length) := gRng1_nat (by omega)
    refine compE_map (ow := true) (fun d => .tuple [L, .tuple (bs.take (idx d) ++ bs.drop (idx d + 1))]) (iCB_ok (as := [.dat (.int bs.length)]) (ds := [.int bs.length]) (by simp) rfl hr) (by simp [noOwn]) (fun d hd => ?_) (by rw [rngD_len]; unfold big; omega)
    obtain ⟨i, hi, rfl⟩ := rng_mem hd
    obtain ⟨k1, k2⟩ := cut_at (bs := bs) (i := i)
    have hbig : (bs.take i).length + (bs.drop (i + 1)).length ≤ big := by unfold big; simp; omega
    refine ⟨⟨_, by simp [gNm, wipeE]; rfl, .dat (.tuple [L, .tuple (bs.take i ++ bs.drop (i + 1))]), [some (.dat (pn L bs)), some (.dat L), some (.dat (.tuple bs)), none, some (.dat (.int i)), none], ?_, rfl, by simp [noOwn], by simp [wipeE]⟩⟩
    simp [-List.length_take, -List.length_drop, k1, k2, hbig, show 2 ≤ big by unfold big; omega]
  have wa := fun ρ => callK_dat (ρ := ρ) ha
  simp only [List.map] at wa
  have c2 : compE true (iSeq (callM m_all_bars (mAc (mV 1) mA0))) (gNm 1 5) (op2 (gIn true) (mV 5) (mV 2)) (mCB gTup' (mAc (mV 1) (mAc (mCB gTuple (mAc (mCB gSorted (mAc (op2 gAdd (mV 2) (mCB gTup' (mAc (mV 5) mA0))) mA0)) mA0)) mA0))) [5]
      [some (.dat (pn L bs)), some (.dat L), some (.dat (.tuple bs)), some (.own (delsD L bs)), none, none] = some (.ok (.own (addsD L bs every)), [some (.dat (pn L bs)), some (.dat L), some (.dat (.tuple bs)), some (.own (delsD L bs)), none, none]) := by
    refine compE_eq (ow := true) (fun b => !memD b bs) (addD L bs) (iSeq_ok (d := .list every) (by simp [wa]) rfl) (by simp [noOwn]) (fun d hd => ?_) (by unfold big; omega)
    have g1 := gIn_any (neg := true) (hin d hd)
    have g2 := gSorted_t (hso d hd)
    have hbig : bs.length + 1 ≤ big := by unfold big; omega
    refine ⟨⟨_, by simp [gNm, wipeE]; rfl, _, by simp [g1]; rfl, ?_⟩⟩
    split
    · exact ⟨.dat (addD L bs d), [some (.dat (pn L bs)), some (.dat L), some (.dat (.tuple bs)), some (.own (delsD L bs)), none, some (.dat d)], by simp [g2, gTuple_l, hbig, addD, show 2 ≤ big by unfold big; omega, show 1 ≤ big by unfold big; omega], rfl, by simp [noOwn], by simp [wipeE]⟩
    · exact ⟨by simp [noOwn], by simp [wipeE]⟩
  have hd6 : (delsD L bs).length ≤ 6 := by simp [delsD, rngD_len]; exact h6
  have ha6 : (addsD L bs every).length ≤ 1000 := by unfold addsD; rw [List.length_map]; exact Nat.le_trans (List.length_filter_le _ _) hl
  have hbig : (delsD L bs).length + (addsD L bs every).length ≤ big := by unfold big; omega
  have gs := gSorted_l hs
  have hA : asgT (gTp 2 (gCs (gNm 1 1) (gCs (gNm 1 2) gNl))) (mV 0) [some (.dat (pn L bs)), none, none, none, none, none] = some (.nx [some (.dat (pn L bs)), some (.dat L), some (.dat (.tuple bs)), none, none, none]) := by
    simp [gTp, gCs, gNl, gNm]
  have fin : ∀ xs : List D, sortable xs = true → frzS 1 3 (retS' (mCB gSorted (mAc (mV 3) mA0))) [some (.dat (pn L bs)), some (.dat L), some (.dat (.tuple bs)), some (.own xs), none, none] = some (.rt (.dat (.list (sortD xs))) [some (.dat (pn L bs)), some (.dat L), some (.dat (.tuple bs)), some (.dat (.list xs)), none, none]) := by
    intro xs hx
    have g := gSorted_l hx
    rw [frzS_ok (np := 1) (i := 3) (by omega) rfl]
    simp [g]
  have hC : ifS (op2 gLt (mCB gLen (mAc (mV 2) mA0)) (mC (.int 6))) (iaddO 3 (compE true (iSeq (callM m_all_bars (mAc (mV 1) mA0))) (gNm 1 5) (op2 (gIn true) (mV 5) (mV 2)) (mCB gTup' (mAc (mV 1) (mAc (mCB gTuple (mAc (mCB gSorted (mAc (op2 gAdd (mV 2) (mCB gTup' (mAc (mV 5) mA0))) mA0)) mA0)) mA0))) [5])) nextS
      [some (.dat (pn L bs)), some (.dat L), some (.dat (.tuple bs)), some (.own (delsD L bs)), none, none] = some (.nx [some (.dat (pn L bs)), some (.dat L), some (.dat (.tuple bs)), some (.own (changed L bs every)), none, none]) := by
    unfold changed
    by_cases h : bs.length < 6
    · have h' : (bs.length : Int) < 6 := by omega
      have c3 := iaddO_ok (i := 3) rfl c2 rfl hbig
      simp only [List.set] at c3
      simp [h', h, c3]
    · have h' : ¬ (bs.length : Int) < 6 := by omega
      simp [h', h]
  have hB : asgN 1 3 (compE true (iCB gRng1 (mAc (mCB gLen (mAc (mV 2) mA0)) mA0)) (gNm 1 4) mYes (mCB gTup' (mAc (mV 1) (mAc (op2 gAdd (mSl gSl (mV 2) mNoPart (mPart (mV 4))) (mSl gSl (mV 2) (mPart (op2 gAdd (mV 4) (mC (.int 1)))) mNoPart)) mA0))) [4])
      [some (.dat (pn L bs)), some (.dat L), some (.dat (.tuple bs)), none, none, none] = some (.nx [some (.dat (pn L bs)), some (.dat L), some (.dat (.tuple bs)), some (.own (delsD L bs)), none, none]) := by
    simp only [asgN_eq, c1, thenS_ok]
    rfl
  have hb : b_bars_changed [some (.dat (pn L bs)), none, none, none, none, none] = some (.rt (.dat (.list (sortD (changed L bs every)))) [some (.dat (pn L bs)), some (.dat L), some (.dat (.tuple bs)), some (.dat (.list (changed L bs every))), none, none]) := by
    exact seq_nx hA (seq_nx hB (seq_nx hC (fin _ hs)))
  exact Ans_run rfl hb (by simp)
end
end M

namespace M
open PySem PySem.Spec L2 DL
/-! ### _law_every_bar -/
def nat : D → Nat
  | .int i => i.toNat
  | _ => 0
def condB (k j t low high : Nat) : Bool := !decide ((k : Int) = j) && (decide (0 < (low : Int)) || decide ((high : Int) < t))
def row4 (k j low high : Nat) : D := .tuple [.int k, .int j, .int low, .int high]
def G4 (k j t low : Nat) : List D := ((rngD low (t + 1 - low)).filter fun h => condB k j t low (nat h)).map fun h => row4 k j low (nat h)
def G3 (k j t : Nat) : List D := (rngD 0 (t + 1)).flatMap fun l => G4 k j t (nat l)
def topN (Ls : List Lay) (j : Nat) : Nat := (topAt Ls j).toNat
def everyD (Ls : List Lay) : List D := (rngD 0 Ls.length).flatMap fun k => (rngD 0 Ls.length).flatMap fun j => G3 (nat k) (nat j) (topN Ls (nat j))
theorem G4_len {k j t low : Nat} (ht : t ≤ 2) : (G4 k j t low).length ≤ 3 := by
  unfold G4
  rw [List.length_map]
  refine Nat.le_trans (List.length_filter_le _ _) ?_
  rw [rngD_len]; omega
theorem G3_len {k j t : Nat} (ht : t ≤ 2) : (G3 k j t).length ≤ 9 := by
  unfold G3
  have := flatMap_le (f := fun l => G4 k j t (nat l)) (c := 3) (xs := rngD 0 (t + 1)) fun x _ => G4_len ht
  rw [rngD_len] at this
  omega
section
variable {L : D} {k j t low : Nat}
theorem loop4 (ht : t ≤ 2) (hlow : low ≤ 2) (xs : List D) (hx : xs.length ≤ 900) (h : Option S) :
    ∃ h', forS (iCB gRng2 (mAc (mV 5) (mAc (op2 gAdd (mV 4) (mC (.int 1))) mA0))) (gNm 1 6) (ifS (mAnd (op2 gNe (mV 2) (mV 3)) (mOr (op2 gGt (mV 5) (mC (.int 0))) (op2 gLt (mV 6) (mV 4)))) (appO 1 (mCB gTup' (mAc (mV 2) (mAc (mV 3) (mAc (mV 5) (mAc (mV 6) mA0)))))) nextS)
      [some (.dat L), some (.own xs), some (.dat (.int k)), some (.dat (.int j)), some (.dat (.int t)), some (.dat (.int low)), h] = some (.nx [some (.dat L), some (.own (xs ++ G4 k j t low)), some (.dat (.int k)), some (.dat (.int j)), some (.dat (.int t)), some (.dat (.int low)), h']) := by
  have hr : gRng2 [.int low, .int ((t : Int) + 1)] = some (rngD low (t + 1 - low)) := by
    have := gRng2_nat (a := low) (b := t + 1) (by omega) (by omega)
    simpa using this
  refine Exists.elim (forS_inv2 (fi := iCB gRng2 (mAc (mV 5) (mAc (op2 gAdd (mV 4) (mC (.int 1))) mA0))) (T := gNm 1 6) (fb := ifS (mAnd (op2 gNe (mV 2) (mV 3)) (mOr (op2 gGt (mV 5) (mC (.int 0))) (op2 gLt (mV 6) (mV 4)))) (appO 1 (mCB gTup' (mAc (mV 2) (mAc (mV 3) (mAc (mV 5) (mAc (mV 6) mA0)))))) nextS)
    (ρ := [some (.dat L), some (.own xs), some (.dat (.int k)), some (.dat (.int j)), some (.dat (.int t)), some (.dat (.int low)), h])
    (fun pre ρ => ∃ h', ρ = [some (.dat L), some (.own (xs ++ (pre.filter fun h => condB k j t low (nat h)).map fun h => row4 k j low (nat h))), some (.dat (.int k)), some (.dat (.int j)), some (.dat (.int t)), some (.dat (.int low)), h'])
    (iCB_ok (as := [.dat (.int low), .dat (.int ((t : Int) + 1))]) (ds := [.int low, .int ((t : Int) + 1)]) (by simp; rfl) rfl hr) ⟨h, by simp⟩ (fun p d q ρ e hI => ?_)) fun ρ' hh => ?_
  · obtain ⟨h', rfl⟩ := hI
    have hd : d ∈ rngD low (t + 1 - low) := by rw [e]; simp
    obtain ⟨i, h1, h2, rfl⟩ := rngD_mem hd
    have hp : p.length ≤ 3 := by
      have := congrArg List.length e
      rw [rngD_len] at this
      simp at this
      omega
    have hl : (xs ++ (p.filter fun h => condB k j t low (nat h)).map fun h => row4 k j low (nat h)).length < big := by
      have := List.length_filter_le (fun h => condB k j t low (nat h)) p
      unfold big
      simp
      omega
    refine ⟨[some (.dat L), some (.own (xs ++ (p.filter fun h => condB k j t low (nat h)).map fun h => row4 k j low (nat h))), some (.dat (.int k)), some (.dat (.int j)), some (.dat (.int t)), some (.dat (.int low)), some (.dat (.int i))], by simp [gNm], ?_⟩
    have ekj : PyData.eqv (.int k) (.int j) = decide ((k : Int) = j) := by
      by_cases q : (k : Int) = j <;> simp [PyData.eqv, q]
    have ha := appO_ok (i := 1) (f := mCB gTup' (mAc (mV 2) (mAc (mV 3) (mAc (mV 5) (mAc (mV 6) mA0))))) (ρ := [some (.dat L), some (.own (xs ++ (p.filter fun h => condB k j t low (nat h)).map fun h => row4 k j low (nat h))), some (.dat (.int k)), some (.dat (.int j)), some (.dat (.int t)), some (.dat (.int low)), some (.dat (.int i))]) (ρ1 := [some (.dat L), some (.own (xs ++ (p.filter fun h => condB k j t low (nat h)).map fun h => row4 k j low (nat h))), some (.dat (.int k)), some (.dat (.int j)), some (.dat (.int t)), some (.dat (.int low)), some (.dat (.int i))]) (s := .dat (row4 k j low i)) rfl (by simp [row4]) rfl rfl hl
    simp only [List.set] at ha
    have hc : condB k j t low (nat (.int i)) = (!decide ((k : Int) = j) && (decide (0 < (low : Int)) || decide ((i : Int) < t))) := rfl
    have hn : nat (.int (i : Int)) = i := rfl
    have htest : mAnd (op2 gNe (mV 2) (mV 3)) (mOr (op2 gGt (mV 5) (mC (.int 0))) (op2 gLt (mV 6) (mV 4))) [some (.dat L), some (.own (xs ++ (p.filter fun h => condB k j t low (nat h)).map fun h => row4 k j low (nat h))), some (.dat (.int k)), some (.dat (.int j)), some (.dat (.int t)), some (.dat (.int low)), some (.dat (.int i))]
        = some (.ok (.dat (.bool (condB k j t low (nat (.int i))))), [some (.dat L), some (.own (xs ++ (p.filter fun h => condB k j t low (nat h)).map fun h => row4 k j low (nat h))), some (.dat (.int k)), some (.dat (.int j)), some (.dat (.int t)), some (.dat (.int low)), some (.dat (.int i))]) := by
      rw [hc]
      simp [eqOk, ekj]
      by_cases q1 : (k : Int) = j <;> by_cases q2 : 0 < low <;> simp [q1, q2]
    cases hcc : condB k j t low (nat (.int i)) with
    | true =>
      rw [hcc] at htest
      refine ⟨_, .inl (by rw [ifS_eq, htest, thenS_ok, boolS_b, if_pos rfl, ha]), some (.dat (.int i)), ?_⟩
      rw [hn] at hcc
      simp [List.filter_append, List.filter_cons, hn, hcc]
    | false =>
      rw [hcc] at htest
      refine ⟨_, .inl (by rw [ifS_eq, htest, thenS_ok, boolS_b, if_neg (by simp), nextS_eq]), some (.dat (.int i)), ?_⟩
      rw [hn] at hcc
      simp [List.filter_append, List.filter_cons, hn, hcc]
  · obtain ⟨h1, h', rfl⟩ := hh
    exact ⟨h', h1⟩
theorem loop3 (ht : t ≤ 2) (xs : List D) (hx : xs.length ≤ 800) (l h : Option S) :
    ∃ l' h', forS (iCB gRng1 (mAc (op2 gAdd (mV 4) (mC (.int 1))) mA0)) (gNm 1 5) (forS (iCB gRng2 (mAc (mV 5) (mAc (op2 gAdd (mV 4) (mC (.int 1))) mA0))) (gNm 1 6) (ifS (mAnd (op2 gNe (mV 2) (mV 3)) (mOr (op2 gGt (mV 5) (mC (.int 0))) (op2 gLt (mV 6) (mV 4)))) (appO 1 (mCB gTup' (mAc (mV 2) (mAc (mV 3) (mAc (mV 5) (mAc (mV 6) mA0)))))) nextS))
      [some (.dat L), some (.own xs), some (.dat (.int k)), some (.dat (.int j)), some (.dat (.int t)), l, h] = some (.nx [some (.dat L), some (.own (xs ++ G3 k j t)), some (.dat (.int k)), some (.dat (.int j)), some (.dat (.int t)), l', h']) := by
  have hr : gRng1 [.int ((t : Int) + 1)] = some (rngD 0 (t + 1)) := by
    have := gRng1_nat (n := t + 1) (by omega)
    simpa using this
  refine Exists.elim (forS_inv2 (fi := iCB gRng1 (mAc (op2 gAdd (mV 4) (mC (.int 1))) mA0)) (T := gNm 1 5) (fb := forS (iCB gRng2 (mAc (mV 5) (mAc (op2 gAdd (mV 4) (mC (.int 1))) mA0))) (gNm 1 6) (ifS (mAnd (op2 gNe (mV 2) (mV 3)) (mOr (op2 gGt (mV 5) (mC (.int 0))) (op2 gLt (mV 6) (mV 4)))) (appO 1 (mCB gTup' (mAc (mV 2) (mAc (mV 3) (mAc (mV 5) (mAc (mV 6) mA0)))))) nextS))
    (ρ := [some (.dat L), some (.own xs), some (.dat (.int k)), some (.dat (.int j)), some (.dat (.int t)), l, h])
    (fun pre ρ => ∃ l' h', ρ = [some (.dat L), some (.own (xs ++ pre.flatMap fun l => G4 k j t (nat l))), some (.dat (.int k)), some (.dat (.int j)), some (.dat (.int t)), l', h'])
    (iCB_ok (as := [.dat (.int ((t : Int) + 1))]) (ds := [.int ((t : Int) + 1)]) (by simp; rfl) rfl hr) ⟨l, h, by simp⟩ (fun p d q ρ e hI => ?_)) fun ρ' hh => ?_
  · obtain ⟨l', h', rfl⟩ := hI
    have hd : d ∈ rngD 0 (t + 1) := by rw [e]; simp
    obtain ⟨i, h2, rfl⟩ := rng_mem hd
    have hp : p.length ≤ 3 := by
      have := congrArg List.length e
      rw [rngD_len] at this
      simp at this
      omega
    have hg := flatMap_le (f := fun l => G4 k j t (nat l)) (c := 3) (xs := p) fun x _ => G4_len ht
    obtain ⟨h2', hl⟩ := loop4 (L := L) (k := k) (j := j) (low := i) ht (by omega) (xs ++ p.flatMap fun l => G4 k j t (nat l)) (by rw [List.length_append]; omega) h'
    exact ⟨[some (.dat L), some (.own (xs ++ p.flatMap fun l => G4 k j t (nat l))), some (.dat (.int k)), some (.dat (.int j)), some (.dat (.int t)), some (.dat (.int i)), h'], by simp [gNm], _, .inl hl, some (.dat (.int i)), h2', by simp [nat]⟩
  · obtain ⟨h1, l', h', rfl⟩ := hh
    exact ⟨l', h', h1⟩
end
theorem loop2 {Ls : List Lay} {k : Nat} (hL : ∀ l ∈ Ls, GoodLay l) (h4 : Ls.length ≤ 4) (xs : List D) (hx : xs.length ≤ 700) (a b l h : Option S) :
    ∃ a' b' l' h', forS (iCB gRng1 (mAc (mCB gLen (mAc (mV 0) mA0)) mA0)) (gNm 1 3) (seqS (asgN 1 4 (op2 gIx (op2 gIx (mV 0) (mV 3)) (mC (.int 0)))) (forS (iCB gRng1 (mAc (op2 gAdd (mV 4) (mC (.int 1))) mA0)) (gNm 1 5) (forS (iCB gRng2 (mAc (mV 5) (mAc (op2 gAdd (mV 4) (mC (.int 1))) mA0))) (gNm 1 6) (ifS (mAnd (op2 gNe (mV 2) (mV 3)) (mOr (op2 gGt (mV 5) (mC (.int 0))) (op2 gLt (mV 6) (mV 4)))) (appO 1 (mCB gTup' (mAc (mV 2) (mAc (mV 3) (mAc (mV 5) (mAc (mV 6) mA0)))))) nextS))))
      [some (.dat (lays Ls)), some (.own xs), some (.dat (.int k)), a, b, l, h] = some (.nx [some (.dat (lays Ls)), some (.own (xs ++ (rngD 0 Ls.length).flatMap fun j => G3 k (nat j) (topN Ls (nat j)))), some (.dat (.int k)), a', b', l', h']) := by
  have hr : gRng1 [.int Ls.length] = some (rngD 0 Ls.length) := gRng1_nat (by omega)
  refine Exists.elim (forS_inv2 (fi := iCB gRng1 (mAc (mCB gLen (mAc (mV 0) mA0)) mA0)) (T := gNm 1 3) (fb := seqS (asgN 1 4 (op2 gIx (op2 gIx (mV 0) (mV 3)) (mC (.int 0)))) (forS (iCB gRng1 (mAc (op2 gAdd (mV 4) (mC (.int 1))) mA0)) (gNm 1 5) (forS (iCB gRng2 (mAc (mV 5) (mAc (op2 gAdd (mV 4) (mC (.int 1))) mA0))) (gNm 1 6) (ifS (mAnd (op2 gNe (mV 2) (mV 3)) (mOr (op2 gGt (mV 5) (mC (.int 0))) (op2 gLt (mV 6) (mV 4)))) (appO 1 (mCB gTup' (mAc (mV 2) (mAc (mV 3) (mAc (mV 5) (mAc (mV 6) mA0)))))) nextS))))
    (ρ := [some (.dat (lays Ls)), some (.own xs), some (.dat (.int k)), a, b, l, h]) (ρ1 := [some (.dat (lays Ls)), some (.own xs), some (.dat (.int k)), a, b, l, h])
    (fun pre ρ => ∃ a' b' l' h', ρ = [some (.dat (lays Ls)), some (.own (xs ++ pre.flatMap fun j => G3 k (nat j) (topN Ls (nat j)))), some (.dat (.int k)), a', b', l', h'])
    (iCB_ok (as := [.dat (.int Ls.length)]) (ds := [.int Ls.length]) (by simp [lays]) rfl hr) ⟨a, b, l, h, by simp⟩ (fun p d q ρ e hI => ?_)) fun ρ' hh => ?_
  · obtain ⟨a', b', l', h', rfl⟩ := hI
    have hd : d ∈ rngD 0 Ls.length := by rw [e]; simp
    obtain ⟨j, hj, rfl⟩ := rng_mem hd
    have hp : p.length ≤ 4 := by
      have := congrArg List.length e
      rw [rngD_len] at this
      simp at this
      omega
    have hjl : Ls[j]? = some Ls[j] := List.getElem?_eq_getElem hj
    have gl := hL Ls[j] (List.getElem_mem hj)
    have ht : (topN Ls j : Int) = Ls[j].top ∧ topN Ls j ≤ 2 := by
      have : topAt Ls j = Ls[j].top := by simp [topAt, hjl]
      unfold topN
      rw [this]
      have := gl.top
      omega
    have hg := flatMap_le (f := fun j => G3 k (nat j) (topN Ls (nat j))) (c := 9) (xs := p) fun x hx => by
      have hx' : x ∈ rngD 0 Ls.length := by rw [e]; simp [hx]
      obtain ⟨i, hi, rfl⟩ := rng_mem hx'
      refine G3_len ?_
      have hil : Ls[i]? = some Ls[i] := List.getElem?_eq_getElem hi
      have gi := hL Ls[i] (List.getElem_mem hi)
      have : topAt Ls i = Ls[i].top := by simp [topAt, hil]
      show topN Ls i ≤ 2
      unfold topN
      rw [this]
      have := gi.top
      omega
    obtain ⟨l2, h2, hl⟩ := loop3 (L := lays Ls) (k := k) (j := j) (t := topN Ls j) ht.2 (xs ++ p.flatMap fun j => G3 k (nat j) (topN Ls (nat j))) (by rw [List.length_append]; omega) l' h'
    have ij : atI (Ls.map layD) (j : Int) = some (layD Ls[j]) := atI_nat (by simp [hjl])
    have it : atI [PyData.int Ls[j].top, .int Ls[j].rain, .int Ls[j].flies, .str Ls[j].hand, .str Ls[j].wind] 0 = some (.int Ls[j].top) := rfl
    have hs : asgN 1 4 (op2 gIx (op2 gIx (mV 0) (mV 3)) (mC (.int 0))) [some (.dat (lays Ls)), some (.own (xs ++ p.flatMap fun j => G3 k (nat j) (topN Ls (nat j)))), some (.dat (.int k)), some (.dat (.int j)), b', l', h'] = some (.nx [some (.dat (lays Ls)), some (.own (xs ++ p.flatMap fun j => G3 k (nat j) (topN Ls (nat j)))), some (.dat (.int k)), some (.dat (.int j)), some (.dat (.int (topN Ls j))), l', h']) := by
      rw [ht.1]
      simp [lays, ij]
      simp [layD, it]
    exact ⟨[some (.dat (lays Ls)), some (.own (xs ++ p.flatMap fun j => G3 k (nat j) (topN Ls (nat j)))), some (.dat (.int k)), some (.dat (.int j)), b', l', h'], by simp [gNm], _, .inl (seq_nx hs hl), some (.dat (.int j)), some (.dat (.int (topN Ls j))), l2, h2, by simp [nat]⟩
  · obtain ⟨h1, a', b', l', h', rfl⟩ := hh
    exact ⟨a', b', l', h', h1⟩
theorem e_every_bar {Ls : List Lay} (hL : ∀ l ∈ Ls, GoodLay l) (h4 : Ls.length ≤ 4) : Ans m__law_every_bar [lays Ls] (.list (everyD Ls)) := by
  have hr : gRng1 [.int Ls.length] = some (rngD 0 Ls.length) := gRng1_nat (by omega)
  have h2len : ∀ k, ((rngD 0 Ls.length).flatMap fun j => G3 k (nat j) (topN Ls (nat j))).length ≤ 36 := fun k => by
    have hg := flatMap_le (f := fun j => G3 k (nat j) (topN Ls (nat j))) (c := 9) (xs := rngD 0 Ls.length) fun x hx => by
      obtain ⟨i, hi, rfl⟩ := rng_mem hx
      refine G3_len ?_
      have hil : Ls[i]? = some Ls[i] := List.getElem?_eq_getElem hi
      have gi := hL Ls[i] (List.getElem_mem hi)
      have : topAt Ls i = Ls[i].top := by simp [topAt, hil]
      show topN Ls i ≤ 2
      unfold topN
      rw [this]
      have := gi.top
      omega
    rw [rngD_len] at hg
    omega
  refine Exists.elim (forS_inv2 (fi := iCB gRng1 (mAc (mCB gLen (mAc (mV 0) mA0)) mA0)) (T := gNm 1 2) (fb := forS (iCB gRng1 (mAc (mCB gLen (mAc (mV 0) mA0)) mA0)) (gNm 1 3) (seqS (asgN 1 4 (op2 gIx (op2 gIx (mV 0) (mV 3)) (mC (.int 0)))) (forS (iCB gRng1 (mAc (op2 gAdd (mV 4) (mC (.int 1))) mA0)) (gNm 1 5) (forS (iCB gRng2 (mAc (mV 5) (mAc (op2 gAdd (mV 4) (mC (.int 1))) mA0))) (gNm 1 6) (ifS (mAnd (op2 gNe (mV 2) (mV 3)) (mOr (op2 gGt (mV 5) (mC (.int 0))) (op2 gLt (mV 6) (mV 4)))) (appO 1 (mCB gTup' (mAc (mV 2) (mAc (mV 3) (mAc (mV 5) (mAc (mV 6) mA0)))))) nextS)))))
    (ρ := [some (.dat (lays Ls)), some (.own []), none, none, none, none, none]) (ρ1 := [some (.dat (lays Ls)), some (.own []), none, none, none, none, none])
    (fun pre ρ => ∃ k' a' b' l' h', ρ = [some (.dat (lays Ls)), some (.own (pre.flatMap fun k => (rngD 0 Ls.length).flatMap fun j => G3 (nat k) (nat j) (topN Ls (nat j)))), k', a', b', l', h'])
    (iCB_ok (as := [.dat (.int Ls.length)]) (ds := [.int Ls.length]) (by simp [lays]) rfl hr) ⟨none, none, none, none, none, by simp⟩ (fun p d q ρ e hI => ?_)) fun ρ' hh => ?_
  · obtain ⟨k', a', b', l', h', rfl⟩ := hI
    have hd : d ∈ rngD 0 Ls.length := by rw [e]; simp
    obtain ⟨k, hk, rfl⟩ := rng_mem hd
    have hp : p.length ≤ 4 := by
      have := congrArg List.length e
      rw [rngD_len] at this
      simp at this
      omega
    have hg := flatMap_le (f := fun k => (rngD 0 Ls.length).flatMap fun j => G3 (nat k) (nat j) (topN Ls (nat j))) (c := 36) (xs := p) fun x _ => h2len (nat x)
    obtain ⟨a2, b2, l2, h2, hl⟩ := loop2 (k := k) hL h4 (p.flatMap fun k => (rngD 0 Ls.length).flatMap fun j => G3 (nat k) (nat j) (topN Ls (nat j))) (by omega) a' b' l' h'
    exact ⟨[some (.dat (lays Ls)), some (.own (p.flatMap fun k => (rngD 0 Ls.length).flatMap fun j => G3 (nat k) (nat j) (topN Ls (nat j)))), some (.dat (.int k)), a', b', l', h'], by simp [gNm], _, .inl hl, some (.dat (.int k)), a2, b2, l2, h2, by simp [nat]⟩
  · obtain ⟨h1, k', a', b', l', h', rfl⟩ := hh
    have hs : asgN 1 1 (mCB gLstO mA0) [some (.dat (lays Ls)), none, none, none, none, none, none] = some (.nx [some (.dat (lays Ls)), some (.own []), none, none, none, none, none]) := by simp
    have hf : ∀ fb, frzS 1 1 fb [some (.dat (lays Ls)), some (.own (everyD Ls)), k', a', b', l', h'] = fb [some (.dat (lays Ls)), some (.dat (.list (everyD Ls))), k', a', b', l', h'] := fun fb => frzS_ok (by omega) rfl
    have hret : frzS 1 1 (retS' (mV 1)) [some (.dat (lays Ls)), some (.own (everyD Ls)), k', a', b', l', h'] = some (.rt (.dat (.list (everyD Ls))) [some (.dat (lays Ls)), some (.dat (.list (everyD Ls))), k', a', b', l', h']) := by
      rw [hf]
      simp
    exact Ans_run rfl (seq_nx hs (seq_nx h1 hret)) (by simp)
end M

namespace M
open PySem PySem.Spec L2 DL
theorem flatMap_cong {α β : Type} {f g : α → List β} : ∀ {xs : List α}, (∀ x ∈ xs, f x = g x) → xs.flatMap f = xs.flatMap g
  | [], _ => rfl
  | x :: xs, h => by
    rw [List.flatMap_cons, List.flatMap_cons, h x (by simp), flatMap_cong fun y hy => h y (by simp [hy])]
theorem one_pair {Ls : List Lay} {k j t : Nat} (ht : topAt Ls j = (t : Int)) (h12 : t = 1 ∨ t = 2) :
    ((pairs (rngD 0 3)).filter fun s => barD Ls (catD (.tuple [.int k, .int j]) s)).map (fun s => catD (.tuple [.int k, .int j]) s) = G3 k j t := by
  have e3 : rngD 0 3 = [.int 0, .int 1, .int 2] := rfl
  have ep : pairs (rngD 0 3) = [.tuple [.int 0, .int 0], .tuple [.int 0, .int 1], .tuple [.int 0, .int 2], .tuple [.int 1, .int 0], .tuple [.int 1, .int 1], .tuple [.int 1, .int 2], .tuple [.int 2, .int 0], .tuple [.int 2, .int 1], .tuple [.int 2, .int 2]] := rfl
  have bd : ∀ lo hi : Int, barD Ls (catD (.tuple [.int k, .int j]) (.tuple [.int lo, .int hi])) = barB t k j lo hi := fun lo hi => by simp [catD, barD, ht]
  have cd : ∀ lo hi : Int, catD (.tuple [.int k, .int j]) (.tuple [.int lo, .int hi]) = .tuple [.int k, .int j, .int lo, .int hi] := fun _ _ => rfl
  have q11 : rngD 1 1 = [.int 1] := rfl
  have q12 : rngD 1 2 = [.int 1, .int 2] := rfl
  have q21 : rngD 2 1 = [.int 2] := rfl
  rw [ep]
  simp only [List.filter_cons, List.filter_nil, bd]
  rcases h12 with rfl | rfl
  · have r2 : rngD 0 (1 + 1) = [.int 0, .int 1] := rfl
    have ra : rngD ((0 : Nat) : Int) (1 + 1 - 0) = [.int 0, .int 1] := rfl
    have rb : rngD ((1 : Nat) : Int) (1 + 1 - 1) = [.int 1] := rfl
    by_cases h : (k : Int) = j
    · simp [G3, G4, r2, ra, rb, nat, condB, barB, cd, row4, h]
    · have h' : ¬ (j : Int) = k := fun z => h z.symm
      simp [G3, G4, r2, ra, rb, nat, condB, barB, cd, row4, h, h', List.filter_cons, q11, q12, q21]
  · have r2 : rngD 0 (2 + 1) = [.int 0, .int 1, .int 2] := rfl
    have ra : rngD ((0 : Nat) : Int) (2 + 1 - 0) = [.int 0, .int 1, .int 2] := rfl
    have rb : rngD ((1 : Nat) : Int) (2 + 1 - 1) = [.int 1, .int 2] := rfl
    have rc : rngD ((2 : Nat) : Int) (2 + 1 - 2) = [.int 2] := rfl
    by_cases h : (k : Int) = j
    · simp [G3, G4, r2, ra, rb, rc, nat, condB, barB, cd, row4, h]
    · have h' : ¬ (j : Int) = k := fun z => h z.symm
      simp [G3, G4, r2, ra, rb, rc, nat, condB, barB, cd, row4, h, h', List.filter_cons, q11, q12, q21]
theorem every_all {Ls : List Lay} (hL : ∀ l ∈ Ls, GoodLay l) : everyD Ls = allBarsD Ls := by
  unfold everyD allBarsD
  have e : pairs (rngD 0 Ls.length) = (rngD 0 Ls.length).flatMap fun a => (rngD 0 Ls.length).map fun b => .tuple [a, b] := rfl
  rw [e, List.flatMap_assoc]
  refine flatMap_cong fun k hk => ?_
  rw [List.flatMap_map]
  refine flatMap_cong fun j hj => ?_
  obtain ⟨k, _, rfl⟩ := rng_mem hk
  obtain ⟨j, hj2, rfl⟩ := rng_mem hj
  have hjl : Ls[j]? = some Ls[j] := List.getElem?_eq_getElem hj2
  have gl := hL Ls[j] (List.getElem_mem hj2)
  have h1 : topAt Ls j = Ls[j].top := by simp [topAt, hjl]
  have h2 : ((topN Ls j : Nat) : Int) = topAt Ls j := by
    unfold topN; rw [h1]; have := gl.top; omega
  have h3 : topN Ls j = 1 ∨ topN Ls j = 2 := by
    unfold topN; rw [h1]; have := gl.top; omega
  exact (one_pair h2.symm h3).symm
section
variable {L : D} {bs every : List D}
theorem e_law_bars_changed (ha : Ans m__law_every_bar [L] (.list every)) (h6 : bs.length ≤ 6) (hin : ∀ b ∈ every, inOk b bs = true) (hso : ∀ b ∈ every, sortable (bs ++ [b]) = true) (hs : sortable (changed L bs every) = true) (hl : every.length ≤ 1000) :
    Ans m__law_bars_changed [pn L bs] (.list (sortD (changed L bs every))) := by
  have c1 : compE true (iCB gRng1 (mAc (mCB gLen (mAc (mV 2) mA0)) mA0)) (gNm 1 5) mYes (mCB gTup' (mAc (mV 1) (mAc (op2 gAdd (mSl gSl (mV 2) mNoPart (mPart (mV 5))) (mSl gSl (mV 2) (mPart (op2 gAdd (mV 5) (mC (.int 1)))) mNoPart)) mA0))) [5]
      [some (.dat (pn L bs)), some (.dat L), some (.dat (.tuple bs)), none, none, none] = some (.ok (.own (delsD L bs)), [some (.dat (pn L bs)), some (.dat L), some (.dat (.tuple bs)), none, none, none]) := by
    have hr : gRng1 [.int bs.length] = some (rngD 0 bs.length) := gRng1_nat (by omega)
    refine compE_map (ow := true) (fun d => .tuple [L, .tuple (bs.take (idx d) ++ bs.drop (idx d + 1))]) (iCB_ok (as := [.dat (.int bs.length)]) (ds := [.int bs.length]) (by simp) rfl hr) (by simp [noOwn]) (fun d hd => ?_) (by rw [rngD_len]; unfold big; omega)
    obtain ⟨i, hi, rfl⟩ := rng_mem hd
    obtain ⟨k1, k2⟩ := cut_at (bs := bs) (i := i)
    have hbig : (bs.take i).length + (bs.drop (i + 1)).length ≤ big := by unfold big; simp; omega
    refine ⟨⟨_, by simp [gNm, wipeE]; rfl, .dat (.tuple [L, .tuple (bs.take i ++ bs.drop (i + 1))]), [some (.dat (pn L bs)), some (.dat L), some (.dat (.tuple bs)), none, none, some (.dat (.int i))], ?_, rfl, by simp [noOwn], by simp [wipeE]⟩⟩
    simp [-List.length_take, -List.length_drop, k1, k2, hbig]
  have wa := fun ρ => callK_dat (ρ := ρ) ha
  simp only [List.map] at wa
  have hd6 : (delsD L bs).length ≤ 6 := by simp [delsD, rngD_len]; exact h6
  have hA : asgT (gTp 2 (gCs (gNm 1 1) (gCs (gNm 1 2) gNl))) (mV 0) [some (.dat (pn L bs)), none, none, none, none, none] = some (.nx [some (.dat (pn L bs)), some (.dat L), some (.dat (.tuple bs)), none, none, none]) := by
    simp [gTp, gCs, gNl, gNm]
  have hB : asgN 1 3 (compE true (iCB gRng1 (mAc (mCB gLen (mAc (mV 2) mA0)) mA0)) (gNm 1 5) mYes (mCB gTup' (mAc (mV 1) (mAc (op2 gAdd (mSl gSl (mV 2) mNoPart (mPart (mV 5))) (mSl gSl (mV 2) (mPart (op2 gAdd (mV 5) (mC (.int 1)))) mNoPart)) mA0))) [5])
      [some (.dat (pn L bs)), some (.dat L), some (.dat (.tuple bs)), none, none, none] = some (.nx [some (.dat (pn L bs)), some (.dat L), some (.dat (.tuple bs)), some (.own (delsD L bs)), none, none]) := by
    simp only [asgN_eq, c1, thenS_ok]
    rfl
  have hfor : ∃ b', forS (iSeq (callM m__law_every_bar (mAc (mV 1) mA0))) (gNm 1 4) (ifS (op2 (gIn true) (mV 4) (mV 2)) (appO 3 (mCB gTup' (mAc (mV 1) (mAc (mCB gTuple (mAc (mCB gSorted (mAc (op2 gAdd (mV 2) (mCB gTup' (mAc (mV 4) mA0))) mA0)) mA0)) mA0)))) nextS)
      [some (.dat (pn L bs)), some (.dat L), some (.dat (.tuple bs)), some (.own (delsD L bs)), none, none] = some (.nx [some (.dat (pn L bs)), some (.dat L), some (.dat (.tuple bs)), some (.own (delsD L bs ++ addsD L bs every)), b', none]) := by
    refine Exists.elim (forS_inv2 (fi := iSeq (callM m__law_every_bar (mAc (mV 1) mA0))) (T := gNm 1 4) (fb := ifS (op2 (gIn true) (mV 4) (mV 2)) (appO 3 (mCB gTup' (mAc (mV 1) (mAc (mCB gTuple (mAc (mCB gSorted (mAc (op2 gAdd (mV 2) (mCB gTup' (mAc (mV 4) mA0))) mA0)) mA0)) mA0)))) nextS)
      (ρ := [some (.dat (pn L bs)), some (.dat L), some (.dat (.tuple bs)), some (.own (delsD L bs)), none, none]) (ρ1 := [some (.dat (pn L bs)), some (.dat L), some (.dat (.tuple bs)), some (.own (delsD L bs)), none, none])
      (fun pre ρ => ∃ b', ρ = [some (.dat (pn L bs)), some (.dat L), some (.dat (.tuple bs)), some (.own (delsD L bs ++ addsD L bs pre)), b', none])
      (iSeq_ok (d := .list every) (by simp [wa]) rfl) ⟨none, by simp [addsD]⟩ (fun p d q ρ e hI => ?_)) fun ρ' hh => ?_
    · obtain ⟨b', rfl⟩ := hI
      have hd : d ∈ every := by rw [e]; simp
      have hp : p.length < 1000 := by have := congrArg List.length e; simp at this; omega
      have hbl : (delsD L bs ++ addsD L bs p).length < big := by
        have := List.length_filter_le (fun b => !memD b bs) p
        unfold big addsD
        rw [List.length_append, List.length_map]
        omega
      have g1 := gIn_any (neg := true) (hin d hd)
      simp only [if_true] at g1
      have g2 := gSorted_t (hso d hd)
      have hbig : bs.length + 1 ≤ big := by unfold big; omega
      have htest : op2 (gIn true) (mV 4) (mV 2) [some (.dat (pn L bs)), some (.dat L), some (.dat (.tuple bs)), some (.own (delsD L bs ++ addsD L bs p)), some (.dat d), none] = some (.ok (.dat (.bool (!memD d bs))), [some (.dat (pn L bs)), some (.dat L), some (.dat (.tuple bs)), some (.own (delsD L bs ++ addsD L bs p)), some (.dat d), none]) := by
        simp [g1]
      have happ := appO_ok (i := 3) (f := mCB gTup' (mAc (mV 1) (mAc (mCB gTuple (mAc (mCB gSorted (mAc (op2 gAdd (mV 2) (mCB gTup' (mAc (mV 4) mA0))) mA0)) mA0)) mA0))) (ρ := [some (.dat (pn L bs)), some (.dat L), some (.dat (.tuple bs)), some (.own (delsD L bs ++ addsD L bs p)), some (.dat d), none]) (ρ1 := [some (.dat (pn L bs)), some (.dat L), some (.dat (.tuple bs)), some (.own (delsD L bs ++ addsD L bs p)), some (.dat d), none]) (s := .dat (addD L bs d)) rfl (by simp [g2, gTuple_l, hbig, addD]) rfl rfl hbl
      simp only [List.set] at happ
      refine ⟨[some (.dat (pn L bs)), some (.dat L), some (.dat (.tuple bs)), some (.own (delsD L bs ++ addsD L bs p)), some (.dat d), none], by simp [gNm], ?_⟩
      cases hm : memD d bs with
      | false =>
        rw [hm] at htest
        refine ⟨_, .inl (by rw [ifS_eq, htest, thenS_ok, boolS_b, if_pos (by rfl), happ]), some (.dat d), ?_⟩
        simp [addsD, List.filter_append, List.filter_cons, hm]
      | true =>
        rw [hm] at htest
        refine ⟨_, .inl (by rw [ifS_eq, htest, thenS_ok, boolS_b, if_neg (by simp), nextS_eq]), some (.dat d), ?_⟩
        simp [addsD, List.filter_append, List.filter_cons, hm]
    · obtain ⟨h1, b', rfl⟩ := hh
      exact ⟨b', h1⟩
  have hC : ∃ b', ifS (op2 gLt (mCB gLen (mAc (mV 2) mA0)) (mC (.int 6))) (forS (iSeq (callM m__law_every_bar (mAc (mV 1) mA0))) (gNm 1 4) (ifS (op2 (gIn true) (mV 4) (mV 2)) (appO 3 (mCB gTup' (mAc (mV 1) (mAc (mCB gTuple (mAc (mCB gSorted (mAc (op2 gAdd (mV 2) (mCB gTup' (mAc (mV 4) mA0))) mA0)) mA0)) mA0)))) nextS)) nextS
      [some (.dat (pn L bs)), some (.dat L), some (.dat (.tuple bs)), some (.own (delsD L bs)), none, none] = some (.nx [some (.dat (pn L bs)), some (.dat L), some (.dat (.tuple bs)), some (.own (changed L bs every)), b', none]) := by
    unfold changed
    by_cases h : bs.length < 6
    · have h' : (bs.length : Int) < 6 := by omega
      obtain ⟨b', hb⟩ := hfor
      exact ⟨b', by simp [h', h, hb]⟩
    · have h' : ¬ (bs.length : Int) < 6 := by omega
      exact ⟨none, by simp [h', h]⟩
  obtain ⟨b', hC⟩ := hC
  have fin : frzS 1 3 (retS' (mCB gSorted (mAc (mV 3) mA0))) [some (.dat (pn L bs)), some (.dat L), some (.dat (.tuple bs)), some (.own (changed L bs every)), b', none] = some (.rt (.dat (.list (sortD (changed L bs every)))) [some (.dat (pn L bs)), some (.dat L), some (.dat (.tuple bs)), some (.dat (.list (changed L bs every))), b', none]) := by
    have g := gSorted_l hs
    rw [frzS_ok (np := 1) (i := 3) (by omega) rfl]
    simp [g]
  exact Ans_run rfl (seq_nx hA (seq_nx hB (seq_nx hC fin))) (by simp)
end
/-! ### the deck -/
def deckD (a b c : Int) : List D := [.int a, .int b, .int c]
/-- a deck of which at most m were drawn -/
def Deck (m : Int) (d : List D) : Prop := ∃ a b c : Int, d = deckD a b c ∧ 0 ≤ b ∧ b < 2147483579 ∧ 0 ≤ c ∧ c ≤ m
theorem Deck.mono {m n : Int} {d : List D} (h : Deck m d) (l : m ≤ n) : Deck n d := by
  obtain ⟨a, b, c, e, h1, h2, h3, h4⟩ := h
  exact ⟨a, b, c, e, h1, h2, h3, by omega⟩
section
variable {a b c x : Int} {ρ : DL.Env} {f : EM}
theorem oix0 : mOix 0 (mC (.int 0)) (some (.own (deckD a b c)) :: ρ) = some (.ok (.dat (.int a)), some (.own (deckD a b c)) :: ρ) := mOix_ok rfl rfl rfl
theorem oix1 : mOix 0 (mC (.int 1)) (some (.own (deckD a b c)) :: ρ) = some (.ok (.dat (.int b)), some (.own (deckD a b c)) :: ρ) := mOix_ok rfl rfl rfl
theorem oix2 : mOix 0 (mC (.int 2)) (some (.own (deckD a b c)) :: ρ) = some (.ok (.dat (.int c)), some (.own (deckD a b c)) :: ρ) := mOix_ok rfl rfl rfl
theorem set0 (h : f (some (.own (deckD a b c)) :: ρ) = some (.ok (.dat (.int x)), some (.own (deckD a b c)) :: ρ)) : setO 0 f (mC (.int 0)) (some (.own (deckD a b c)) :: ρ) = some (.nx (some (.own (deckD x b c)) :: ρ)) := setO_ok (i := 0) (g := mC (.int 0)) (ys := deckD a b c) (k := 0) h rfl rfl (j := 0) rfl
theorem set2 (h : f (some (.own (deckD a b c)) :: ρ) = some (.ok (.dat (.int x)), some (.own (deckD a b c)) :: ρ)) : setO 0 f (mC (.int 2)) (some (.own (deckD a b c)) :: ρ) = some (.nx (some (.own (deckD a b x)) :: ρ)) := setO_ok (i := 0) (g := mC (.int 2)) (ys := deckD a b c) (k := 2) h rfl rfl (j := 2) rfl
end
theorem gMod_ok {i j : Int} (h : j ≠ 0) : gMod (.int i) (.int j) = some (.int (i.fmod j)) := by
  show (if j ≠ 0 then _ else _) = _
  rw [if_pos h]
theorem gFdiv_ok {i j : Int} (h : j ≠ 0) (h2 : j.natAbs < 1073741824) : gFdiv (.int i) (.int j) = some (.int (i.fdiv j)) := by
  show (if j ≠ 0 ∧ j.natAbs < 1073741824 then _ else _) = _
  rw [if_pos ⟨h, h2⟩]
theorem gMul_ok {i j : Int} (h : CMul' i j) : gMul (.int i) (.int j) = some (.int (i * j)) := by
  show (if CMul' i j then _ else _) = _
  rw [if_pos h]
theorem gPow_ok {i j : Int} (h : 0 ≤ j ∧ j ≤ 1000000 ∧ i.natAbs < 18446744073709551616) : gPow (.int i) (.int j) = some (.int (i ^ j.toNat)) := by
  show (if 0 ≤ j ∧ j ≤ 1000000 ∧ i.natAbs < 18446744073709551616 then _ else _) = _
  rw [if_pos h]
theorem op2_go {g : D → D → Option D} {fa fb : EM} {ρ : DL.Env} {x y z : D} (ha : fa ρ = some (.ok (.dat x), ρ)) (hb : fb ρ = some (.ok (.dat y), ρ)) (h : g x y = some z) : op2 g fa fb ρ = some (.ok (.dat z), ρ) := by
  rw [op2_eq, ha, thenD_ok, hb, thenD_ok, h, optD_s]
theorem asg_go {np i : Nat} {f : EM} {ρ ρ1 : DL.Env} {s : S} (h : f ρ = some (.ok s, ρ1)) (ho : okset np i ρ1 = true) : asgN np i f ρ = some (.nx (ρ1.set i (some s))) := by
  rw [asgN_eq, h, thenS_ok, if_pos ho]
theorem ret_go {f : EM} {ρ ρ1 : DL.Env} {s : S} (h : f ρ = some (.ok s, ρ1)) : retS' f ρ = some (.rt s ρ1) := by
  rw [retS_eq', h, thenS_ok]
theorem if_t {ft : EM} {f g : SM} {ρ ρ1 : DL.Env} (h : ft ρ = some (.ok (.dat (.bool true)), ρ1)) : ifS ft f g ρ = f ρ1 := by
  rw [ifS_eq, h, thenS_ok, boolS_b, if_pos rfl]
theorem if_f {ft : EM} {f g : SM} {ρ ρ1 : DL.Env} (h : ft ρ = some (.ok (.dat (.bool false)), ρ1)) : ifS ft f g ρ = g ρ1 := by
  rw [ifS_eq, h, thenS_ok, boolS_b, if_neg (by simp)]
theorem int_go {f : EM} {ρ : DL.Env} {i : Int} (h : f ρ = some (.ok (.dat (.int i)), ρ)) : mCB gInt (mAc f mA0) ρ = some (.ok (.dat (.int i)), ρ) := by
  rw [mCB_eq, mAc_eq, h, argK_ok, mA0_eq, consA_in, thenA_in]
  rfl
theorem fmod_rng {i j : Int} (h : 0 < j) : 0 ≤ i.fmod j ∧ i.fmod j < j := ⟨Int.fmod_nonneg_of_pos _ h, Int.fmod_lt_of_pos _ h⟩
theorem pick_go {m : Int} {d : List D} {size : Int} (h : Deck m d) (hm : m ≤ 1000000) (hs : 0 < size) (hs2 : size < 1000000) :
    ∃ (r : Int) (d' : List D), 0 ≤ r ∧ r < size ∧ Deck (m + 1) d' ∧ m__law_pick [some (.own d), some (.dat (.int size))] = some (.ok (.dat (.int r)), [some (.own d'), some (.dat (.int size))]) := by
  obtain ⟨a, b, c, rfl, h1, h2, h3, h4⟩ := h
  by_cases ha : 1 < a
  · obtain ⟨r1, r2⟩ := fmod_rng (i := a) hs
    refine ⟨a.fmod size, deckD (a.fdiv size) b c, r1, r2, ⟨_, _, _, rfl, h1, h2, h3, by omega⟩, ?_⟩
    have ht : op2 gGt (mOix 0 (mC (.int 0))) (mC (.int 1)) [some (.own (deckD a b c)), some (.dat (.int size)), none, none] = some (.ok (.dat (.bool true)), [some (.own (deckD a b c)), some (.dat (.int size)), none, none]) := op2_go oix0 rfl (by simp [ha])
    have s1 : asgN 2 3 (op2 gMod (mCB gInt (mAc (mOix 0 (mC (.int 0))) mA0)) (mV 1)) [some (.own (deckD a b c)), some (.dat (.int size)), none, none] = some (.nx [some (.own (deckD a b c)), some (.dat (.int size)), none, some (.dat (.int (a.fmod size)))]) :=
      asg_go (op2_go (int_go oix0) rfl (gMod_ok (by omega))) rfl
    have s2 : setO 0 (op2 gFdiv (mOix 0 (mC (.int 0))) (mV 1)) (mC (.int 0)) [some (.own (deckD a b c)), some (.dat (.int size)), none, some (.dat (.int (a.fmod size)))] = some (.nx [some (.own (deckD (a.fdiv size) b c)), some (.dat (.int size)), none, some (.dat (.int (a.fmod size)))]) :=
      set0 (op2_go oix0 rfl (gFdiv_ok (by omega) (by omega)))
    have hb : b__law_pick [some (.own (deckD a b c)), some (.dat (.int size)), none, none] = some (.rt (.dat (.int (a.fmod size))) [some (.own (deckD (a.fdiv size) b c)), some (.dat (.int size)), none, some (.dat (.int (a.fmod size)))]) :=
      seq_rt ((if_t ht).trans (seq_nx s1 (seq_nx s2 (ret_go rfl))))
    show runK 2 [some (.own (deckD a b c)), some (.dat (.int size))] (b__law_pick [some (.own (deckD a b c)), some (.dat (.int size)), none, none]) = _
    rw [hb]
    simp
  · obtain ⟨n1, n2⟩ := fmod_rng (i := (b + 15485867 * (c + 1)) ^ 5) (j := 2147483647) (by omega)
    have ht : op2 gGt (mOix 0 (mC (.int 0))) (mC (.int 1)) [some (.own (deckD a b c)), some (.dat (.int size)), none, none] = some (.ok (.dat (.bool false)), [some (.own (deckD a b c)), some (.dat (.int size)), none, none]) := op2_go oix0 rfl (by simp [ha])
    have s1 : setO 0 (op2 gAdd (mOix 0 (mC (.int 2))) (mC (.int 1))) (mC (.int 2)) [some (.own (deckD a b c)), some (.dat (.int size)), none, none] = some (.nx [some (.own (deckD a b (c + 1))), some (.dat (.int size)), none, none]) := set2 (op2_go oix2 rfl rfl)
    generalize hnum : ((b + 15485867 * (c + 1)) ^ 5).fmod 2147483647 = num at n1 n2
    have s2 : asgN 2 2 (op2 gMod (op2 gPow (op2 gAdd (mOix 0 (mC (.int 1))) (op2 gMul (mC (.int 15485867)) (mOix 0 (mC (.int 2))))) (mC (.int 5))) (mC (.int 2147483647))) [some (.own (deckD a b (c + 1))), some (.dat (.int size)), none, none] = some (.nx [some (.own (deckD a b (c + 1))), some (.dat (.int size)), some (.dat (.int num)), none]) :=
      asg_go (op2_go (op2_go (op2_go oix1 (op2_go rfl oix2 (gMul_ok (.inl (by omega)))) rfl) rfl (gPow_ok (by omega))) rfl (by rw [gMod_ok (by omega)]; rw [← hnum]; rfl)) rfl
    generalize hf : (((num + 7919 * (c + 1)) ^ 3).fmod 2147483629).fdiv 32 = fo
    have s3 : asgN 2 3 (op2 gFdiv (op2 gMod (op2 gPow (op2 gAdd (mV 2) (op2 gMul (mC (.int 7919)) (mOix 0 (mC (.int 2))))) (mC (.int 3))) (mC (.int 2147483629))) (mC (.int 32))) [some (.own (deckD a b (c + 1))), some (.dat (.int size)), some (.dat (.int num)), none] = some (.nx [some (.own (deckD a b (c + 1))), some (.dat (.int size)), some (.dat (.int num)), some (.dat (.int fo))]) :=
      asg_go (op2_go (op2_go (op2_go (op2_go rfl (op2_go rfl oix2 (gMul_ok (.inl (by omega)))) rfl) rfl (gPow_ok (by omega))) rfl (gMod_ok (by omega))) rfl (by rw [gFdiv_ok (by omega) (by decide)]; rw [← hf]; rfl)) rfl
    obtain ⟨r1, r2⟩ := fmod_rng (i := fo) hs
    refine ⟨fo.fmod size, deckD a b (c + 1), r1, r2, ⟨_, _, _, rfl, h1, h2, by omega, by omega⟩, ?_⟩
    have s4 : retS' (op2 gMod (mCB gInt (mAc (mV 3) mA0)) (mV 1)) [some (.own (deckD a b (c + 1))), some (.dat (.int size)), some (.dat (.int num)), some (.dat (.int fo))] = some (.rt (.dat (.int (fo.fmod size))) [some (.own (deckD a b (c + 1))), some (.dat (.int size)), some (.dat (.int num)), some (.dat (.int fo))]) :=
      ret_go (op2_go (int_go rfl) rfl (gMod_ok (by omega)))
    have hb : b__law_pick [some (.own (deckD a b c)), some (.dat (.int size)), none, none] = some (.rt (.dat (.int (fo.fmod size))) [some (.own (deckD a b (c + 1))), some (.dat (.int size)), some (.dat (.int num)), some (.dat (.int fo))]) :=
      seq_nx ((if_f ht).trans nextS_eq) (seq_nx s1 (seq_nx s2 (seq_nx s3 s4)))
    show runK 2 [some (.own (deckD a b c)), some (.dat (.int size))] (b__law_pick [some (.own (deckD a b c)), some (.dat (.int size)), none, none]) = _
    rw [hb]
    simp
end M

namespace M
open PySem PySem.Spec L2 DL
section
variable {F : EM} {f : EM} {i : Nat} {ρ : DL.Env} {d d' : List D} {x y : D} {o : Option S}
theorem call_ref2 (h : ρ[i]? = some (some (.own d))) (hf : f ρ = some (.ok (.dat x), ρ)) (hF : F [some (.own d), some (.dat x)] = some (.ok (.dat y), [some (.own d'), o])) : callM F (mAr i (mAc f mA0)) ρ = some (.ok (.dat y), ρ.set i (some (.own d'))) := by
  rw [callM_eq]
  have e : mAr i (mAc f mA0) ρ = some (.inl [.ref i, .dat x], ρ) := by
    unfold mAr
    rw [h]
    simp [hf]
  rw [e, thenA_in]
  unfold callK
  have e2 : argEnv [.ref i, .dat x] ρ = [some (.own d), some (.dat x)] := by simp [argEnv, argS, h]
  rw [e2, hF]
  simp [refsOf, nodupN, putBack]
theorem call_ref1 (h : ρ[i]? = some (some (.own d))) (hF : F [some (.own d)] = some (.ok (.dat y), [some (.own d')])) : callM F (mAr i mA0) ρ = some (.ok (.dat y), ρ.set i (some (.own d'))) := by
  rw [callM_eq]
  have e : mAr i mA0 ρ = some (.inl [.ref i], ρ) := by
    unfold mAr
    rw [h]
    simp
  rw [e, thenA_in]
  unfold callK
  have e2 : argEnv [.ref i] ρ = [some (.own d)] := by simp [argEnv, argS, h]
  rw [e2, hF]
  simp [refsOf, nodupN, putBack]
end
theorem pick_call {m : Int} {d : List D} {size : Int} {i : Nat} {f : EM} {ρ : DL.Env} (h : Deck m d) (hm : m ≤ 1000000) (hs : 0 < size) (hs2 : size < 1000000) (hi : ρ[i]? = some (some (.own d))) (hf : f ρ = some (.ok (.dat (.int size)), ρ)) :
    ∃ (r : Int) (d' : List D), 0 ≤ r ∧ r < size ∧ Deck (m + 1) d' ∧ callM m__law_pick (mAr i (mAc f mA0)) ρ = some (.ok (.dat (.int r)), ρ.set i (some (.own d'))) := by
  obtain ⟨r, d', h1, h2, h3, h4⟩ := pick_go h hm hs hs2
  exact ⟨r, d', h1, h2, h3, call_ref2 hi hf h4⟩
theorem one_go {m : Int} {d : List D} {xs : List D} (h : Deck m d) (hm : m ≤ 1000000) (hx : xs ≠ []) (hl : xs.length < 1000000) :
    ∃ (x : D) (d' : List D), x ∈ xs ∧ Deck (m + 1) d' ∧ m__law_one [some (.own d), some (.dat (.list xs))] = some (.ok (.dat x), [some (.own d'), some (.dat (.list xs))]) := by
  have hp : 0 < xs.length := List.length_pos_iff.mpr hx
  obtain ⟨r, d', h1, h2, h3, h4⟩ := pick_call (i := 0) (f := mCB gLen (mAc (mV 1) mA0)) (ρ := [some (.own d), some (.dat (.list xs))]) (size := xs.length) h hm (by omega) (by omega) rfl (by simp)
  obtain ⟨n, rfl⟩ := Int.eq_ofNat_of_zero_le h1
  have hn : n < xs.length := by omega
  refine ⟨xs[n], d', List.getElem_mem hn, h3, ?_⟩
  have hix : gIx (.list xs) (.int n) = some xs[n] := atI_nat (List.getElem?_eq_getElem hn)
  have hb : b__law_one [some (.own d), some (.dat (.list xs))] = some (.rt (.dat xs[n]) [some (.own d'), some (.dat (.list xs))]) := by
    refine ret_go ?_
    rw [op2_eq, show mV 1 [some (.own d), some (.dat (.list xs))] = some (.ok (.dat (.list xs)), [some (.own d), some (.dat (.list xs))]) from rfl, thenD_ok, h4, thenD_ok]
    rw [hix, optD_s]
    rfl
  show runK 2 [some (.own d), some (.dat (.list xs))] (b__law_one [some (.own d), some (.dat (.list xs))]) = _
  rw [hb]
  simp
theorem one_call {m : Int} {d : List D} {xs : List D} {i : Nat} {f : EM} {ρ : DL.Env} (h : Deck m d) (hm : m ≤ 1000000) (hx : xs ≠ []) (hl : xs.length < 1000000) (hi : ρ[i]? = some (some (.own d))) (hf : f ρ = some (.ok (.dat (.list xs)), ρ)) :
    ∃ (x : D) (d' : List D), x ∈ xs ∧ Deck (m + 1) d' ∧ callM m__law_one (mAr i (mAc f mA0)) ρ = some (.ok (.dat x), ρ.set i (some (.own d'))) := by
  obtain ⟨x, d', h1, h3, h4⟩ := one_go h hm hx hl
  exact ⟨x, d', h1, h3, call_ref2 hi hf h4⟩
theorem par2_go {np i j : Nat} {f g : EM} {ρ ρ1 ρ2 : DL.Env} {s t : S} (h1 : f ρ = some (.ok s, ρ1)) (h2 : g ρ1 = some (.ok t, ρ2)) (o1 : okset np i ρ2 = true) (o2 : okset np j (ρ2.set i (some s)) = true) : parS np [i, j] [f, g] ρ = some (.nx ((ρ2.set i (some s)).set j (some t))) := by
  unfold parS
  simp only [parE, h1, h2, setAll, o1, o2, if_true]
theorem add_go {f g : EM} {ρ ρ1 ρ2 : DL.Env} {a b : Int} (h1 : f ρ = some (.ok (.dat (.int a)), ρ1)) (h2 : g ρ1 = some (.ok (.dat (.int b)), ρ2)) : op2 gAdd f g ρ = some (.ok (.dat (.int (a + b))), ρ2) := by
  rw [op2_eq, h1, thenD_ok, h2, thenD_ok]; rfl
theorem sub_go {f g : EM} {ρ ρ1 ρ2 : DL.Env} {a b : Int} (h1 : f ρ = some (.ok (.dat (.int a)), ρ1)) (h2 : g ρ1 = some (.ok (.dat (.int b)), ρ2)) : op2 gSub f g ρ = some (.ok (.dat (.int (a - b))), ρ2) := by
  rw [op2_eq, h1, thenD_ok, h2, thenD_ok]; rfl
theorem layer_go {m : Int} {d : List D} (h : Deck m d) (hm : m ≤ 100000) :
    ∃ (l : Lay) (d' : List D), GoodLay l ∧ Deck (m + 5) d' ∧ m__law_layer [some (.own d)] = some (.ok (.dat (layD l)), [some (.own d')]) := by
  obtain ⟨r1, d1, a1, a2, a3, a4⟩ := pick_call (i := 0) (f := mC (.int 2)) (ρ := [some (.own d), none, none, none, none]) h (by omega) (by omega) (by omega) rfl rfl
  have s1 : asgN 1 1 (op2 gAdd (mC (.int 1)) (callM m__law_pick (mAr 0 (mAc (mC (.int 2)) mA0)))) [some (.own d), none, none, none, none] = some (.nx [some (.own d1), some (.dat (.int (1 + r1))), none, none, none]) := asg_go (add_go rfl a4) rfl
  obtain ⟨r2, d2, b1, b2, b3, b4⟩ := pick_call (i := 0) (f := op2 gAdd (mV 1) (mC (.int 2))) (ρ := [some (.own d1), some (.dat (.int (1 + r1))), none, none, none]) a3 (by omega) (by omega) (by omega) rfl rfl (size := 1 + r1 + 2)
  obtain ⟨r3, d3, c1, c2, c3, c4⟩ := pick_call (i := 0) (f := op2 gAdd (mV 1) (mC (.int 2))) (ρ := [some (.own d2), some (.dat (.int (1 + r1))), none, none, none]) b3 (by omega) (by omega) (by omega) rfl rfl (size := 1 + r1 + 2)
  have s2 : parS 1 [2, 3] [op2 gSub (callM m__law_pick (mAr 0 (mAc (op2 gAdd (mV 1) (mC (.int 2))) mA0))) (mC (.int 1)), op2 gSub (callM m__law_pick (mAr 0 (mAc (op2 gAdd (mV 1) (mC (.int 2))) mA0))) (mC (.int 1))] [some (.own d1), some (.dat (.int (1 + r1))), none, none, none]
      = some (.nx [some (.own d3), some (.dat (.int (1 + r1))), some (.dat (.int (r2 - 1))), some (.dat (.int (r3 - 1))), none]) := par2_go (np := 1) (i := 2) (j := 3) (s := .dat (.int (r2 - 1))) (t := .dat (.int (r3 - 1))) (ρ2 := [some (.own d3), some (.dat (.int (1 + r1))), none, none, none]) (sub_go (b := 1) b4 rfl) (sub_go (b := 1) c4 rfl) rfl rfl
  obtain ⟨x, d4, e1, e2, e3⟩ := one_call (i := 0) (f := mCB gLst (mAc (mC (.str "within")) (mAc (mC (.str "within")) (mAc (mC (.str "both")) (mAc (mC (.str "without")) mA0))))) (ρ := [some (.own d3), some (.dat (.int (1 + r1))), some (.dat (.int (r2 - 1))), some (.dat (.int (r3 - 1))), none]) (xs := [.str "within", .str "within", .str "both", .str "without"]) c3 (by omega) (by simp) (by decide) rfl (by simp)
  have s3 := asg_go (np := 1) (i := 4) e3 rfl
  obtain ⟨y, d5, f1, f2, f3⟩ := one_call (i := 0) (f := mCB gLst (mAc (mC (.str "still")) (mAc (mC (.str "still")) (mAc (mC (.str "still")) (mAc (mC (.str "opens")) (mAc (mC (.str "shuts")) (mAc (mC (.str "both")) mA0))))))) (ρ := [some (.own d4), some (.dat (.int (1 + r1))), some (.dat (.int (r2 - 1))), some (.dat (.int (r3 - 1))), some (.dat x)]) (xs := [.str "still", .str "still", .str "still", .str "opens", .str "shuts", .str "both"]) e2 (by omega) (by simp) (by decide) rfl (by simp)
  obtain ⟨hd, hx, hh⟩ : ∃ s : Str, x = .str s ∧ memD (.str s) [.str "both", .str "within", .str "without"] = true := by
    simp only [List.mem_cons, List.not_mem_nil, or_false] at e1
    rcases e1 with rfl | rfl | rfl | rfl <;> exact ⟨_, rfl, by simp [memD, PyData.eqv]⟩
  obtain ⟨wd, hy, hw⟩ : ∃ s : Str, y = .str s ∧ memD (.str s) [.str "both", .str "opens", .str "shuts", .str "still"] = true := by
    simp only [List.mem_cons, List.not_mem_nil, or_false] at f1
    rcases f1 with rfl | rfl | rfl | rfl | rfl | rfl <;> exact ⟨_, rfl, by simp [memD, PyData.eqv]⟩
  subst hx hy
  refine ⟨⟨1 + r1, r2 - 1, r3 - 1, hd, wd⟩, d5, ⟨by simp; omega, by simp; omega, by simp; omega, hh, hw⟩, f2.mono (by omega), ?_⟩
  have s4 : retS' (mCB gTup' (mAc (mV 1) (mAc (mV 2) (mAc (mV 3) (mAc (mV 4) (mAc (callM m__law_one (mAr 0 (mAc (mCB gLst (mAc (mC (.str "still")) (mAc (mC (.str "still")) (mAc (mC (.str "still")) (mAc (mC (.str "opens")) (mAc (mC (.str "shuts")) (mAc (mC (.str "both")) mA0))))))) mA0))) mA0)))))) [some (.own d4), some (.dat (.int (1 + r1))), some (.dat (.int (r2 - 1))), some (.dat (.int (r3 - 1))), some (.dat (.str hd))]
      = some (.rt (.dat (.tuple [.int (1 + r1), .int (r2 - 1), .int (r3 - 1), .str hd, .str wd])) [some (.own d5), some (.dat (.int (1 + r1))), some (.dat (.int (r2 - 1))), some (.dat (.int (r3 - 1))), some (.dat (.str hd))]) := by
    refine ret_go ?_
    rw [mCB_eq]
    simp [-callM_eq, -mCB_eq, f3]
  have hb : b__law_layer [some (.own d), none, none, none, none] = some (.rt (.dat (.tuple [.int (1 + r1), .int (r2 - 1), .int (r3 - 1), .str hd, .str wd])) [some (.own d5), some (.dat (.int (1 + r1))), some (.dat (.int (r2 - 1))), some (.dat (.int (r3 - 1))), some (.dat (.str hd))]) :=
    seq_nx s1 (seq_nx s2 (seq_nx s3 s4))
  show runK 1 [some (.own d)] (b__law_layer [some (.own d), none, none, none, none]) = _
  rw [hb]
  simp [layD]
end M

namespace M
open PySem PySem.Spec L2 DL
/-! ### the rows, each once, ascending -/
theorem lex_of_code : ∀ {a b : List Int}, a.length = b.length → TS.Bd 64 a → TS.Bd 64 b → TS.code 64 a < TS.code 64 b → HT.lexLt a b = true
  | [], [], _, _, _, h => by simp [TS.code] at h
  | [], _ :: _, h, _, _, _ => by simp at h
  | _ :: _, [], h, _, _, _ => by simp at h
  | x :: a, y :: b, hl, h1, h2, h => by
    have hl' : a.length = b.length := by simpa using hl
    rw [HT.lexLt_cons]
    split
    · rename_i e
      subst e
      exact lex_of_code hl' h1.tail h2.tail ((TS.code_same hl').mp h)
    · rename_i e
      rcases Int.lt_trichotomy x y with c | c | c
      · simpa using c
      · exact (e c).elim
      · have := TS.code_lt hl'.symm h2.tail h1.tail c; omega
theorem setSortR_asc {rs : List (List Int)} (ok : rowsOk rs = true) : (setSortR rs).Pairwise fun a b => HT.lexLt a b = true := by
  obtain ⟨_, h1, h2⟩ := rowsOk_get ok
  have hp := (setSortR_le rs).and (setSortR_nodup rs)
  refine List.Pairwise.imp_of_mem (fun {a b} ha hb h => ?_) hp
  have ha' := setSortR_mem.mp ha
  have hb' := setSortR_mem.mp hb
  refine lex_of_code (h2 b hb' a ha') (h1 a ha').2 (h1 b hb').2 ?_
  have hne : TS.code 64 a ≠ TS.code 64 b := fun e => h.2 (code_inj (h2 b hb' a ha') (h1 a ha').2 (h1 b hb').2 e)
  have := h.1
  omega
theorem ddR_len : ∀ rs : List (List Int), (ddR rs).length ≤ rs.length
  | [] => Nat.le_refl _
  | q :: rs => by
    have := ddR_len rs
    unfold ddR
    split <;> simp <;> omega
theorem setSortR_len (rs : List (List Int)) : (setSortR rs).length ≤ rs.length := by
  rw [(setSortR_perm rs).length_eq]; exact ddR_len rs
theorem rowsOf_map : ∀ rs : List (List Int), DL.rowsOf (rs.map rowD) = some rs
  | [] => rfl
  | r :: rs => by
    have e : rowOf (rowD r) = some r := by unfold rowOf rowD; exact intsOf_map r
    simp [DL.rowsOf, e, rowsOf_map rs]
theorem gSetSort_l {rs : List (List Int)} (ok : rowsOk rs = true) : gSetSort (.list (rs.map rowD)) = some (.dat (.list ((setSortR rs).map rowD))) := by
  unfold gSetSort
  simp only [seqOf, rowsOf_map]
  rw [if_pos ok]
theorem gSetSort_t {rs : List (List Int)} (ok : rowsOk rs = true) : gSetSort (.tuple (rs.map rowD)) = some (.dat (.list ((setSortR rs).map rowD))) := by
  unfold gSetSort
  simp only [seqOf, rowsOf_map]
  rw [if_pos ok]
theorem mSS_go {f : EM} {ρ : DL.Env} {d : D} {s : S} (h : f ρ = some (.ok (.dat d), ρ)) (hs : gSetSort d = some s) : mSS f ρ = some (.ok s, ρ) := by
  unfold mSS
  rw [bindD_eq, h, thenD_ok, hs, optS_s]
/-! ### good bars -/
theorem GoodBar.dim {Ls : List Lay} {r : List Int} (hL : ∀ l ∈ Ls, GoodLay l) (h4 : Ls.length ≤ 4) (h : GoodBar Ls r) : r.length = 4 ∧ ∀ n ∈ r, 0 ≤ n ∧ n < 64 := by
  cases h with
  | @mk k j lo hi l hk hj hb =>
    refine ⟨rfl, fun n hn => ?_⟩
    have hjl := (List.getElem?_eq_some_iff.mp hj).1
    have gl := (hL l (List.mem_of_getElem? hj)).top
    unfold barB at hb
    simp only [Bool.and_eq_true, decide_eq_true_eq] at hb
    simp only [List.mem_cons, List.not_mem_nil, or_false] at hn
    rcases hn with rfl | rfl | rfl | rfl <;> omega
theorem rowsOk_of {Ls : List Lay} {rs : List (List Int)} (hL : ∀ l ∈ Ls, GoodLay l) (h4 : Ls.length ≤ 4) (h : ∀ r ∈ rs, GoodBar Ls r) (hl : rs.length < 64) : rowsOk rs = true := by
  unfold rowsOk
  simp only [Bool.and_eq_true, decide_eq_true_eq, List.all_eq_true, beq_iff_eq]
  refine ⟨hl, fun r hr => ⟨⟨?_, (h r hr |>.dim hL h4).2⟩, fun q hq => ?_⟩⟩
  · rw [(h r hr |>.dim hL h4).1]; omega
  · rw [(h r hr |>.dim hL h4).1, (h q hq |>.dim hL h4).1]
theorem sorted_pane {Ls : List Lay} {rs : List (List Int)} (hL : ∀ l ∈ Ls, GoodLay l) (h2 : 2 ≤ Ls.length) (h4 : Ls.length ≤ 4) (h : ∀ r ∈ rs, GoodBar Ls r) (hl : rs.length ≤ 6) : GoodPane Ls (setSortR rs) :=
  ⟨h2, h4, hL, fun b hb => h b (setSortR_mem.mp hb), Nat.le_trans (setSortR_len rs) hl, setSortR_asc (rowsOk_of hL h4 h (by omega))⟩
theorem every_good {Ls : List Lay} (hL : ∀ l ∈ Ls, GoodLay l) {d : D} (h : d ∈ everyD Ls) : ∃ r, d = rowD r ∧ GoodBar Ls r := by
  have hb : barD Ls d = true := allBars_bar (by rw [← every_all hL]; exact h)
  unfold everyD at h
  obtain ⟨k, hk, h⟩ := List.mem_flatMap.mp h
  obtain ⟨j, hj, h⟩ := List.mem_flatMap.mp h
  obtain ⟨k, hk2, rfl⟩ := rng_mem hk
  obtain ⟨j, hj2, rfl⟩ := rng_mem hj
  unfold G3 at h
  obtain ⟨l, _, h⟩ := List.mem_flatMap.mp h
  unfold G4 at h
  obtain ⟨e, _, rfl⟩ := List.mem_map.mp h
  have hjl : Ls[j]? = some Ls[j] := List.getElem?_eq_getElem hj2
  have ta : topAt Ls j = Ls[j].top := by simp [topAt, hjl]
  refine ⟨[(k : Int), (j : Int), (nat l : Nat), (nat e : Nat)], rfl, .mk hk2 hjl ?_⟩
  rw [← ta]
  exact hb
theorem every_len {Ls : List Lay} (hL : ∀ l ∈ Ls, GoodLay l) (h4 : Ls.length ≤ 4) : (everyD Ls).length ≤ 144 := by
  rw [every_all hL]; exact allBars_len Ls h4
theorem every_ne {Ls : List Lay} (hL : ∀ l ∈ Ls, GoodLay l) (h2 : 2 ≤ Ls.length) : everyD Ls ≠ [] := by
  have h1l : 1 < Ls.length := by omega
  have m0 : (.int (0 : Nat) : D) ∈ rngD 0 Ls.length := by unfold rngD; exact List.mem_map.mpr ⟨0, List.mem_range.mpr (by omega), rfl⟩
  have m1 : (.int (1 : Nat) : D) ∈ rngD 0 Ls.length := by unfold rngD; exact List.mem_map.mpr ⟨1, List.mem_range.mpr h1l, rfl⟩
  have hjl : Ls[1]? = some Ls[1] := List.getElem?_eq_getElem h1l
  have ta : topAt Ls (1 : Nat) = Ls[1].top := by simp [topAt, hjl]
  have tp : 1 ≤ topN Ls 1 := by
    unfold topN
    rw [ta]
    have := (hL Ls[1] (List.getElem_mem h1l)).top
    omega
  have g : row4 0 1 0 0 ∈ everyD Ls := by
    unfold everyD
    refine List.mem_flatMap.mpr ⟨_, m0, List.mem_flatMap.mpr ⟨_, m1, ?_⟩⟩
    unfold G3
    refine List.mem_flatMap.mpr ⟨.int (0 : Nat), by unfold rngD; exact List.mem_map.mpr ⟨0, List.mem_range.mpr (by omega), rfl⟩, ?_⟩
    unfold G4
    refine List.mem_map.mpr ⟨.int (0 : Nat), List.mem_filter.mpr ⟨?_, ?_⟩, rfl⟩
    · unfold rngD
      exact List.mem_map.mpr ⟨0, List.mem_range.mpr (by show 0 < topN Ls 1 + 1 - 0; omega), rfl⟩
    · show condB 0 1 (topN Ls 1) 0 0 = true
      unfold condB
      simp
      omega
  exact List.ne_nil_of_mem g
/-! ### _law_pane -/
theorem rows_back {Ls : List Lay} : ∀ {xs : List D}, (∀ x ∈ xs, ∃ r, x = rowD r ∧ GoodBar Ls r) → ∃ rs : List (List Int), xs = rs.map rowD ∧ ∀ r ∈ rs, GoodBar Ls r
  | [], _ => ⟨[], rfl, fun _ h => by simp at h⟩
  | x :: xs, h => by
    obtain ⟨r, rfl, hr⟩ := h x (by simp)
    obtain ⟨rs, rfl, hrs⟩ := rows_back (xs := xs) fun y hy => h y (by simp [hy])
    exact ⟨r :: rs, rfl, fun q hq => by
      rcases List.mem_cons.mp hq with rfl | hq
      · exact hr
      · exact hrs q hq⟩
theorem pane_go {m : Int} {d : List D} {most : Int} (h : Deck m d) (hm : m ≤ 1000) (h2 : 2 ≤ most) (h3 : most ≤ 4) :
    ∃ (Ls : List Lay) (Bs : List (List Int)) (d' : List D), GoodPane Ls Bs ∧ Ls.length < 2 + most - 1 ∧ Bs.length ≤ 3 ∧ Deck (m + 50) d' ∧ m__law_pane [some (.own d), some (.dat (.int most))] = some (.ok (.dat (paneD Ls Bs)), [some (.own d'), some (.dat (.int most))]) := by
  have s1 : asgN 2 2 (mCB gTup' mA0) [some (.own d), some (.dat (.int most)), none, none, none, none] = some (.nx [some (.own d), some (.dat (.int most)), some (.dat (.tuple [])), none, none, none]) := asg_go (ρ1 := [some (.own d), some (.dat (.int most)), none, none, none, none]) (s := .dat (.tuple [])) rfl rfl
  obtain ⟨r1, d1, a1, a2, a3, a4⟩ := pick_call (i := 0) (f := op2 gSub (mV 1) (mC (.int 1))) (ρ := [some (.own d), some (.dat (.int most)), some (.dat (.tuple [])), none, none, none]) (size := most - 1) h (by omega) (by omega) (by omega) rfl rfl
  obtain ⟨n, hn⟩ := Int.eq_ofNat_of_zero_le (show 0 ≤ 2 + r1 by omega)
  have hn2 : 2 ≤ n := by omega
  have hn4 : n ≤ 4 := by omega
  have hi1 : iCB gRng1 (mAc (op2 gAdd (mC (.int 2)) (callM m__law_pick (mAr 0 (mAc (op2 gSub (mV 1) (mC (.int 1))) mA0)))) mA0) [some (.own d), some (.dat (.int most)), some (.dat (.tuple [])), none, none, none] = some (.inl (rngD 0 n), [some (.own d1), some (.dat (.int most)), some (.dat (.tuple [])), none, none, none]) := by
    refine iCB_ok (as := [.dat (.int n)]) (ds := [.int n]) ?_ rfl (gRng1_nat (by omega))
    rw [mAc_ok (add_go rfl a4), mA0_eq, hn]
    rfl
  have l1 : ∃ (Ls : List Lay) (d2 : List D) (t : Option S), Ls.length = n ∧ (∀ l ∈ Ls, GoodLay l) ∧ Deck (m + 21) d2 ∧ forS (iCB gRng1 (mAc (op2 gAdd (mC (.int 2)) (callM m__law_pick (mAr 0 (mAc (op2 gSub (mV 1) (mC (.int 1))) mA0)))) mA0)) (gNm 2 3) (asgN 2 2 (op2 gAdd (mV 2) (mCB gTup' (mAc (callM m__law_layer (mAr 0 mA0)) mA0))))
      [some (.own d), some (.dat (.int most)), some (.dat (.tuple [])), none, none, none] = some (.nx [some (.own d2), some (.dat (.int most)), some (.dat (lays Ls)), t, none, none]) := by
    refine Exists.elim (forS_inv2 (T := gNm 2 3) (fb := asgN 2 2 (op2 gAdd (mV 2) (mCB gTup' (mAc (callM m__law_layer (mAr 0 mA0)) mA0))))
      (fun pre ρ => ∃ (Ls : List Lay) (d2 : List D) (t : Option S), Ls.length = pre.length ∧ (∀ l ∈ Ls, GoodLay l) ∧ Deck (m + 1 + 5 * pre.length) d2 ∧ ρ = [some (.own d2), some (.dat (.int most)), some (.dat (lays Ls)), t, none, none])
      hi1 ⟨[], d1, none, rfl, fun _ h => by simp at h, a3.mono (by simp), rfl⟩ (fun p e q ρ he hI => ?_)) fun ρ' hh => ?_
    · obtain ⟨Ls, d2, t, i1, i2, i3, rfl⟩ := hI
      have hp : p.length < 4 := by
        have := congrArg List.length he
        rw [rngD_len] at this
        simp at this
        omega
      obtain ⟨l, d3, g1, g2, g3⟩ := layer_go i3 (by omega)
      have hc := call_ref1 (i := 0) (ρ := [some (.own d2), some (.dat (.int most)), some (.dat (lays Ls)), some (.dat e), none, none]) rfl g3
      have hs : asgN 2 2 (op2 gAdd (mV 2) (mCB gTup' (mAc (callM m__law_layer (mAr 0 mA0)) mA0))) [some (.own d2), some (.dat (.int most)), some (.dat (lays Ls)), some (.dat e), none, none] = some (.nx [some (.own d3), some (.dat (.int most)), some (.dat (lays (Ls ++ [l]))), some (.dat e), none, none]) := by
        refine asg_go (s := .dat (lays (Ls ++ [l]))) (ρ1 := [some (.own d3), some (.dat (.int most)), some (.dat (lays Ls)), some (.dat e), none, none]) ?_ rfl
        rw [op2_eq, show mV 2 [some (.own d2), some (.dat (.int most)), some (.dat (lays Ls)), some (.dat e), none, none] = some (.ok (.dat (lays Ls)), [some (.own d2), some (.dat (.int most)), some (.dat (lays Ls)), some (.dat e), none, none]) from rfl, thenD_ok, mCB_eq, mAc_ok hc, mA0_eq, consA_in, thenA_in]
        simp only [datsOf_cons, datsOf_nil, Option.map_some, optB_s]
        rw [gTup_ok (by simp), optS_s, thenD_ok]
        unfold lays
        rw [gAdd_t (by unfold big; simp; omega), optD_s]
        simp
      exact ⟨[some (.own d2), some (.dat (.int most)), some (.dat (lays Ls)), some (.dat e), none, none], by simp [gNm], _, .inl hs, Ls ++ [l], d3, some (.dat e), by simp [i1], fun x hx => by
        rcases List.mem_append.mp hx with hx | hx
        · exact i2 x hx
        · simp at hx; subst hx; exact g1, g2.mono (by simp; omega), rfl⟩
    · obtain ⟨h1, Ls, d2, t, i1, i2, i3, rfl⟩ := hh
      rw [rngD_len] at i1 i3
      exact ⟨Ls, d2, t, i1, i2, i3.mono (by omega), h1⟩
  obtain ⟨Ls, d2, t, i1, hL, i3, hfor1⟩ := l1
  have h4 : Ls.length ≤ 4 := by omega
  have hev := e_every_bar hL h4
  have we := fun ρ => callK_dat (ρ := ρ) hev
  simp only [List.map] at we
  have s2 : parS 2 [4, 5] [mCB gLstO mA0, callM m__law_every_bar (mAc (mV 2) mA0)] [some (.own d2), some (.dat (.int most)), some (.dat (lays Ls)), t, none, none] = some (.nx [some (.own d2), some (.dat (.int most)), some (.dat (lays Ls)), t, some (.own []), some (.dat (.list (everyD Ls)))]) :=
    par2_go (np := 2) (i := 4) (j := 5) (s := .own []) (t := .dat (.list (everyD Ls))) (ρ1 := [some (.own d2), some (.dat (.int most)), some (.dat (lays Ls)), t, none, none]) (ρ2 := [some (.own d2), some (.dat (.int most)), some (.dat (lays Ls)), t, none, none]) (by simp) (by simp [we]) rfl rfl
  obtain ⟨r4, d3, b1, b2, b3, b4⟩ := pick_call (i := 0) (f := mC (.int 4)) (ρ := [some (.own d2), some (.dat (.int most)), some (.dat (lays Ls)), t, some (.own []), some (.dat (.list (everyD Ls)))]) (size := 4) i3 (by omega) (by omega) (by omega) rfl rfl
  obtain ⟨n4, rfl⟩ := Int.eq_ofNat_of_zero_le b1
  have hi2 : iCB gRng1 (mAc (callM m__law_pick (mAr 0 (mAc (mC (.int 4)) mA0))) mA0) [some (.own d2), some (.dat (.int most)), some (.dat (lays Ls)), t, some (.own []), some (.dat (.list (everyD Ls)))] = some (.inl (rngD 0 n4), [some (.own d3), some (.dat (.int most)), some (.dat (lays Ls)), t, some (.own []), some (.dat (.list (everyD Ls)))]) := by
    refine iCB_ok (as := [.dat (.int n4)]) (ds := [.int n4]) ?_ rfl (gRng1_nat (by omega))
    rw [mAc_ok b4, mA0_eq]
    rfl
  have hne := every_ne hL (by omega)
  have hlen := every_len hL h4
  have l2 : ∃ (rs : List (List Int)) (d4 : List D) (t' : Option S), rs.length ≤ 3 ∧ (∀ r ∈ rs, GoodBar Ls r) ∧ Deck (m + 26) d4 ∧ forS (iCB gRng1 (mAc (callM m__law_pick (mAr 0 (mAc (mC (.int 4)) mA0))) mA0)) (gNm 2 3) (appO 4 (callM m__law_one (mAr 0 (mAc (mV 5) mA0))))
      [some (.own d2), some (.dat (.int most)), some (.dat (lays Ls)), t, some (.own []), some (.dat (.list (everyD Ls)))] = some (.nx [some (.own d4), some (.dat (.int most)), some (.dat (lays Ls)), t', some (.own (rs.map rowD)), some (.dat (.list (everyD Ls)))]) := by
    refine Exists.elim (forS_inv2 (T := gNm 2 3) (fb := appO 4 (callM m__law_one (mAr 0 (mAc (mV 5) mA0))))
      (fun pre ρ => ∃ (rs : List (List Int)) (d4 : List D) (t' : Option S), rs.length = pre.length ∧ (∀ r ∈ rs, GoodBar Ls r) ∧ Deck (m + 22 + pre.length) d4 ∧ ρ = [some (.own d4), some (.dat (.int most)), some (.dat (lays Ls)), t', some (.own (rs.map rowD)), some (.dat (.list (everyD Ls)))])
      hi2 ⟨[], d3, t, rfl, fun _ h => by simp at h, b3.mono (by simp; omega), rfl⟩ (fun p e q ρ he hI => ?_)) fun ρ' hh => ?_
    · obtain ⟨rs, d4, t', j1, j2, j3, rfl⟩ := hI
      have hp : p.length < 4 := by
        have := congrArg List.length he
        rw [rngD_len] at this
        simp at this
        omega
      obtain ⟨x, d5, g1, g2, g3⟩ := one_call (i := 0) (f := mV 5) (ρ := [some (.own d4), some (.dat (.int most)), some (.dat (lays Ls)), some (.dat e), some (.own (rs.map rowD)), some (.dat (.list (everyD Ls)))]) j3 (by omega) hne (by omega) rfl rfl
      obtain ⟨r, rfl, hr⟩ := every_good hL g1
      have ha := appO_ok (i := 4) (ρ := [some (.own d4), some (.dat (.int most)), some (.dat (lays Ls)), some (.dat e), some (.own (rs.map rowD)), some (.dat (.list (everyD Ls)))]) (ρ1 := [some (.own d5), some (.dat (.int most)), some (.dat (lays Ls)), some (.dat e), some (.own (rs.map rowD)), some (.dat (.list (everyD Ls)))]) (xs := rs.map rowD) (ys := rs.map rowD) rfl g3 rfl rfl (by unfold big; simp; omega)
      exact ⟨[some (.own d4), some (.dat (.int most)), some (.dat (lays Ls)), some (.dat e), some (.own (rs.map rowD)), some (.dat (.list (everyD Ls)))], by simp [gNm], _, .inl ha, rs ++ [r], d5, some (.dat e), by simp [j1], fun x hx => by
        rcases List.mem_append.mp hx with hx | hx
        · exact j2 x hx
        · simp at hx; subst hx; exact hr, g2.mono (by simp; omega), by simp⟩
    · obtain ⟨h1, rs, d4, t', j1, j2, j3, rfl⟩ := hh
      rw [rngD_len] at j1 j3
      exact ⟨rs, d4, t', by omega, j2, j3.mono (by omega), h1⟩
  obtain ⟨rs, d4, t', j1, j2, j3, hfor2⟩ := l2
  have GP := sorted_pane hL (by omega) h4 j2 (by omega)
  have ok := rowsOk_of hL h4 j2 (by omega)
  have fin : frzS 2 4 (retS' (mCB gTup' (mAc (mV 2) (mAc (mCB gTuple (mAc (mSS (mV 4)) mA0)) mA0)))) [some (.own d4), some (.dat (.int most)), some (.dat (lays Ls)), t', some (.own (rs.map rowD)), some (.dat (.list (everyD Ls)))]
      = some (.rt (.dat (paneD Ls (setSortR rs))) [some (.own d4), some (.dat (.int most)), some (.dat (lays Ls)), t', some (.dat (.list (rs.map rowD))), some (.dat (.list (everyD Ls)))]) := by
    rw [frzS_ok (np := 2) (i := 4) (by omega) rfl]
    refine ret_go ?_
    have hss : mSS (mV 4) [some (.own d4), some (.dat (.int most)), some (.dat (lays Ls)), t', some (.dat (.list (rs.map rowD))), some (.dat (.list (everyD Ls)))] = some (.ok (.dat (.list ((setSortR rs).map rowD))), [some (.own d4), some (.dat (.int most)), some (.dat (lays Ls)), t', some (.dat (.list (rs.map rowD))), some (.dat (.list (everyD Ls)))]) := mSS_go rfl (gSetSort_l ok)
    simp [hss, gTuple_l, paneD, rowsT]
  have hb : b__law_pane [some (.own d), some (.dat (.int most)), none, none, none, none] = some (.rt (.dat (paneD Ls (setSortR rs))) [some (.own d4), some (.dat (.int most)), some (.dat (lays Ls)), t', some (.dat (.list (rs.map rowD))), some (.dat (.list (everyD Ls)))]) :=
    seq_nx s1 (seq_nx hfor1 (seq_nx s2 (seq_nx hfor2 fin)))
  refine ⟨Ls, setSortR rs, d4, GP, by omega, Nat.le_trans (setSortR_len rs) j1, j3.mono (by omega), ?_⟩
  show runK 2 [some (.own d), some (.dat (.int most))] (b__law_pane [some (.own d), some (.dat (.int most)), none, none, none, none]) = _
  rw [hb]
  simp
end M

namespace M
open PySem PySem.Spec L2 DL
/-! ### every bar, ascending -/
def Rl (d e : D) : Prop := ∃ a b : List Int, d = rowD a ∧ e = rowD b ∧ HT.lexLt a b = true
theorem rngD_pw (a n : Nat) : (rngD a n).Pairwise fun x y => nat x < nat y := by
  unfold rngD
  rw [List.pairwise_map]
  refine List.Pairwise.imp (fun {i j} (h : i < j) => ?_) List.pairwise_lt_range
  show ((a : Int) + i).toNat < ((a : Int) + j).toNat
  omega
theorem rl4 {k j l h h' : Nat} (q : h < h') : Rl (row4 k j l h) (row4 k j l h') := ⟨[k, j, l, h], [k, j, l, h'], rfl, rfl, by
  have : ¬ (h : Int) = h' := by omega
  simp [HT.lexLt, this]; omega⟩
theorem rl3 {k j l l' h h' : Nat} (q : l < l') : Rl (row4 k j l h) (row4 k j l' h') := ⟨[k, j, l, h], [k, j, l', h'], rfl, rfl, by
  have : ¬ (l : Int) = l' := by omega
  simp [HT.lexLt, this]; omega⟩
theorem rl2 {k j j' l l' h h' : Nat} (q : j < j') : Rl (row4 k j l h) (row4 k j' l' h') := ⟨[k, j, l, h], [k, j', l', h'], rfl, rfl, by
  have : ¬ (j : Int) = j' := by omega
  simp [HT.lexLt, this]; omega⟩
theorem rl1 {k k' j j' l l' h h' : Nat} (q : k < k') : Rl (row4 k j l h) (row4 k' j' l' h') := ⟨[k, j, l, h], [k', j', l', h'], rfl, rfl, by
  have : ¬ (k : Int) = k' := by omega
  simp [HT.lexLt, this]; omega⟩
theorem G4_mem {k j t l : Nat} {d : D} (h : d ∈ G4 k j t l) : ∃ e : Nat, d = row4 k j l e := by
  unfold G4 at h
  obtain ⟨e, _, rfl⟩ := List.mem_map.mp h
  exact ⟨_, rfl⟩
theorem G3_mem {k j t : Nat} {d : D} (h : d ∈ G3 k j t) : ∃ l e : Nat, d = row4 k j l e := by
  unfold G3 at h
  obtain ⟨l, _, h⟩ := List.mem_flatMap.mp h
  obtain ⟨e, rfl⟩ := G4_mem h
  exact ⟨_, _, rfl⟩
theorem G4_pw (k j t l : Nat) : (G4 k j t l).Pairwise Rl := by
  unfold G4
  rw [List.pairwise_map]
  exact ((rngD_pw l _).filter _).imp fun h => rl4 h
theorem G3_pw (k j t : Nat) : (G3 k j t).Pairwise Rl := by
  unfold G3
  rw [List.pairwise_flatMap]
  refine ⟨fun x _ => G4_pw _ _ _ _, ((rngD_pw 0 _)).imp fun {a b} h x hx y hy => ?_⟩
  obtain ⟨e, rfl⟩ := G4_mem hx
  obtain ⟨e', rfl⟩ := G4_mem hy
  exact rl3 h
theorem every_pw (Ls : List Lay) : (everyD Ls).Pairwise Rl := by
  unfold everyD
  rw [List.pairwise_flatMap]
  refine ⟨fun k _ => ?_, (rngD_pw 0 _).imp fun {a b} h x hx y hy => ?_⟩
  · rw [List.pairwise_flatMap]
    refine ⟨fun j _ => G3_pw _ _ _, (rngD_pw 0 _).imp fun {a b} h x hx y hy => ?_⟩
    obtain ⟨_, _, rfl⟩ := G3_mem hx
    obtain ⟨_, _, rfl⟩ := G3_mem hy
    exact rl2 h
  · obtain ⟨_, _, hx⟩ := List.mem_flatMap.mp hx
    obtain ⟨_, _, hy⟩ := List.mem_flatMap.mp hy
    obtain ⟨_, _, rfl⟩ := G3_mem hx
    obtain ⟨_, _, rfl⟩ := G3_mem hy
    exact rl1 h
theorem rowD_inj {a b : List Int} (h : rowD a = rowD b) : a = b := by
  unfold rowD at h
  have h1 : a.map PyData.int = b.map PyData.int := by simpa using h
  exact (List.map_inj_right fun x y e => by simpa using e).mp h1
theorem every_rows {Ls : List Lay} (hL : ∀ l ∈ Ls, GoodLay l) : ∃ rs : List (List Int), everyD Ls = rs.map rowD ∧ (∀ r ∈ rs, GoodBar Ls r) ∧ rs.Pairwise fun a b => HT.lexLt a b = true := by
  obtain ⟨rs, h1, h2⟩ := rows_back fun x hx => every_good hL hx
  have h3 := every_pw Ls
  rw [h1, List.pairwise_map] at h3
  exact ⟨rs, h1, h2, h3.imp fun {a b} ⟨c, d, e1, e2, e3⟩ => by rw [rowD_inj e1, rowD_inj e2]; exact e3⟩
/-! ### the two answers -/
theorem GoodPane.ne {Ls : List Lay} {Bs : List (List Int)} (G : GoodPane Ls Bs) : ∀ b ∈ Bs, b ≠ [] := fun b hb => by
  have := (G.bar b hb).dim G.lay G.four
  intro e; rw [e] at this; simp at this
def answer (Ls : List Lay) (Bs : List (List Int)) : D := .list (sortD (changed (lays Ls) (Bs.map rowD) (everyD Ls)))
theorem ans_all {Ls : List Lay} {Bs : List (List Int)} (G : GoodPane Ls Bs) : (∀ b ∈ everyD Ls, inOk b (Bs.map rowD) = true) ∧ (∀ b ∈ everyD Ls, sortable (Bs.map rowD ++ [b]) = true) ∧ sortable (changed (lays Ls) (Bs.map rowD) (everyD Ls)) = true ∧ (everyD Ls).length ≤ 1000 := by
  refine ⟨fun b hb => ?_, fun b hb => ?_, changed_sortable G.six (fun d hd => ?_) (by have := every_len G.lay G.four; omega), by have := every_len G.lay G.four; omega⟩
  · obtain ⟨r, rfl, _⟩ := every_good G.lay hb
    exact rows_inOk
  · obtain ⟨r, rfl, hr⟩ := every_good G.lay hb
    refine add_sorted G.ne (fun e => ?_) G.six
    have := hr.dim G.lay G.four
    rw [e] at this; simp at this
  · obtain ⟨r, rfl, _⟩ := every_good G.lay hd
    exact ⟨r, rfl⟩
theorem e_bar_changes {Ls : List Lay} {Bs : List (List Int)} (G : GoodPane Ls Bs) : Ans m_bar_changes [paneD Ls Bs] (answer Ls Bs) := by
  obtain ⟨h1, h2, h3, h4⟩ := ans_all G
  have ha := e_all_bars G.four
  rw [← every_all G.lay] at ha
  have hc := e_bars_changed ha (by simpa using G.six) h1 h2 h3 h4
  have w1 := fun ρ => callK_dat (ρ := ρ) (e_need_window G)
  have w2 := fun ρ => callK_dat (ρ := ρ) hc
  simp only [List.map] at w1 w2
  have hb : b_bar_changes [some (.dat (paneD Ls Bs))] = some (.rt (.dat (answer Ls Bs)) [some (.dat (paneD Ls Bs))]) := by
    refine seq_nx (ρ1 := [some (.dat (paneD Ls Bs))]) ?_ (ret_go ?_)
    · simp [w1]
    · rw [callM_eq, mAc_ok (show mV 0 [some (.dat (paneD Ls Bs))] = some (.ok (.dat (paneD Ls Bs)), [some (.dat (paneD Ls Bs))]) from rfl), mA0_eq, consA_in, thenA_in]
      exact w2 _
  exact Ans_run rfl hb (by simp)
theorem e_law_changes {Ls : List Lay} {Bs : List (List Int)} (G : GoodPane Ls Bs) : Ans m__law_bars_changed [paneD Ls Bs] (answer Ls Bs) := by
  obtain ⟨h1, h2, h3, h4⟩ := ans_all G
  exact e_law_bars_changed (e_every_bar G.lay G.four) (by simpa using G.six) h1 h2 h3 h4
theorem same_row (n : Nat) (r : List Int) (h : r.length ≤ big) : sameOk (n + 2) (rowD r) = true := by
  unfold rowD
  simp only [sameOk, Bool.and_eq_true, decide_eq_true_eq, List.all_eq_true]
  refine ⟨by simpa using h, fun x hx => ?_⟩
  obtain ⟨i, _, rfl⟩ := List.mem_map.mp hx
  rfl
theorem same_answer {Ls : List Lay} {Bs : List (List Int)} (G : GoodPane Ls Bs) : sameOk 8 (answer Ls Bs) = true := by
  obtain ⟨h1, h2, h3, h4⟩ := ans_all G
  unfold answer
  simp only [sameOk, Bool.and_eq_true, decide_eq_true_eq, List.all_eq_true]
  have hl := changed_len (Ls := Ls) (Bs := Bs) (every := everyD Ls) G.six h4
  have rowy4 : ∀ d ∈ everyD Ls, ∃ r : List Int, d = rowD r ∧ r.length = 4 := fun d hd => by
    obtain ⟨r, rfl, hr⟩ := every_good G.lay hd
    exact ⟨r, rfl, (hr.dim G.lay G.four).1⟩
  have bar4 : ∀ b ∈ Bs.map rowD, ∃ r : List Int, b = rowD r ∧ r.length = 4 := fun b hb => by
    obtain ⟨r, hr, rfl⟩ := List.mem_map.mp hb
    exact ⟨r, rfl, ((G.bar r hr).dim G.lay G.four).1⟩
  refine ⟨by rw [(sortD_perm _).length_eq]; unfold big; omega, fun x hx => ?_⟩
  have hx := (sortD_perm _).mem_iff.mp hx
  have key : ∃ rs : List D, x = .tuple [lays Ls, .tuple rs] ∧ rs.length ≤ 7 ∧ ∀ d ∈ rs, ∃ r : List Int, d = rowD r ∧ r.length = 4 := by
    have h6 := G.six
    unfold changed at hx
    rcases List.mem_append.mp hx with h | h
    · unfold delsD at h
      obtain ⟨i, _, rfl⟩ := List.mem_map.mp h
      refine ⟨_, rfl, by simp; omega, fun d hd => bar4 d ?_⟩
      rcases List.mem_append.mp hd with hd | hd
      · exact List.mem_of_mem_take hd
      · exact List.mem_of_mem_drop hd
    · split at h
      · unfold addsD addD at h
        obtain ⟨b, hb, rfl⟩ := List.mem_map.mp h
        have hb' := (List.mem_filter.mp hb).1
        refine ⟨_, rfl, by rw [(sortD_perm _).length_eq]; simp; omega, fun d hd => ?_⟩
        have := (sortD_perm _).mem_iff.mp hd
        rcases List.mem_append.mp this with hd | hd
        · exact bar4 d hd
        · simp at hd
          subst hd
          exact rowy4 _ hb'
      · simp at h
  obtain ⟨rs, rfl, hr1, hr2⟩ := key
  have sl : sameOk 6 (lays Ls) = true := by
    unfold lays
    simp only [sameOk, Bool.and_eq_true, decide_eq_true_eq, List.all_eq_true]
    refine ⟨by have := G.four; unfold big; simp; omega, fun y hy => ?_⟩
    obtain ⟨l, _, rfl⟩ := List.mem_map.mp hy
    simp [layD, sameOk]
  have sr : sameOk 6 (.tuple rs) = true := by
    simp only [sameOk, Bool.and_eq_true, decide_eq_true_eq, List.all_eq_true]
    refine ⟨by unfold big; omega, fun y hy => ?_⟩
    obtain ⟨r, rfl, h4⟩ := hr2 y hy
    exact same_row 3 r (by unfold big; omega)
  show (decide ([lays Ls, PyData.tuple rs].length ≤ big) && [lays Ls, PyData.tuple rs].all (sameOk 6)) = true
  simp [sl, sr]
end M

namespace M
open PySem PySem.Spec L2 DL
theorem callK_own {F : EM} {ds xs : List D} {ρ ρ' : DL.Env} (hl : ρ'.length = ds.length) (h : F (ds.map fun d => some (.dat d)) = some (.ok (.own xs), ρ')) : callK F (ds.map Arg.dat) ρ = some (.ok (.own xs), ρ) := by
  unfold callK
  rw [refs_dat]
  have e : argEnv (ds.map Arg.dat) ρ = ds.map fun d => some (.dat d) := by simp [argEnv, argS]
  rw [e, h]
  simp [nodupN, optB, hl, putBack_dat]
theorem deck_go (cell : Int) : ∃ d, Deck 10 d ∧ m__law_deck [some (.dat (.int cell)), some (.dat (.int 10))] = some (.ok (.own d), [some (.dat (.int cell)), some (.dat (.int 10))]) := by
  obtain ⟨r1, r2⟩ := fmod_rng (i := cell) (j := 2147483579) (by omega)
  have hp : ∀ ρ, op2 gPow (mC (.int 10)) (mC (.int 18)) ρ = some (.ok (.dat (.int (10 ^ 18))), ρ) := fun ρ => op2_go rfl rfl (by rw [gPow_ok (by decide)]; rfl)
  have hm : ∀ ρ, op2 gMod (mV 0) (mC (.int 2147483579)) (some (.dat (.int cell)) :: ρ) = some (.ok (.dat (.int (cell.fmod 2147483579))), some (.dat (.int cell)) :: ρ) := fun ρ => op2_go rfl rfl (gMod_ok (by omega))
  have ht : op2 gGe (mV 0) (op2 gPow (mC (.int 10)) (mC (.int 18))) [some (.dat (.int cell)), some (.dat (.int 10))] = some (.ok (.dat (.bool (decide (10 ^ 18 ≤ cell)))), [some (.dat (.int cell)), some (.dat (.int 10))]) := op2_go rfl (hp _) rfl
  by_cases hc : (10 : Int) ^ 18 ≤ cell
  · refine ⟨deckD (cell - 10 ^ 18) (cell.fmod 2147483579) 10, ⟨_, _, _, rfl, r1, r2, by omega, by omega⟩, ?_⟩
    rw [decide_eq_true hc] at ht
    have hb : b__law_deck [some (.dat (.int cell)), some (.dat (.int 10))] = some (.rt (.own (deckD (cell - 10 ^ 18) (cell.fmod 2147483579) 10)) [some (.dat (.int cell)), some (.dat (.int 10))]) := by
      refine seq_rt ((if_t ht).trans (ret_go ?_))
      have hsub : op2 gSub (mV 0) (op2 gPow (mC (.int 10)) (mC (.int 18))) [some (.dat (.int cell)), some (.dat (.int 10))] = some (.ok (.dat (.int (cell - 10 ^ 18))), [some (.dat (.int cell)), some (.dat (.int 10))]) := op2_go rfl (hp _) rfl
      rw [mCB_eq, mAc_ok hsub, mAc_ok (hm _), mAc_ok (show mV 1 [some (.dat (.int cell)), some (.dat (.int 10))] = some (.ok (.dat (.int 10)), [some (.dat (.int cell)), some (.dat (.int 10))]) from rfl), mA0_eq]
      simp only [consA_in, thenA_in, datsOf_cons, datsOf_nil, Option.map_some, optB_s]
      unfold gLstO
      rw [if_pos (by simp)]
      rfl
    show runK 2 [some (.dat (.int cell)), some (.dat (.int 10))] (b__law_deck [some (.dat (.int cell)), some (.dat (.int 10))]) = _
    rw [hb]
    simp
  · refine ⟨deckD 0 (cell.fmod 2147483579) 10, ⟨_, _, _, rfl, r1, r2, by omega, by omega⟩, ?_⟩
    rw [decide_eq_false hc] at ht
    have hb : b__law_deck [some (.dat (.int cell)), some (.dat (.int 10))] = some (.rt (.own (deckD 0 (cell.fmod 2147483579) 10)) [some (.dat (.int cell)), some (.dat (.int 10))]) := by
      refine seq_nx ((if_f ht).trans nextS_eq) (ret_go ?_)
      rw [mCB_eq, mAc_ok mC_eq, mAc_ok (hm _), mAc_ok (show mV 1 [some (.dat (.int cell)), some (.dat (.int 10))] = some (.ok (.dat (.int 10)), [some (.dat (.int cell)), some (.dat (.int 10))]) from rfl), mA0_eq]
      simp only [consA_in, thenA_in, datsOf_cons, datsOf_nil, Option.map_some, optB_s]
      unfold gLstO
      rw [if_pos (by simp)]
      rfl
    show runK 2 [some (.dat (.int cell)), some (.dat (.int 10))] (b__law_deck [some (.dat (.int cell)), some (.dat (.int 10))]) = _
    rw [hb]
    simp
/-! ### a known pane -/
def L0 : List Lay := [⟨1, 0, 0, "within", "still"⟩, ⟨1, -1, 0, "within", "still"⟩]
def B0 : List (List Int) := [[0, 1, 1, 1]]
theorem good0 : GoodPane L0 B0 := by
  refine ⟨by decide, by decide, fun l hl => ?_, fun b hb => ?_, by decide, by simp [B0]⟩
  · simp only [L0, List.mem_cons, List.not_mem_nil, or_false] at hl
    rcases hl with rfl | rfl
    · exact ⟨.inl rfl, by decide, by decide, by simp [memD, PyData.eqv], by simp [memD, PyData.eqv]⟩
    · exact ⟨.inl rfl, by decide, by decide, by simp [memD, PyData.eqv], by simp [memD, PyData.eqv]⟩
  · simp only [B0, List.mem_cons, List.not_mem_nil, or_false] at hb
    subst hb
    exact .mk (k := 0) (j := 1) (l := ⟨1, -1, 0, "within", "still"⟩) (by decide) rfl (by decide)
theorem known_go : ∃ xs : List D, Ans m__law_known [] (.list xs) ∧ gIx (.list xs) (.int 0) = some (paneD L0 B0) := by
  refine ⟨_, ⟨[], rfl, by simp [m__law_known, b__law_known, gTp, gCs, gNl, gNm]; rfl⟩, rfl⟩
theorem len0 : (changed (lays L0) (B0.map rowD) (everyD L0)).length = 4 := by
  have e1 : everyD L0 = [row4 0 1 0 0, row4 0 1 1 1, row4 1 0 0 0, row4 1 0 1 1] := by rfl
  have m1 : memD (row4 0 1 0 0) (B0.map rowD) = false := by simp [memD, B0, rowD, row4, PyData.eqv, PyData.eqvAll]
  have m2 : memD (row4 0 1 1 1) (B0.map rowD) = true := by simp [memD, B0, rowD, row4, PyData.eqv, PyData.eqvAll]
  have m3 : memD (row4 1 0 0 0) (B0.map rowD) = false := by simp [memD, B0, rowD, row4, PyData.eqv, PyData.eqvAll]
  have m4 : memD (row4 1 0 1 1) (B0.map rowD) = false := by simp [memD, B0, rowD, row4, PyData.eqv, PyData.eqvAll]
  have hb : (B0.map rowD).length = 1 := rfl
  unfold changed delsD addsD
  rw [e1, List.length_append, List.length_map, rngD_len, hb, if_pos (by omega)]
  simp [List.filter_cons, m1, m2, m3, m4]
/-! ### the law -/
theorem take_sub {xs : List Int} {n : Nat} : ∀ d ∈ (PyData.int 0 :: xs.map PyData.int).take n, ∃ i : Int, d = .int i := fun d hd => by
  have := List.mem_of_mem_take hd
  rcases List.mem_cons.mp this with rfl | h
  · exact ⟨_, rfl⟩
  · obtain ⟨i, _, rfl⟩ := List.mem_map.mp h
    exact ⟨i, rfl⟩
section
variable {sc : D} {cell : Int} {p0 p1 p2 p3 : Option S}
/-- one pane is held to both -/
theorem same_test {f : EM} {ρ : DL.Env} {Ls : List Lay} {Bs : List (List Int)} (G : GoodPane Ls Bs) (h : f ρ = some (.ok (.dat (paneD Ls Bs)), ρ)) : callM (m__law_same 8) (mAc (callM m_bar_changes (mAc f mA0)) (mAc (callM m__law_bars_changed (mAc f mA0)) mA0)) ρ = some (.ok (.dat (.bool true)), ρ) := by
  have w1 := callK_dat (ρ := ρ) (e_bar_changes G)
  have w2 := callK_dat (ρ := ρ) (e_law_changes G)
  have w3 := callK_dat (ρ := ρ) (e_same 8 _ (same_answer G))
  simp only [List.map] at w1 w2 w3
  have c1 : callM m_bar_changes (mAc f mA0) ρ = some (.ok (.dat (answer Ls Bs)), ρ) := by
    rw [callM_eq, mAc_ok h, mA0_eq, consA_in, thenA_in]; exact w1
  have c2 : callM m__law_bars_changed (mAc f mA0) ρ = some (.ok (.dat (answer Ls Bs)), ρ) := by
    rw [callM_eq, mAc_ok h, mA0_eq, consA_in, thenA_in]; exact w2
  rw [callM_eq, mAc_ok c1, mAc_ok c2, mA0_eq]
  simp only [consA_in, thenA_in]
  exact w3
theorem same_if {ρ : DL.Env} {i : Nat} {Ls : List Lay} {Bs : List (List Int)} (G : GoodPane Ls Bs) (h : mV i ρ = some (.ok (.dat (paneD Ls Bs)), ρ)) :
    mNot (callM (m__law_same 8) (mAc (callM m_bar_changes (mAc (mV i) mA0)) (mAc (callM m__law_bars_changed (mAc (mV i) mA0)) mA0))) ρ = some (.ok (.dat (.bool false)), ρ) := by
  rw [mNot_eq, same_test G h, thenD_ok, boolK_b, if_pos rfl, retD_eq]
theorem every_call {f : EM} {ρ : DL.Env} {Ls : List Lay} (hL : ∀ l ∈ Ls, GoodLay l) (h4 : Ls.length ≤ 4) (h : f ρ = some (.ok (.dat (lays Ls)), ρ)) : callM m__law_every_bar (mAc f mA0) ρ = some (.ok (.dat (.list (everyD Ls))), ρ) := by
  have w := callK_dat (ρ := ρ) (e_every_bar hL h4)
  simp only [List.map] at w
  rw [callM_eq, mAc_ok h, mA0_eq, consA_in, thenA_in]
  exact w
theorem gIx_0 {L R : D} : gIx (.tuple [L, R]) (.int 0) = some L := rfl
theorem gIx_1 {L R : D} : gIx (.tuple [L, R]) (.int 1) = some R := rfl
theorem ix0 {i : Nat} {ρ : DL.Env} {L R : D} (h : mV i ρ = some (.ok (.dat (.tuple [L, R])), ρ)) : op2 gIx (mV i) (mC (.int 0)) ρ = some (.ok (.dat L), ρ) := op2_go h rfl gIx_0
theorem ix1 {i : Nat} {ρ : DL.Env} {L R : D} (h : mV i ρ = some (.ok (.dat (.tuple [L, R])), ρ)) : op2 gIx (mV i) (mC (.int 1)) ρ = some (.ok (.dat R), ρ) := op2_go h rfl gIx_1
theorem len_go {f : EM} {ρ : DL.Env} {xs : List D} (h : f ρ = some (.ok (.dat (.tuple xs)), ρ)) : mCB gLen (mAc f mA0) ρ = some (.ok (.dat (.int xs.length)), ρ) := by
  rw [mCB_eq, mAc_ok h, mA0_eq, consA_in, thenA_in]; rfl
theorem len_gol {f : EM} {ρ : DL.Env} {xs : List D} (h : f ρ = some (.ok (.dat (.list xs)), ρ)) : mCB gLen (mAc f mA0) ρ = some (.ok (.dat (.int xs.length)), ρ) := by
  rw [mCB_eq, mAc_ok h, mA0_eq, consA_in, thenA_in]; rfl
theorem tup_go {f : EM} {ρ : DL.Env} {xs : List D} (h : f ρ = some (.ok (.dat (.list xs)), ρ)) : mCB gTuple (mAc f mA0) ρ = some (.ok (.dat (.tuple xs)), ρ) := by
  rw [mCB_eq, mAc_ok h, mA0_eq, consA_in, thenA_in]; rfl
theorem pair_go {f g : EM} {ρ ρ1 ρ2 : DL.Env} {x y : D} (h : f ρ = some (.ok (.dat x), ρ1)) (h2 : g ρ1 = some (.ok (.dat y), ρ2)) : mCB gTup' (mAc f (mAc g mA0)) ρ = some (.ok (.dat (.tuple [x, y])), ρ2) := by
  rw [mCB_eq, mAc_ok h, mAc_ok h2, mA0_eq, consA_in, consA_in, thenA_in]
  simp only [datsOf_cons, datsOf_nil, Option.map_some, optB_s]
  rw [gTup_ok (by simp), optS_s]
theorem sing_go {f : EM} {ρ ρ1 : DL.Env} {x : D} (h : f ρ = some (.ok (.dat x), ρ1)) : mCB gTup' (mAc f mA0) ρ = some (.ok (.dat (.tuple [x])), ρ1) := by
  rw [mCB_eq, mAc_ok h, mA0_eq, consA_in, thenA_in]
  simp only [datsOf_cons, datsOf_nil, Option.map_some, optB_s]
  rw [gTup_ok (by simp), optS_s]
/-- a bar more -/
theorem more_go {m : Int} {d : List D} {Ls : List Lay} {Bs : List (List Int)} (h : Deck m d) (hm : m ≤ 100000) (G : GoodPane Ls Bs) {t w x : Option S} :
    ∃ (Bs' : List (List Int)) (d' : List D) (x' : Option S), GoodPane Ls Bs' ∧ Deck (m + 1) d' ∧ ifS (op2 gLt (mCB gLen (mAc (op2 gIx (mV 3) (mC (.int 1))) mA0)) (mC (.int 6))) (seqS (asgN 1 6 (op2 gAdd (op2 gIx (mV 3) (mC (.int 1))) (mCB gTup' (mAc (callM m__law_one (mAr 2 (mAc (callM m__law_every_bar (mAc (op2 gIx (mV 3) (mC (.int 0))) mA0)) mA0))) mA0)))) (asgN 1 3 (mCB gTup' (mAc (op2 gIx (mV 3) (mC (.int 0))) (mAc (mCB gTuple (mAc (mSS (mV 6)) mA0)) mA0))))) nextS
      [some (.dat sc), some (.dat (.int cell)), some (.own d), some (.dat (paneD Ls Bs)), t, w, x] = some (.nx [some (.dat sc), some (.dat (.int cell)), some (.own d'), some (.dat (paneD Ls Bs')), t, w, x']) := by
  have hlen : mCB gLen (mAc (op2 gIx (mV 3) (mC (.int 1))) mA0) [some (.dat sc), some (.dat (.int cell)), some (.own d), some (.dat (paneD Ls Bs)), t, w, x] = some (.ok (.dat (.int Bs.length)), [some (.dat sc), some (.dat (.int cell)), some (.own d), some (.dat (paneD Ls Bs)), t, w, x]) := by
    have := len_go (ρ := [some (.dat sc), some (.dat (.int cell)), some (.own d), some (.dat (paneD Ls Bs)), t, w, x]) (ix1 (i := 3) (L := lays Ls) (R := rowsT Bs) rfl)
    simpa using this
  have ht : op2 gLt (mCB gLen (mAc (op2 gIx (mV 3) (mC (.int 1))) mA0)) (mC (.int 6)) [some (.dat sc), some (.dat (.int cell)), some (.own d), some (.dat (paneD Ls Bs)), t, w, x] = some (.ok (.dat (.bool (decide ((Bs.length : Int) < 6)))), [some (.dat sc), some (.dat (.int cell)), some (.own d), some (.dat (paneD Ls Bs)), t, w, x]) := op2_go hlen rfl gLt_ii
  by_cases h6 : (Bs.length : Int) < 6
  · rw [decide_eq_true h6] at ht
    have hne := every_ne G.lay G.two
    have hlen := every_len G.lay G.four
    obtain ⟨y, d', g1, g2, g3⟩ := one_call (i := 2) (f := callM m__law_every_bar (mAc (op2 gIx (mV 3) (mC (.int 0))) mA0)) (ρ := [some (.dat sc), some (.dat (.int cell)), some (.own d), some (.dat (paneD Ls Bs)), t, w, x]) h (by omega) hne (by omega) rfl (every_call G.lay G.four (ix0 (i := 3) (R := rowsT Bs) rfl))
    obtain ⟨r, rfl, hr⟩ := every_good G.lay g1
    have hall : ∀ q ∈ Bs ++ [r], GoodBar Ls q := fun q hq => by
      rcases List.mem_append.mp hq with hq | hq
      · exact G.bar q hq
      · simp at hq; subst hq; exact hr
    have hl7 : (Bs ++ [r]).length ≤ 6 := by simp; omega
    have GP := sorted_pane G.lay G.two G.four hall hl7
    have ok := rowsOk_of G.lay G.four hall (by omega)
    have s1 : asgN 1 6 (op2 gAdd (op2 gIx (mV 3) (mC (.int 1))) (mCB gTup' (mAc (callM m__law_one (mAr 2 (mAc (callM m__law_every_bar (mAc (op2 gIx (mV 3) (mC (.int 0))) mA0)) mA0))) mA0))) [some (.dat sc), some (.dat (.int cell)), some (.own d), some (.dat (paneD Ls Bs)), t, w, x] = some (.nx [some (.dat sc), some (.dat (.int cell)), some (.own d'), some (.dat (paneD Ls Bs)), t, w, some (.dat (.tuple ((Bs ++ [r]).map rowD)))]) := by
      refine asg_go (s := .dat (.tuple ((Bs ++ [r]).map rowD))) (ρ1 := [some (.dat sc), some (.dat (.int cell)), some (.own d'), some (.dat (paneD Ls Bs)), t, w, x]) ?_ rfl
      rw [op2_eq, ix1 (i := 3) (L := lays Ls) (R := rowsT Bs) rfl, thenD_ok, sing_go g3, thenD_ok]
      unfold rowsT
      rw [gAdd_t (by unfold big; simp; omega), optD_s]
      simp
    have hss : mSS (mV 6) [some (.dat sc), some (.dat (.int cell)), some (.own d'), some (.dat (paneD Ls Bs)), t, w, some (.dat (.tuple ((Bs ++ [r]).map rowD)))] = some (.ok (.dat (.list ((setSortR (Bs ++ [r])).map rowD))), [some (.dat sc), some (.dat (.int cell)), some (.own d'), some (.dat (paneD Ls Bs)), t, w, some (.dat (.tuple ((Bs ++ [r]).map rowD)))]) := mSS_go rfl (gSetSort_t ok)
    have s2 : asgN 1 3 (mCB gTup' (mAc (op2 gIx (mV 3) (mC (.int 0))) (mAc (mCB gTuple (mAc (mSS (mV 6)) mA0)) mA0))) [some (.dat sc), some (.dat (.int cell)), some (.own d'), some (.dat (paneD Ls Bs)), t, w, some (.dat (.tuple ((Bs ++ [r]).map rowD)))] = some (.nx [some (.dat sc), some (.dat (.int cell)), some (.own d'), some (.dat (paneD Ls (setSortR (Bs ++ [r])))), t, w, some (.dat (.tuple ((Bs ++ [r]).map rowD)))]) :=
      asg_go (pair_go (ix0 (i := 3) (R := rowsT Bs) rfl) (tup_go hss)) rfl
    exact ⟨_, d', _, GP, g2, (if_t ht).trans (seq_nx s1 s2)⟩
  · rw [decide_eq_false h6] at ht
    exact ⟨Bs, d, x, G, h.mono (by omega), (if_f ht).trans nextS_eq⟩
end
end M

namespace K10
open PySem PySem.Spec L2 DL M
theorem turn_go {sc : D} {cell : Int} {p2 p3 p4 p5 p6 : Option S} : ∃ q2 q3 q4 q5 q6 : Option S,
    seqS (asgN 1 2 (callM m__law_deck (mAc (mV 1) (mAc (mC (.int 10)) mA0)))) (seqS (asgN 1 3 (callM m__law_pane (mAr 2 (mAc (mC (.int 3)) mA0)))) (seqS (forS (iCB gRng1 (mAc (callM m__law_pick (mAr 2 (mAc (mC (.int 4)) mA0))) mA0)) (gNm 1 4) (ifS (op2 gLt (mCB gLen (mAc (op2 gIx (mV 3) (mC (.int 1))) mA0)) (mC (.int 6))) (seqS (asgN 1 6 (op2 gAdd (op2 gIx (mV 3) (mC (.int 1))) (mCB gTup' (mAc (callM m__law_one (mAr 2 (mAc (callM m__law_every_bar (mAc (op2 gIx (mV 3) (mC (.int 0))) mA0)) mA0))) mA0)))) (asgN 1 3 (mCB gTup' (mAc (op2 gIx (mV 3) (mC (.int 0))) (mAc (mCB gTuple (mAc (mSS (mV 6)) mA0)) mA0))))) nextS)) (seqS (ifS (mNot (callM (m__law_same 8) (mAc (callM m_bar_changes (mAc (mV 3) mA0)) (mAc (callM m__law_bars_changed (mAc (mV 3) mA0)) mA0)))) (retS' (mC (.bool false))) nextS) (seqS (asgN 1 5 (mCB gTup' (mAc (op2 gIx (mV 3) (mC (.int 0))) (mAc (mCB gTuple (mAc (mSl gSl (callM m__law_every_bar (mAc (op2 gIx (mV 3) (mC (.int 0))) mA0)) mNoPart (mPart (mC (.int 6)))) mA0)) mA0)))) (ifS (mAnd (op2 gEq (mCB gLen (mAc (op2 gIx (mV 5) (mC (.int 1))) mA0)) (mC (.int 6))) (mNot (callM (m__law_same 8) (mAc (callM m_bar_changes (mAc (mV 5) mA0)) (mAc (callM m__law_bars_changed (mAc (mV 5) mA0)) mA0))))) (retS' (mC (.bool false))) nextS)))))
      [some (.dat sc), some (.dat (.int cell)), p2, p3, p4, p5, p6] = some (.nx [some (.dat sc), some (.dat (.int cell)), q2, q3, q4, q5, q6]) := by
  obtain ⟨d0, g0, hd0⟩ := deck_go cell
  have s1 : asgN 1 2 (callM m__law_deck (mAc (mV 1) (mAc (mC (.int 10)) mA0))) [some (.dat sc), some (.dat (.int cell)), p2, p3, p4, p5, p6] = some (.nx [some (.dat sc), some (.dat (.int cell)), some (.own d0), p3, p4, p5, p6]) := by
    have w := callK_own (ds := [.int cell, .int 10]) (ρ := [some (.dat sc), some (.dat (.int cell)), p2, p3, p4, p5, p6]) rfl hd0
    simp only [List.map] at w
    refine asg_go (s := .own d0) (ρ1 := [some (.dat sc), some (.dat (.int cell)), p2, p3, p4, p5, p6]) ?_ rfl
    rw [callM_eq, mAc_ok (show mV 1 [some (.dat sc), some (.dat (.int cell)), p2, p3, p4, p5, p6] = some (.ok (.dat (.int cell)), [some (.dat sc), some (.dat (.int cell)), p2, p3, p4, p5, p6]) from rfl), mAc_ok mC_eq, mA0_eq]
    simp only [consA_in, thenA_in]
    exact w
  obtain ⟨Ls, Bs, d1, G, hl3, hb3, g1, hp⟩ := pane_go g0 (by omega) (show (2 : Int) ≤ 3 by omega) (by omega)
  have s2 := asg_go (np := 1) (i := 3) (call_ref2 (i := 2) (f := mC (.int 3)) (ρ := [some (.dat sc), some (.dat (.int cell)), some (.own d0), p3, p4, p5, p6]) rfl rfl hp) rfl
  obtain ⟨r4, d2, b1, b2, b3, b4⟩ := pick_call (i := 2) (f := mC (.int 4)) (ρ := [some (.dat sc), some (.dat (.int cell)), some (.own d1), some (.dat (paneD Ls Bs)), p4, p5, p6]) (size := 4) g1 (by omega) (by omega) (by omega) rfl rfl
  obtain ⟨n4, rfl⟩ := Int.eq_ofNat_of_zero_le b1
  have hi2 : iCB gRng1 (mAc (callM m__law_pick (mAr 2 (mAc (mC (.int 4)) mA0))) mA0) [some (.dat sc), some (.dat (.int cell)), some (.own d1), some (.dat (paneD Ls Bs)), p4, p5, p6] = some (.inl (rngD 0 n4), [some (.dat sc), some (.dat (.int cell)), some (.own d2), some (.dat (paneD Ls Bs)), p4, p5, p6]) := by
    refine iCB_ok (as := [.dat (.int n4)]) (ds := [.int n4]) ?_ rfl (gRng1_nat (by omega))
    rw [mAc_ok b4, mA0_eq]
    rfl
  have l3 : ∃ (Bs' : List (List Int)) (d3 : List D) (t x : Option S), GoodPane Ls Bs' ∧ forS (iCB gRng1 (mAc (callM m__law_pick (mAr 2 (mAc (mC (.int 4)) mA0))) mA0)) (gNm 1 4) (ifS (op2 gLt (mCB gLen (mAc (op2 gIx (mV 3) (mC (.int 1))) mA0)) (mC (.int 6))) (seqS (asgN 1 6 (op2 gAdd (op2 gIx (mV 3) (mC (.int 1))) (mCB gTup' (mAc (callM m__law_one (mAr 2 (mAc (callM m__law_every_bar (mAc (op2 gIx (mV 3) (mC (.int 0))) mA0)) mA0))) mA0)))) (asgN 1 3 (mCB gTup' (mAc (op2 gIx (mV 3) (mC (.int 0))) (mAc (mCB gTuple (mAc (mSS (mV 6)) mA0)) mA0))))) nextS)
      [some (.dat sc), some (.dat (.int cell)), some (.own d1), some (.dat (paneD Ls Bs)), p4, p5, p6] = some (.nx [some (.dat sc), some (.dat (.int cell)), some (.own d3), some (.dat (paneD Ls Bs')), t, p5, x]) := by
    refine Exists.elim (forS_inv2 (T := gNm 1 4) (fb := ifS (op2 gLt (mCB gLen (mAc (op2 gIx (mV 3) (mC (.int 1))) mA0)) (mC (.int 6))) (seqS (asgN 1 6 (op2 gAdd (op2 gIx (mV 3) (mC (.int 1))) (mCB gTup' (mAc (callM m__law_one (mAr 2 (mAc (callM m__law_every_bar (mAc (op2 gIx (mV 3) (mC (.int 0))) mA0)) mA0))) mA0)))) (asgN 1 3 (mCB gTup' (mAc (op2 gIx (mV 3) (mC (.int 0))) (mAc (mCB gTuple (mAc (mSS (mV 6)) mA0)) mA0))))) nextS)
      (fun pre ρ => ∃ (Bs' : List (List Int)) (d3 : List D) (t x : Option S), GoodPane Ls Bs' ∧ Deck (70 + pre.length) d3 ∧ ρ = [some (.dat sc), some (.dat (.int cell)), some (.own d3), some (.dat (paneD Ls Bs')), t, p5, x])
      hi2 ⟨Bs, d2, p4, p6, G, b3.mono (by simp), rfl⟩ (fun p e q ρ he hI => ?_)) fun ρ' hh => ?_
    · obtain ⟨Bs', d3, t, x, i1, i2, rfl⟩ := hI
      have hpl : p.length < 4 := by
        have := congrArg List.length he
        rw [rngD_len] at this
        simp at this
        omega
      obtain ⟨Bs2, d4, x', k1, k2, k3⟩ := more_go (sc := sc) (cell := cell) i2 (by omega) i1 (t := some (.dat e)) (w := p5) (x := x)
      exact ⟨[some (.dat sc), some (.dat (.int cell)), some (.own d3), some (.dat (paneD Ls Bs')), some (.dat e), p5, x], by simp [gNm], _, .inl k3, Bs2, d4, some (.dat e), x', k1, k2.mono (by simp; omega), rfl⟩
    · obtain ⟨h1, Bs', d3, t, x, i1, _, rfl⟩ := hh
      exact ⟨Bs', d3, t, x, i1, h1⟩
  obtain ⟨Bs', d3, t, x, G', hfor⟩ := l3
  have s4 : ifS (mNot (callM (m__law_same 8) (mAc (callM m_bar_changes (mAc (mV 3) mA0)) (mAc (callM m__law_bars_changed (mAc (mV 3) mA0)) mA0)))) (retS' (mC (.bool false))) nextS [some (.dat sc), some (.dat (.int cell)), some (.own d3), some (.dat (paneD Ls Bs')), t, p5, x] = some (.nx [some (.dat sc), some (.dat (.int cell)), some (.own d3), some (.dat (paneD Ls Bs')), t, p5, x]) :=
    (if_f (same_if G' rfl)).trans nextS_eq
  obtain ⟨rs, hrs, hgood, hasc⟩ := every_rows G.lay
  have hev := every_call (f := op2 gIx (mV 3) (mC (.int 0))) (ρ := [some (.dat sc), some (.dat (.int cell)), some (.own d3), some (.dat (paneD Ls Bs')), t, p5, x]) G.lay G.four (ix0 (i := 3) (R := rowsT Bs') rfl)
  have hcut : mSl gSl (callM m__law_every_bar (mAc (op2 gIx (mV 3) (mC (.int 0))) mA0)) mNoPart (mPart (mC (.int 6))) [some (.dat sc), some (.dat (.int cell)), some (.own d3), some (.dat (paneD Ls Bs')), t, p5, x] = some (.ok (.dat (.list ((rs.take 6).map rowD))), [some (.dat sc), some (.dat (.int cell)), some (.own d3), some (.dat (paneD Ls Bs')), t, p5, x]) := by
    rw [mSl_eq, hev, thenD_ok, mNoPart_eq, thenO_in, mPart_eq, mC_eq, partK_ok, thenO_in]
    have := cut_to (xs := everyD Ls) (n := 6)
    show optD (some (.list (cutD (everyD Ls) none (some 6)))) _ = _
    rw [show ((6 : Nat) : Int) = 6 from rfl] at this
    rw [this, hrs, List.map_take]
    rfl
  have s5 : asgN 1 5 (mCB gTup' (mAc (op2 gIx (mV 3) (mC (.int 0))) (mAc (mCB gTuple (mAc (mSl gSl (callM m__law_every_bar (mAc (op2 gIx (mV 3) (mC (.int 0))) mA0)) mNoPart (mPart (mC (.int 6)))) mA0)) mA0))) [some (.dat sc), some (.dat (.int cell)), some (.own d3), some (.dat (paneD Ls Bs')), t, p5, x] = some (.nx [some (.dat sc), some (.dat (.int cell)), some (.own d3), some (.dat (paneD Ls Bs')), t, some (.dat (paneD Ls (rs.take 6))), x]) :=
    asg_go (s := .dat (paneD Ls (rs.take 6))) (pair_go (ix0 (i := 3) (R := rowsT Bs') rfl) (tup_go hcut)) rfl
  have GW : GoodPane Ls (rs.take 6) := ⟨G.two, G.four, G.lay, fun b hb => hgood b (List.mem_of_mem_take hb), by simp; omega, hasc.sublist (List.take_sublist _ _)⟩
  have hlen : mCB gLen (mAc (op2 gIx (mV 5) (mC (.int 1))) mA0) [some (.dat sc), some (.dat (.int cell)), some (.own d3), some (.dat (paneD Ls Bs')), t, some (.dat (paneD Ls (rs.take 6))), x] = some (.ok (.dat (.int ((rs.take 6).map rowD).length)), [some (.dat sc), some (.dat (.int cell)), some (.own d3), some (.dat (paneD Ls Bs')), t, some (.dat (paneD Ls (rs.take 6))), x]) := len_go (ix1 (i := 5) (L := lays Ls) (R := rowsT (rs.take 6)) rfl)
  have s6 : ifS (mAnd (op2 gEq (mCB gLen (mAc (op2 gIx (mV 5) (mC (.int 1))) mA0)) (mC (.int 6))) (mNot (callM (m__law_same 8) (mAc (callM m_bar_changes (mAc (mV 5) mA0)) (mAc (callM m__law_bars_changed (mAc (mV 5) mA0)) mA0))))) (retS' (mC (.bool false))) nextS [some (.dat sc), some (.dat (.int cell)), some (.own d3), some (.dat (paneD Ls Bs')), t, some (.dat (paneD Ls (rs.take 6))), x] = some (.nx [some (.dat sc), some (.dat (.int cell)), some (.own d3), some (.dat (paneD Ls Bs')), t, some (.dat (paneD Ls (rs.take 6))), x]) := by
    refine (if_f ?_).trans nextS_eq
    have hq : ∃ b, op2 gEq (mCB gLen (mAc (op2 gIx (mV 5) (mC (.int 1))) mA0)) (mC (.int 6)) [some (.dat sc), some (.dat (.int cell)), some (.own d3), some (.dat (paneD Ls Bs')), t, some (.dat (paneD Ls (rs.take 6))), x] = some (.ok (.dat (.bool b)), [some (.dat sc), some (.dat (.int cell)), some (.own d3), some (.dat (paneD Ls Bs')), t, some (.dat (paneD Ls (rs.take 6))), x]) := ⟨_, op2_go hlen rfl rfl⟩
    obtain ⟨b, hq⟩ := hq
    rw [mAnd_eq, hq, thenD_ok, boolK_b]
    cases b with
    | true => rw [if_pos rfl]; exact same_if GW rfl
    | false => rw [if_neg (by simp), retD_eq]
  exact ⟨_, _, _, _, _, seq_nx s1 (seq_nx s2 (seq_nx hfor (seq_nx s4 (seq_nx s5 s6))))⟩
theorem law_true (ns : List Int) (hl : ns.length ≤ 63) : ∃ ρ', m_law [some (.dat (.list (ns.map .int)))] = some (.ok (.dat (.bool true)), ρ') := by
  obtain ⟨xs, hk, hx⟩ := known_go
  have hi : iSeq (mSl gSl (op2 gAdd (mCB gLst (mAc (mC (.int 0)) mA0)) (mV 0)) mNoPart (mPart (mC (.int 10)))) [some (.dat (.list (ns.map .int))), none, none, none, none, none, none] = some (.inl ((PyData.int 0 :: ns.map PyData.int).take 10), [some (.dat (.list (ns.map .int))), none, none, none, none, none, none]) := by
    refine iSeq_ok (d := .list ((PyData.int 0 :: ns.map PyData.int).take 10)) ?_ rfl
    have h0 : mCB gLst (mAc (mC (.int 0)) mA0) [some (.dat (.list (ns.map .int))), none, none, none, none, none, none] = some (.ok (.dat (.list [.int 0])), [some (.dat (.list (ns.map .int))), none, none, none, none, none, none]) := by
      rw [mCB_eq, mAc_ok mC_eq, mA0_eq, consA_in, thenA_in]
      rfl
    have ha : op2 gAdd (mCB gLst (mAc (mC (.int 0)) mA0)) (mV 0) [some (.dat (.list (ns.map .int))), none, none, none, none, none, none] = some (.ok (.dat (.list (PyData.int 0 :: ns.map PyData.int))), [some (.dat (.list (ns.map .int))), none, none, none, none, none, none]) := op2_go h0 rfl (gAdd_l (by unfold big; simp; omega))
    rw [mSl_eq, ha, thenD_ok, mNoPart_eq, thenO_in, mPart_eq, mC_eq, partK_ok, thenO_in]
    have := cut_to (xs := PyData.int 0 :: ns.map PyData.int) (n := 10)
    show optD (some (.list (cutD _ none (some 10)))) _ = _
    rw [show ((10 : Nat) : Int) = 10 from rfl] at this
    rw [this]
    rfl
  obtain ⟨ρ', h1, q1, q2, q3, q4, q5, q6, rfl⟩ := forS_inv2 (T := gNm 1 1) (fb := seqS (asgN 1 2 (callM m__law_deck (mAc (mV 1) (mAc (mC (.int 10)) mA0)))) (seqS (asgN 1 3 (callM m__law_pane (mAr 2 (mAc (mC (.int 3)) mA0)))) (seqS (forS (iCB gRng1 (mAc (callM m__law_pick (mAr 2 (mAc (mC (.int 4)) mA0))) mA0)) (gNm 1 4) (ifS (op2 gLt (mCB gLen (mAc (op2 gIx (mV 3) (mC (.int 1))) mA0)) (mC (.int 6))) (seqS (asgN 1 6 (op2 gAdd (op2 gIx (mV 3) (mC (.int 1))) (mCB gTup' (mAc (callM m__law_one (mAr 2 (mAc (callM m__law_every_bar (mAc (op2 gIx (mV 3) (mC (.int 0))) mA0)) mA0))) mA0)))) (asgN 1 3 (mCB gTup' (mAc (op2 gIx (mV 3) (mC (.int 0))) (mAc (mCB gTuple (mAc (mSS (mV 6)) mA0)) mA0))))) nextS)) (seqS (ifS (mNot (callM (m__law_same 8) (mAc (callM m_bar_changes (mAc (mV 3) mA0)) (mAc (callM m__law_bars_changed (mAc (mV 3) mA0)) mA0)))) (retS' (mC (.bool false))) nextS) (seqS (asgN 1 5 (mCB gTup' (mAc (op2 gIx (mV 3) (mC (.int 0))) (mAc (mCB gTuple (mAc (mSl gSl (callM m__law_every_bar (mAc (op2 gIx (mV 3) (mC (.int 0))) mA0)) mNoPart (mPart (mC (.int 6)))) mA0)) mA0)))) (ifS (mAnd (op2 gEq (mCB gLen (mAc (op2 gIx (mV 5) (mC (.int 1))) mA0)) (mC (.int 6))) (mNot (callM (m__law_same 8) (mAc (callM m_bar_changes (mAc (mV 5) mA0)) (mAc (callM m__law_bars_changed (mAc (mV 5) mA0)) mA0))))) (retS' (mC (.bool false))) nextS))))))
    (fun _ ρ => ∃ q1 q2 q3 q4 q5 q6 : Option S, ρ = [some (.dat (.list (ns.map .int))), q1, q2, q3, q4, q5, q6]) hi ⟨none, none, none, none, none, none, rfl⟩ (fun p d q ρ e hI => by
      obtain ⟨q1, q2, q3, q4, q5, q6, rfl⟩ := hI
      obtain ⟨i, rfl⟩ := take_sub d (by rw [e]; simp)
      obtain ⟨r2, r3, r4, r5, r6, hr⟩ := turn_go (sc := .list (ns.map .int)) (cell := i) (p2 := q2) (p3 := q3) (p4 := q4) (p5 := q5) (p6 := q6)
      exact ⟨[some (.dat (.list (ns.map .int))), some (.dat (.int i)), q2, q3, q4, q5, q6], by simp [gNm], _, .inl hr, _, r2, r3, r4, r5, r6, rfl⟩)
  have wk := callK_dat (ρ := [some (.dat (.list (ns.map .int))), q1, q2, q3, q4, q5, q6]) hk
  have wb := callK_dat (ρ := [some (.dat (.list (ns.map .int))), q1, q2, q3, q4, q5, q6]) (e_bar_changes good0)
  simp only [List.map] at wk wb
  have hkn : op2 gIx (callM m__law_known mA0) (mC (.int 0)) [some (.dat (.list (ns.map .int))), q1, q2, q3, q4, q5, q6] = some (.ok (.dat (paneD L0 B0)), [some (.dat (.list (ns.map .int))), q1, q2, q3, q4, q5, q6]) :=
    op2_go (by rw [callM_eq, mA0_eq, thenA_in]; exact wk) rfl hx
  have hbc : callM m_bar_changes (mAc (op2 gIx (callM m__law_known mA0) (mC (.int 0))) mA0) [some (.dat (.list (ns.map .int))), q1, q2, q3, q4, q5, q6] = some (.ok (.dat (answer L0 B0)), [some (.dat (.list (ns.map .int))), q1, q2, q3, q4, q5, q6]) := by
    rw [callM_eq, mAc_ok hkn, mA0_eq, consA_in, thenA_in]; exact wb
  have hle : (sortD (changed (lays L0) (B0.map rowD) (everyD L0))).length = 4 := by rw [(sortD_perm _).length_eq]; exact len0
  have fin : retS' (op2 gEq (mCB gLen (mAc (callM m_bar_changes (mAc (op2 gIx (callM m__law_known mA0) (mC (.int 0))) mA0)) mA0)) (mC (.int 4))) [some (.dat (.list (ns.map .int))), q1, q2, q3, q4, q5, q6] = some (.rt (.dat (.bool true)) [some (.dat (.list (ns.map .int))), q1, q2, q3, q4, q5, q6]) := by
    refine ret_go (op2_go (len_gol hbc) rfl ?_)
    rw [hle]
    simp [gEq, eqOk, PyData.eqv]
  have hb : b_law [some (.dat (.list (ns.map .int))), none, none, none, none, none, none] = some (.rt (.dat (.bool true)) [some (.dat (.list (ns.map .int))), q1, q2, q3, q4, q5, q6]) := seq_nx h1 fin
  refine ⟨restP [some (.dat (.list (ns.map .int)))] [some (.dat (.list (ns.map .int))), q1, q2, q3, q4, q5, q6], ?_⟩
  show runK 1 [some (.dat (.list (ns.map .int)))] (b_law [some (.dat (.list (ns.map .int))), none, none, none, none, none, none]) = _
  rw [hb, runK_rt, if_pos (by simp)]
end K10

namespace K10
open PySem PySem.Spec L2 DL M
def top (i : Nat) : Stmt := PySem.Challenge.pw_sashscreens_k10_windows_with_a_bar_less.main.body.getD i (.Pass ⟨0, 0, 0, 0⟩)
abbrev Df (K : PySem.W.Frag) (mg : Str → Option Value) (x : Str) (st : Stmt) : Prop := ∃ f fd, mg x = some (.ref f) ∧ FunD K x x (defArgs st) (defBody st) (defScope st) [] [] f fd
structure Facts (Pr : Program) (w : World) (K : PySem.W.Frag) (mg : Str → Option Value) (base : Heap) : Prop where
  bi : Bi mg
  c_HANDS : ∃ a, mg "HANDS" = some (.ref a) ∧ ∀ H, Dp K H (.ref a) c_HANDS
  c_WINDS : ∃ a, mg "WINDS" = some (.ref a) ∧ ∀ H, Dp K H (.ref a) c_WINDS
  c_MOST_BARS : ∃ t, mg "MOST_BARS" = some (.int 6 t)
  d_is_within : Df K mg "is_within" (top 7)
  d_is_word : Df K mg "is_word" (top 8)
  d_is_layer : Df K mg "is_layer" (top 9)
  d_is_bar : Df K mg "is_bar" (top 10)
  d_is_window_value : Df K mg "is_window_value" (top 11)
  d_need_window : Df K mg "need_window" (top 12)
  d_all_bars : Df K mg "all_bars" (top 14)
  d_bars_changed : Df K mg "bars_changed" (top 15)
  d_bar_changes : Df K mg "bar_changes" (top 16)
  d__law_deck : Df K mg "_law_deck" (top 18)
  d__law_pick : Df K mg "_law_pick" (top 19)
  d__law_one : Df K mg "_law_one" (top 20)
  d__law_sort : Df K mg "_law_sort" (top 21)
  d__law_same : Df K mg "_law_same" (top 22)
  d__law_layer : Df K mg "_law_layer" (top 23)
  d__law_every_bar : Df K mg "_law_every_bar" (top 24)
  d__law_pane : Df K mg "_law_pane" (top 25)
  d__law_known : Df K mg "_law_known" (top 26)
  d__law_bars_changed : Df K mg "_law_bars_changed" (top 27)
  d_law : Df K mg "law" (top 28)
section
variable {Pr : Program} {w : World} {K : PySem.W.Frag} {mg : Str → Option Value} {base : Heap}
abbrev s_is_within : Stmt := top 7
theorem sc_is_within : FnScope ["value", "low", "high"] ["value", "low", "high"] (defScope s_is_within) := ⟨rfl, rfl, rfl, by decide +kernel, rfl, by decide +kernel, by decide +kernel⟩
theorem ok_is_within (Φ : Facts Pr w K mg base) : FnD Pr w K mg base "is_within" 2 ["value", "low", "high"] m_is_within := by
  obtain ⟨f, fd, hm, F⟩ := Φ.d_is_within
  have hb : Binds K fd ["value", "low", "high"] [] := F.bindsN fun _ _ _ _ _ _ us hl => match us, hl with | [_, _, _], _ => rfl
  exact fndQ F hm hb sc_is_within fun cdv A outer s H E hr => (pdb_one (pds_ret (pd_and (p_isInt Φ.bi (pv 0)) (pd_and (pd_not (p_isBool Φ.bi (pv 0))) (pd_one (v_lele (pv 1) (pv 0) (pv 2)))))))
abbrev s_is_word : Stmt := top 8
theorem sc_is_word : FnScope ["value", "words"] ["value", "words"] (defScope s_is_word) := ⟨rfl, rfl, rfl, by decide +kernel, rfl, by decide +kernel, by decide +kernel⟩
theorem ok_is_word (Φ : Facts Pr w K mg base) : FnD Pr w K mg base "is_word" 2 ["value", "words"] m_is_word := by
  obtain ⟨f, fd, hm, F⟩ := Φ.d_is_word
  have hb : Binds K fd ["value", "words"] [] := F.bindsN fun _ _ _ _ _ _ us hl => match us, hl with | [_, _], _ => rfl
  exact fndQ F hm hb sc_is_word fun cdv A outer s H E hr => (pdb_one (pds_ret (pd_and (p_isStr Φ.bi (pv 0)) (pd_one (v_in hr (pv 0) (pv 1))))))
abbrev s_is_layer : Stmt := top 9
theorem sc_is_layer : FnScope ["value"] ["value"] (defScope s_is_layer) := ⟨rfl, rfl, rfl, by decide +kernel, rfl, by decide +kernel, by decide +kernel⟩
theorem ok_is_layer (Φ : Facts Pr w K mg base) : FnD Pr w K mg base "is_layer" 3 ["value"] m_is_layer := by
  obtain ⟨f, fd, hm, F⟩ := Φ.d_is_layer
  have hb : Binds K fd ["value"] [] := F.bindsN fun _ _ _ _ _ _ us hl => match us, hl with | [_], _ => rfl
  exact fndQ F hm hb sc_is_layer fun cdv A outer s H E hr => (pdb_cons (pds_if (pdt_w (pdw_or (pdt_not (pdt_val (p_isTuple Φ.bi (pv 0)))) (pdw_or (t_ne hr (p_len Φ.bi (pv 0)) (pd_int)) (pdw_or1 (pdt_not (pdt_val (pd_call ((ok_is_within Φ).mono (by decide)) hr rfl passL (pda_cons (p_ix (pv 0) (pd_int)) (pda_cons (pd_int) (pda_cons (pd_int) (pda_nil)))) (amc (amc (amc (am0))))))))))) (pdb_one (pds_ret (pd_bl))) (pdb_nil)) (pdb_cons (pds_if (pdt_w (pdw_or (pdt_not (pdt_val (pd_call ((ok_is_within Φ).mono (by decide)) hr rfl passL (pda_cons (p_ix (pv 0) (pd_int)) (pda_cons (p_neg (pd_int)) (pda_cons (p_ix (pv 0) (pd_int)) (pda_nil)))) (amc (amc (amc (am0))))))) (pdw_or1 (pdt_not (pdt_val (pd_call ((ok_is_within Φ).mono (by decide)) hr rfl passL (pda_cons (p_ix (pv 0) (pd_int)) (pda_cons (p_neg (pd_int)) (pda_cons (p_ix (pv 0) (pd_int)) (pda_nil)))) (amc (amc (amc (am0)))))))))) (pdb_one (pds_ret (pd_bl))) (pdb_nil)) (pdb_one (pds_ret (pd_and (pd_call ((ok_is_word Φ).mono (by decide)) hr rfl passL (pda_cons (p_ix (pv 0) (pd_int)) (pda_cons (p_gobj Φ.c_HANDS) (pda_nil))) (amc (amc (am0)))) (pd_one (pd_call ((ok_is_word Φ).mono (by decide)) hr rfl passL (pda_cons (p_ix (pv 0) (pd_int)) (pda_cons (p_gobj Φ.c_WINDS) (pda_nil))) (amc (amc (am0))))))))))
abbrev s_is_bar : Stmt := top 10
theorem sc_is_bar : FnScope ["layers", "value", "top"] ["layers", "value"] (defScope s_is_bar) := ⟨rfl, rfl, rfl, by decide +kernel, rfl, by decide +kernel, by decide +kernel⟩
theorem ok_is_bar (Φ : Facts Pr w K mg base) : FnD Pr w K mg base "is_bar" 3 ["layers", "value"] m_is_bar := by
  obtain ⟨f, fd, hm, F⟩ := Φ.d_is_bar
  have hb : Binds K fd ["layers", "value"] [] := F.bindsN fun _ _ _ _ _ _ us hl => match us, hl with | [_, _], _ => rfl
  exact fndQ F hm hb sc_is_bar fun cdv A outer s H E hr => (pdb_cons (pds_if (pdt_w (pdw_or (pdt_not (pdt_val (p_isTuple Φ.bi (pv 1)))) (pdw_or (t_ne hr (p_len Φ.bi (pv 1)) (pd_int)) (pdw_or1 (pdt_not (pdt_val (pd_call ((ok_is_within Φ).mono (by decide)) hr rfl passL (pda_cons (p_ix (pv 1) (pd_int)) (pda_cons (pd_int) (pda_cons (p_sub (p_len Φ.bi (pv 0)) (pd_int)) (pda_nil)))) (amc (amc (amc (am0))))))))))) (pdb_one (pds_ret (pd_bl))) (pdb_nil)) (pdb_cons (pds_if (pdt_w (pdw_or (pdt_not (pdt_val (pd_call ((ok_is_within Φ).mono (by decide)) hr rfl passL (pda_cons (p_ix (pv 1) (pd_int)) (pda_cons (pd_int) (pda_cons (p_sub (p_len Φ.bi (pv 0)) (pd_int)) (pda_nil)))) (amc (amc (amc (am0))))))) (pdw_or1 (t_eq hr (p_ix (pv 1) (pd_int)) (p_ix (pv 1) (pd_int)))))) (pdb_one (pds_ret (pd_bl))) (pdb_nil)) (pdb_cons (pds_set sc_is_bar.nd (i := 2) rfl (by first | exact .inl rfl | exact .inr rfl) (p_ix (p_ix (pv 0) (p_ix (pv 1) (pd_int))) (pd_int))) (pdb_cons (pds_if (pdt_w (pdw_or (pdt_not (pdt_val (pd_call ((ok_is_within Φ).mono (by decide)) hr rfl passL (pda_cons (p_ix (pv 1) (pd_int)) (pda_cons (pd_int) (pda_cons (pv 2) (pda_nil)))) (amc (amc (amc (am0))))))) (pdw_or1 (pdt_not (pdt_val (pd_call ((ok_is_within Φ).mono (by decide)) hr rfl passL (pda_cons (p_ix (pv 1) (pd_int)) (pda_cons (p_ix (pv 1) (pd_int)) (pda_cons (pv 2) (pda_nil)))) (amc (amc (amc (am0)))))))))) (pdb_one (pds_ret (pd_bl))) (pdb_nil)) (pdb_one (pds_ret (pd_or (v_gt (p_ix (pv 1) (pd_int)) (pd_int)) (pd_one (v_lt hr (p_ix (pv 1) (pd_int)) (pv 2))))))))))
abbrev s_is_window_value : Stmt := top 11
theorem sc_is_window_value : FnScope ["value", "layers", "bars", "one", "other"] ["value"] (defScope s_is_window_value) := ⟨rfl, rfl, rfl, by decide +kernel, rfl, by decide +kernel, by decide +kernel⟩
theorem ok_is_window_value (Φ : Facts Pr w K mg base) : FnD Pr w K mg base "is_window_value" 4 ["value"] m_is_window_value := by
  obtain ⟨f, fd, hm, F⟩ := Φ.d_is_window_value
  have hb : Binds K fd ["value"] [] := F.bindsN fun _ _ _ _ _ _ us hl => match us, hl with | [_], _ => rfl
  exact fndQ F hm hb sc_is_window_value fun cdv A outer s H E hr => (pdb_cons (pds_if (pdt_w (pdw_or (pdt_not (pdt_val (p_isTuple Φ.bi (pv 0)))) (pdw_or (t_ne hr (p_len Φ.bi (pv 0)) (pd_int)) (pdw_or1 (pdt_not (pdt_val (p_isTuple Φ.bi (p_ix (pv 0) (pd_int))))))))) (pdb_one (pds_ret (pd_bl))) (pdb_nil)) (pdb_cons (pds_asg (pv 0) (pdg_tup rfl (pdgs_cons (pdg_name sc_is_window_value.nd rfl (by first | exact .inl rfl | exact .inr rfl)) (pdgs_cons (pdg_name sc_is_window_value.nd rfl (by first | exact .inl rfl | exact .inr rfl)) (pdgs_nil))))) (pdb_cons (pds_if (pdt_w (pdw_or (pdt_not (t_lele (pd_int) (p_len Φ.bi (pv 1)) (pd_int))) (pdw_or1 (pdt_not (pdt_val (p_all Φ.bi rfl (pd_comp (own := [("one", 3)]) (ow := false) rfl sc_is_window_value.nd (pdi_seq (pv 1)) (blkOk_by (by kernel_rfl)) (by decide) (fun _ _ _ _ _ => pdg_name sc_is_window_value.nd rfl (by first | exact .inl rfl | exact .inr rfl)) (fun _ _ _ _ _ => pdts_nil) (fun _ _ _ _ _ => pd_call ((ok_is_layer Φ).mono (by decide)) hr rfl passL (pda_cons (pv 3) (pda_nil)) (amc (am0)))))))))) (pdb_one (pds_ret (pd_bl))) (pdb_nil)) (pdb_cons (pds_if (pdt_w (pdw_or (pdt_not (pdt_val (p_isTuple Φ.bi (pv 2)))) (pdw_or (t_gt (p_len Φ.bi (pv 2)) (p_gint Φ.c_MOST_BARS)) (pdw_or1 (pdt_not (pdt_val (p_all Φ.bi rfl (pd_comp (own := [("one", 3)]) (ow := false) rfl sc_is_window_value.nd (pdi_seq (pv 2)) (blkOk_by (by kernel_rfl)) (by decide) (fun _ _ _ _ _ => pdg_name sc_is_window_value.nd rfl (by first | exact .inl rfl | exact .inr rfl)) (fun _ _ _ _ _ => pdts_nil) (fun _ _ _ _ _ => pd_call ((ok_is_bar Φ).mono (by decide)) hr rfl passL (pda_cons (pv 1) (pda_cons (pv 3) (pda_nil))) (amc (amc (am0)))))))))))) (pdb_one (pds_ret (pd_bl))) (pdb_nil)) (pdb_one (pds_ret (p_all Φ.bi rfl (pd_comp (own := [("one", 3), ("other", 4)]) (ow := false) rfl sc_is_window_value.nd (i_zip Φ.bi (pda_cons (pv 2) (pda_cons (p_sl (pv 2) (pdo_some (pd_int)) (pdo_none)) (pda_nil)))) (blkOk_by (by kernel_rfl)) (by decide) (fun _ _ _ _ _ => pdg_tup rfl (pdgs_cons (pdg_name sc_is_window_value.nd rfl (by first | exact .inl rfl | exact .inr rfl)) (pdgs_cons (pdg_name sc_is_window_value.nd rfl (by first | exact .inl rfl | exact .inr rfl)) (pdgs_nil)))) (fun _ _ _ _ _ => pdts_nil) (fun _ _ _ _ _ => v_lt hr (pv 3) (pv 4))))))))))
abbrev s_need_window : Stmt := top 12
theorem sc_need_window : FnScope ["value"] ["value"] (defScope s_need_window) := ⟨rfl, rfl, rfl, by decide +kernel, rfl, by decide +kernel, by decide +kernel⟩
theorem ok_need_window (Φ : Facts Pr w K mg base) : FnD Pr w K mg base "need_window" 5 ["value"] m_need_window := by
  obtain ⟨f, fd, hm, F⟩ := Φ.d_need_window
  have hb : Binds K fd ["value"] [] := F.bindsN fun _ _ _ _ _ _ us hl => match us, hl with | [_], _ => rfl
  exact fndQ F hm hb sc_need_window fun cdv A outer s H E hr => (pdb_one (pds_if (pdt_not (pdt_val (pd_call ((ok_is_window_value Φ).mono (by decide)) hr rfl passL (pda_cons (pv 0) (pda_nil)) (amc (am0))))) (pdb_one (pds_never)) (pdb_nil)))
abbrev s_all_bars : Stmt := top 14
theorem sc_all_bars : FnScope ["layers", "numbers", "rows", "spans", "one", "other", "low", "high", "row", "span"] ["layers"] (defScope s_all_bars) := ⟨rfl, rfl, rfl, by decide +kernel, rfl, by decide +kernel, by decide +kernel⟩
theorem ok_all_bars (Φ : Facts Pr w K mg base) : FnD Pr w K mg base "all_bars" 4 ["layers"] m_all_bars := by
  obtain ⟨f, fd, hm, F⟩ := Φ.d_all_bars
  have hb : Binds K fd ["layers"] [] := F.bindsN fun _ _ _ _ _ _ us hl => match us, hl with | [_], _ => rfl
  exact fndQ F hm hb sc_all_bars fun cdv A outer s H E hr => (pdb_cons (pds_set sc_all_bars.nd (i := 1) rfl (by first | exact .inl rfl | exact .inr rfl) (p_lr Φ.bi rfl (p_len Φ.bi (pv 0)))) (pdb_cons (pds_setComp2 (own := [("one", 4), ("other", 5)]) (vs1 := [5]) (ow := false) rfl sc_all_bars.nd rfl rfl (sw_true rfl rfl rfl (by decide +kernel)) (pdi_seq (pv 1)) (blkOk_by (by kernel_rfl)) (by decide) (by decide) (by decide) (fun _ _ _ _ _ => pdg_name sc_all_bars.nd rfl (by first | exact .inl rfl | exact .inr rfl)) (fun _ _ _ _ _ => pdts_nil) (fun _ _ _ _ _ => pdi_seq (pv 1)) (fun _ _ _ _ _ => pdg_name sc_all_bars.nd rfl (by first | exact .inl rfl | exact .inr rfl)) (fun _ _ _ _ _ => pdts_nil) (fun _ _ _ _ _ => pd_tup (pda_cons (pv 4) (pda_cons (pv 5) (pda_nil))))) (pdb_cons (pds_set sc_all_bars.nd (i := 3) rfl (by first | exact .inl rfl | exact .inr rfl) (pd_comp2 (own := [("low", 6), ("high", 7)]) (vs1 := [7]) (ow := false) rfl sc_all_bars.nd (i_rng1 Φ.bi (pda_cons (pd_int) (pda_nil))) (blkOk_by (by kernel_rfl)) (by decide) (by decide) (by decide) (fun _ _ _ _ _ => pdg_name sc_all_bars.nd rfl (by first | exact .inl rfl | exact .inr rfl)) (fun _ _ _ _ _ => pdts_nil) (fun _ _ _ _ _ => i_rng1 Φ.bi (pda_cons (pd_int) (pda_nil))) (fun _ _ _ _ _ => pdg_name sc_all_bars.nd rfl (by first | exact .inl rfl | exact .inr rfl)) (fun _ _ _ _ _ => pdts_nil) (fun _ _ _ _ _ => pd_tup (pda_cons (pv 6) (pda_cons (pv 7) (pda_nil)))))) (pdb_one (pds_ret (pd_comp2 (own := [("row", 8), ("span", 9)]) (vs1 := [9]) (ow := false) rfl sc_all_bars.nd (pdi_seq (pv 2)) (blkOk_by (by kernel_rfl)) (by decide) (by decide) (by decide) (fun _ _ _ _ _ => pdg_name sc_all_bars.nd rfl (by first | exact .inl rfl | exact .inr rfl)) (fun _ _ _ _ _ => pdts_nil) (fun _ _ _ _ _ => pdi_seq (pv 3)) (fun _ _ _ _ _ => pdg_name sc_all_bars.nd rfl (by first | exact .inl rfl | exact .inr rfl)) (fun _ _ _ _ _ => pdts_one (pdt_val (pd_call ((ok_is_bar Φ).mono (by decide)) hr rfl passL (pda_cons (pv 0) (pda_cons (p_add (pv 8) (pv 9)) (pda_nil))) (amc (amc (am0)))))) (fun _ _ _ _ _ => p_add (pv 8) (pv 9))))))))
abbrev s_bars_changed : Stmt := top 15
theorem sc_bars_changed : FnScope ["window", "layers", "bars", "found", "at", "bar"] ["window"] (defScope s_bars_changed) := ⟨rfl, rfl, rfl, by decide +kernel, rfl, by decide +kernel, by decide +kernel⟩
theorem ok_bars_changed (Φ : Facts Pr w K mg base) : FnD Pr w K mg base "bars_changed" 5 ["window"] m_bars_changed := by
  obtain ⟨f, fd, hm, F⟩ := Φ.d_bars_changed
  have hb : Binds K fd ["window"] [] := F.bindsN fun _ _ _ _ _ _ us hl => match us, hl with | [_], _ => rfl
  exact fndQ F hm hb sc_bars_changed fun cdv A outer s H E hr => (pdb_cons (pds_asg (pv 0) (pdg_tup rfl (pdgs_cons (pdg_name sc_bars_changed.nd rfl (by first | exact .inl rfl | exact .inr rfl)) (pdgs_cons (pdg_name sc_bars_changed.nd rfl (by first | exact .inl rfl | exact .inr rfl)) (pdgs_nil))))) (pdb_cons (pds_setComp (own := [("at", 4)]) (ow := true) rfl sc_bars_changed.nd rfl rfl (sw_true rfl rfl rfl (by decide +kernel)) (i_rng1 Φ.bi (pda_cons (p_len Φ.bi (pv 2)) (pda_nil))) (blkOk_by (by kernel_rfl)) (by decide) (fun _ _ _ _ _ => pdg_name sc_bars_changed.nd rfl (by first | exact .inl rfl | exact .inr rfl)) (fun _ _ _ _ _ => pdts_nil) (fun _ _ _ _ _ => pd_tup (pda_cons (pv 1) (pda_cons (p_add (p_sl (pv 2) (pdo_none) (pdo_some (pv 4))) (p_sl (pv 2) (pdo_some (p_add (pv 4) (pd_int))) (pdo_none))) (pda_nil))))) (pdb_cons (pds_if (t_lt hr (p_len Φ.bi (pv 2)) (p_gint Φ.c_MOST_BARS)) (pdb_one (pds_iadd sc_bars_changed.nd (i := 3) rfl (by first | exact .inl rfl | exact .inr rfl) (pd_comp (own := [("bar", 5)]) (ow := true) rfl sc_bars_changed.nd (pdi_seq (pd_call ((ok_all_bars Φ).mono (by decide)) hr rfl passL (pda_cons (pv 1) (pda_nil)) (amc (am0)))) (blkOk_by (by kernel_rfl)) (by decide) (fun _ _ _ _ _ => pdg_name sc_bars_changed.nd rfl (by first | exact .inl rfl | exact .inr rfl)) (fun _ _ _ _ _ => pdts_one (t_notin hr (pv 5) (pv 2))) (fun _ _ _ _ _ => pd_tup (pda_cons (pv 1) (pda_cons (p_tuple Φ.bi (p_sorted Φ.bi hr (p_add (pv 2) (pd_tup (pda_cons (pv 5) (pda_nil)))))) (pda_nil))))))) (pdb_nil)) (pdb_frz (i := 3) (pdb_one (pds_ret (p_sorted Φ.bi hr (pv 3))))))))
abbrev s_bar_changes : Stmt := top 16
theorem sc_bar_changes : FnScope ["window"] ["window"] (defScope s_bar_changes) := ⟨rfl, rfl, rfl, by decide +kernel, rfl, by decide +kernel, by decide +kernel⟩
theorem ok_bar_changes (Φ : Facts Pr w K mg base) : FnD Pr w K mg base "bar_changes" 6 ["window"] m_bar_changes := by
  obtain ⟨f, fd, hm, F⟩ := Φ.d_bar_changes
  have hb : Binds K fd ["window"] [] := F.bindsN fun _ _ _ _ _ _ us hl => match us, hl with | [_], _ => rfl
  exact fndQ F hm hb sc_bar_changes fun cdv A outer s H E hr => (pdb_cons (pds_expr (pd_call ((ok_need_window Φ).mono (by decide)) hr rfl passL (pda_cons (pv 0) (pda_nil)) (amc (am0)))) (pdb_one (pds_ret (pd_call ((ok_bars_changed Φ).mono (by decide)) hr rfl passL (pda_cons (pv 0) (pda_nil)) (amc (am0))))))
abbrev s__law_deck : Stmt := top 18
theorem sc__law_deck : FnScope ["cell", "turn"] ["cell", "turn"] (defScope s__law_deck) := ⟨rfl, rfl, rfl, by decide +kernel, rfl, by decide +kernel, by decide +kernel⟩
theorem ok__law_deck (Φ : Facts Pr w K mg base) : FnD Pr w K mg base "_law_deck" 2 ["cell", "turn"] m__law_deck := by
  obtain ⟨f, fd, hm, F⟩ := Φ.d__law_deck
  have hb : Binds K fd ["cell", "turn"] [] := F.bindsN fun _ _ _ _ _ _ us hl => match us, hl with | [_, _], _ => rfl
  exact fndQ F hm hb sc__law_deck fun cdv A outer s H E hr => (pdb_cons (pds_if (t_ge (pv 0) (p_pow (pd_int) (pd_int))) (pdb_one (pds_ret (pd_lstO (pda_cons (p_sub (pv 0) (p_pow (pd_int) (pd_int))) (pda_cons (p_mod (pv 0) (pd_int)) (pda_cons (pv 1) (pda_nil))))))) (pdb_nil)) (pdb_one (pds_ret (pd_lstO (pda_cons (pd_int) (pda_cons (p_mod (pv 0) (pd_int)) (pda_cons (pv 1) (pda_nil))))))))
abbrev s__law_pick : Stmt := top 19
theorem sc__law_pick : FnScope ["deck", "size", "number", "found"] ["deck", "size"] (defScope s__law_pick) := ⟨rfl, rfl, rfl, by decide +kernel, rfl, by decide +kernel, by decide +kernel⟩
theorem ok__law_pick (Φ : Facts Pr w K mg base) : FnD Pr w K mg base "_law_pick" 2 ["deck", "size"] m__law_pick := by
  obtain ⟨f, fd, hm, F⟩ := Φ.d__law_pick
  have hb : Binds K fd ["deck", "size"] [] := F.bindsN fun _ _ _ _ _ _ us hl => match us, hl with | [_, _], _ => rfl
  exact fndQ F hm hb sc__law_pick fun cdv A outer s H E hr => (pdb_cons (pds_if (t_gt (p_oix 0 (pd_int)) (pd_int)) (pdb_cons (pds_set sc__law_pick.nd (i := 3) rfl (by first | exact .inl rfl | exact .inr rfl) (p_mod (p_int Φ.bi (p_oix 0 (pd_int))) (pv 1))) (pdb_cons (pds_oset (i := 0) rfl (by first | exact .inl rfl | exact .inr (.inl rfl) | exact .inr (.inr rfl)) (p_fdiv (p_oix 0 (pd_int)) (pv 1)) (pd_int)) (pdb_one (pds_ret (pv 3))))) (pdb_nil)) (pdb_cons (pds_oset (i := 0) rfl (by first | exact .inl rfl | exact .inr (.inl rfl) | exact .inr (.inr rfl)) (p_add (p_oix 0 (pd_int)) (pd_int)) (pd_int)) (pdb_cons (pds_set sc__law_pick.nd (i := 2) rfl (by first | exact .inl rfl | exact .inr rfl) (p_mod (p_pow (p_add (p_oix 0 (pd_int)) (p_mul (pd_int) (p_oix 0 (pd_int)))) (pd_int)) (pd_int))) (pdb_cons (pds_set sc__law_pick.nd (i := 3) rfl (by first | exact .inl rfl | exact .inr rfl) (p_fdiv (p_mod (p_pow (p_add (pv 2) (p_mul (pd_int) (p_oix 0 (pd_int)))) (pd_int)) (pd_int)) (pd_int))) (pdb_one (pds_ret (p_mod (p_int Φ.bi (pv 3)) (pv 1))))))))
abbrev s__law_one : Stmt := top 20
theorem sc__law_one : FnScope ["deck", "some"] ["deck", "some"] (defScope s__law_one) := ⟨rfl, rfl, rfl, by decide +kernel, rfl, by decide +kernel, by decide +kernel⟩
theorem ok__law_one (Φ : Facts Pr w K mg base) : FnD Pr w K mg base "_law_one" 3 ["deck", "some"] m__law_one := by
  obtain ⟨f, fd, hm, F⟩ := Φ.d__law_one
  have hb : Binds K fd ["deck", "some"] [] := F.bindsN fun _ _ _ _ _ _ us hl => match us, hl with | [_, _], _ => rfl
  exact fndQ F hm hb sc__law_one fun cdv A outer s H E hr => (pdb_one (pds_ret (p_ix (pv 1) (pd_call ((ok__law_pick Φ).mono (by decide)) hr rfl passL (a_ref 0 (pda_cons (p_len Φ.bi (pv 1)) (pda_nil))) (amr (amc (am0)))))))
abbrev s__law_sort : Stmt := top 21
theorem sc__law_sort : FnScope ["thing"] ["thing"] (defScope s__law_sort) := ⟨rfl, rfl, rfl, by decide +kernel, rfl, by decide +kernel, by decide +kernel⟩
theorem ok__law_sort (Φ : Facts Pr w K mg base) : FnD Pr w K mg base "_law_sort" 2 ["thing"] m__law_sort := by
  obtain ⟨f, fd, hm, F⟩ := Φ.d__law_sort
  have hb : Binds K fd ["thing"] [] := F.bindsN fun _ _ _ _ _ _ us hl => match us, hl with | [_], _ => rfl
  exact fndQ F hm hb sc__law_sort fun cdv A outer s H E hr => (pdb_cons (pds_if (pdt_val (p_isBool Φ.bi (pv 0))) (pdb_one (pds_ret (pd_int))) (pdb_nil)) (pdb_cons (pds_if (pdt_val (p_isInt Φ.bi (pv 0))) (pdb_one (pds_ret (pd_int))) (pdb_nil)) (pdb_cons (pds_if (pdt_val (p_isStr Φ.bi (pv 0))) (pdb_one (pds_ret (pd_int))) (pdb_nil)) (pdb_cons (pds_if (pdt_val (p_isList Φ.bi (pv 0))) (pdb_one (pds_ret (pd_int))) (pdb_nil)) (pdb_one (pds_ret (pd_if (pdt_val (p_isTuple Φ.bi (pv 0))) (pd_int) (pd_int))))))))
abbrev s__law_same : Stmt := top 22
theorem sc__law_same : FnScope ["told", "due", "k", "part"] ["told", "due"] (defScope s__law_same) := ⟨rfl, rfl, rfl, by decide +kernel, rfl, by decide +kernel, by decide +kernel⟩
theorem ok__law_same (Φ : Facts Pr w K mg base) (n : Nat) : FnD Pr w K mg base "_law_same" (2 + n) ["told", "due"] (m__law_same n) := by
  obtain ⟨f, fd, hm, F⟩ := Φ.d__law_same
  have hb : Binds K fd ["told", "due"] [] := F.bindsN fun _ _ _ _ _ _ us hl => match us, hl with | [_, _], _ => rfl
  induction n with
  | zero => exact (fndQ (k := 1) F hm hb sc__law_same fun cdv A outer s H E hr => pdb_never).imp fun _ _ h => nomatch h
  | succ n ih => exact fndQ F hm hb sc__law_same fun cdv A outer s H E hr => (pdb_cons (pds_if (t_ne hr (pd_call ((ok__law_sort Φ).mono (Nat.le_trans (by decide) (Nat.le_add_right _ n))) hr rfl passL (pda_cons (pv 0) (pda_nil)) (amc (am0))) (pd_call ((ok__law_sort Φ).mono (Nat.le_trans (by decide) (Nat.le_add_right _ n))) hr rfl passL (pda_cons (pv 1) (pda_nil)) (amc (am0)))) (pdb_one (pds_ret (pd_bl))) (pdb_nil)) (pdb_cons (pds_if (pdt_w (pdw_and (t_gt (pd_call ((ok__law_sort Φ).mono (Nat.le_trans (by decide) (Nat.le_add_right _ n))) hr rfl passL (pda_cons (pv 0) (pda_nil)) (amc (am0))) (pd_int)) (pdw_and1 (t_lt hr (pd_call ((ok__law_sort Φ).mono (Nat.le_trans (by decide) (Nat.le_add_right _ n))) hr rfl passL (pda_cons (pv 0) (pda_nil)) (amc (am0))) (pd_int))))) (pdb_cons (pds_if (t_ne hr (p_len Φ.bi (pv 0)) (p_len Φ.bi (pv 1))) (pdb_one (pds_ret (pd_bl))) (pdb_nil)) (pdb_one (pds_ret (v_eq hr (pd_comp (own := [("k", 2), ("part", 3)]) (ow := false) rfl sc__law_same.nd (i_enum Φ.bi (pda_cons (pv 0) (pda_nil))) (blkOk_by (by kernel_rfl)) (by decide) (fun _ _ _ _ _ => pdg_tup rfl (pdgs_cons (pdg_name sc__law_same.nd rfl (by first | exact .inl rfl | exact .inr rfl)) (pdgs_cons (pdg_name sc__law_same.nd rfl (by first | exact .inl rfl | exact .inr rfl)) (pdgs_nil)))) (fun _ _ _ _ _ => pdts_one (pdt_not (pdt_val (pd_call (ih) hr rfl passL (pda_cons (pv 3) (pda_cons (p_ix (pv 1) (pv 2)) (pda_nil))) (amc (amc (am0))))))) (fun _ _ _ _ _ => pv 2)) (pd_lst (pda_nil)))))) (pdb_nil)) (pdb_one (pds_ret (v_eq hr (pv 0) (pv 1))))))
abbrev s__law_layer : Stmt := top 23
theorem sc__law_layer : FnScope ["deck", "top", "rain", "flies", "hand_so"] ["deck"] (defScope s__law_layer) := ⟨rfl, rfl, rfl, by decide +kernel, rfl, by decide +kernel, by decide +kernel⟩
theorem ok__law_layer (Φ : Facts Pr w K mg base) : FnD Pr w K mg base "_law_layer" 4 ["deck"] m__law_layer := by
  obtain ⟨f, fd, hm, F⟩ := Φ.d__law_layer
  have hb : Binds K fd ["deck"] [] := F.bindsN fun _ _ _ _ _ _ us hl => match us, hl with | [_], _ => rfl
  exact fndQ F hm hb sc__law_layer fun cdv A outer s H E hr => (pdb_cons (pds_set sc__law_layer.nd (i := 1) rfl (by first | exact .inl rfl | exact .inr rfl) (p_add (pd_int) (pd_call ((ok__law_pick Φ).mono (by decide)) hr rfl passL (a_ref 0 (pda_cons (pd_int) (pda_nil))) (amr (amc (am0)))))) (pdb_cons (pds_par (i := 2) (j := 3) rfl sc__law_layer.nd rfl rfl (by decide) rfl rfl (p_sub (pd_call ((ok__law_pick Φ).mono (by decide)) hr rfl passL (a_ref 0 (pda_cons (p_add (pv 1) (pd_int)) (pda_nil))) (amr (amc (am0)))) (pd_int)) (p_sub (pd_call ((ok__law_pick Φ).mono (by decide)) hr rfl passL (a_ref 0 (pda_cons (p_add (pv 1) (pd_int)) (pda_nil))) (amr (amc (am0)))) (pd_int)) rfl) (pdb_cons (pds_set sc__law_layer.nd (i := 4) rfl (by first | exact .inl rfl | exact .inr rfl) (pd_call ((ok__law_one Φ).mono (by decide)) hr rfl passL (a_ref 0 (pda_cons (pd_lst (pda_cons (pd_str) (pda_cons (pd_str) (pda_cons (pd_str) (pda_cons (pd_str) (pda_nil)))))) (pda_nil))) (amr (amc (am0))))) (pdb_one (pds_ret (pd_tup (pda_cons (pv 1) (pda_cons (pv 2) (pda_cons (pv 3) (pda_cons (pv 4) (pda_cons (pd_call ((ok__law_one Φ).mono (by decide)) hr rfl passL (a_ref 0 (pda_cons (pd_lst (pda_cons (pd_str) (pda_cons (pd_str) (pda_cons (pd_str) (pda_cons (pd_str) (pda_cons (pd_str) (pda_cons (pd_str) (pda_nil)))))))) (pda_nil))) (amr (amc (am0)))) (pda_nil))))))))))))
abbrev s__law_every_bar : Stmt := top 24
theorem sc__law_every_bar : FnScope ["layers", "found", "k", "j", "top", "low", "high"] ["layers"] (defScope s__law_every_bar) := ⟨rfl, rfl, rfl, by decide +kernel, rfl, by decide +kernel, by decide +kernel⟩
theorem ok__law_every_bar (Φ : Facts Pr w K mg base) : FnD Pr w K mg base "_law_every_bar" 2 ["layers"] m__law_every_bar := by
  obtain ⟨f, fd, hm, F⟩ := Φ.d__law_every_bar
  have hb : Binds K fd ["layers"] [] := F.bindsN fun _ _ _ _ _ _ us hl => match us, hl with | [_], _ => rfl
  exact fndQ F hm hb sc__law_every_bar fun cdv A outer s H E hr => (pdb_cons (pds_set sc__law_every_bar.nd (i := 1) rfl (by first | exact .inl rfl | exact .inr rfl) (pd_lstO (pda_nil))) (pdb_cons (pds_for PassesOwn.never rfl (i_rng1 Φ.bi (pda_cons (p_len Φ.bi (pv 0)) (pda_nil))) (pdg_name sc__law_every_bar.nd rfl (by first | exact .inl rfl | exact .inr rfl)) (pdb_one (pds_for PassesOwn.never rfl (i_rng1 Φ.bi (pda_cons (p_len Φ.bi (pv 0)) (pda_nil))) (pdg_name sc__law_every_bar.nd rfl (by first | exact .inl rfl | exact .inr rfl)) (pdb_cons (pds_set sc__law_every_bar.nd (i := 4) rfl (by first | exact .inl rfl | exact .inr rfl) (p_ix (p_ix (pv 0) (pv 3)) (pd_int))) (pdb_one (pds_for PassesOwn.never rfl (i_rng1 Φ.bi (pda_cons (p_add (pv 4) (pd_int)) (pda_nil))) (pdg_name sc__law_every_bar.nd rfl (by first | exact .inl rfl | exact .inr rfl)) (pdb_one (pds_for PassesOwn.never rfl (i_rng2 Φ.bi (pda_cons (pv 5) (pda_cons (p_add (pv 4) (pd_int)) (pda_nil)))) (pdg_name sc__law_every_bar.nd rfl (by first | exact .inl rfl | exact .inr rfl)) (pdb_one (pds_if (pdt_w (pdw_and (t_ne hr (pv 2) (pv 3)) (pdw_and1 (pdt_w (pdw_or (t_gt (pv 5) (pd_int)) (pdw_or1 (t_lt hr (pv 6) (pv 4)))))))) (pdb_one (pds_app (i := 1) rfl (by first | exact .inl rfl | exact .inr (.inl rfl) | exact .inr (.inr rfl)) (pd_tup (pda_cons (pv 2) (pda_cons (pv 3) (pda_cons (pv 5) (pda_cons (pv 6) (pda_nil)))))))) (pdb_nil))))))))))) (pdb_frz (i := 1) (pdb_one (pds_ret (pv 1))))))
abbrev s__law_pane : Stmt := top 25
theorem sc__law_pane : FnScope ["deck", "most", "layers", "turn", "bars_so", "every"] ["deck", "most"] (defScope s__law_pane) := ⟨rfl, rfl, rfl, by decide +kernel, rfl, by decide +kernel, by decide +kernel⟩
theorem ok__law_pane (Φ : Facts Pr w K mg base) : FnD Pr w K mg base "_law_pane" 5 ["deck", "most"] m__law_pane := by
  obtain ⟨f, fd, hm, F⟩ := Φ.d__law_pane
  have hb : Binds K fd ["deck", "most"] [] := F.bindsN fun _ _ _ _ _ _ us hl => match us, hl with | [_, _], _ => rfl
  exact fndQ F hm hb sc__law_pane fun cdv A outer s H E hr => (pdb_cons (pds_set sc__law_pane.nd (i := 2) rfl (by first | exact .inl rfl | exact .inr rfl) (pd_tup (pda_nil))) (pdb_cons (pds_for PassesOwn.never rfl (i_rng1 Φ.bi (pda_cons (p_add (pd_int) (pd_call ((ok__law_pick Φ).mono (by decide)) hr rfl passL (a_ref 0 (pda_cons (p_sub (pv 1) (pd_int)) (pda_nil))) (amr (amc (am0))))) (pda_nil))) (pdg_name sc__law_pane.nd rfl (by first | exact .inl rfl | exact .inr rfl)) (pdb_one (pds_set sc__law_pane.nd (i := 2) rfl (by first | exact .inl rfl | exact .inr rfl) (p_add (pv 2) (pd_tup (pda_cons (pd_call ((ok__law_layer Φ).mono (by decide)) hr rfl passL (a_ref 0 (pda_nil)) (amr (am0))) (pda_nil))))))) (pdb_cons (pds_par (i := 4) (j := 5) rfl sc__law_pane.nd rfl rfl (by decide) rfl rfl (pd_lstO (pda_nil)) (pd_call ((ok__law_every_bar Φ).mono (by decide)) hr rfl passL (pda_cons (pv 2) (pda_nil)) (amc (am0))) rfl) (pdb_cons (pds_for PassesOwn.never rfl (i_rng1 Φ.bi (pda_cons (pd_call ((ok__law_pick Φ).mono (by decide)) hr rfl passL (a_ref 0 (pda_cons (pd_int) (pda_nil))) (amr (amc (am0)))) (pda_nil))) (pdg_name sc__law_pane.nd rfl (by first | exact .inl rfl | exact .inr rfl)) (pdb_one (pds_app (i := 4) rfl (by first | exact .inl rfl | exact .inr (.inl rfl) | exact .inr (.inr rfl)) (pd_call ((ok__law_one Φ).mono (by decide)) hr rfl passL (a_ref 0 (pda_cons (pv 5) (pda_nil))) (amr (amc (am0))))))) (pdb_frz (i := 4) (pdb_one (pds_ret (pd_tup (pda_cons (pv 2) (pda_cons (p_tuple Φ.bi (p_ss Φ.bi rfl hr (pv 4))) (pda_nil)))))))))))
abbrev s__law_known : Stmt := top 26
theorem sc__law_known : FnScope ["sash", "screen", "first", "third", "fourth", "two"] [] (defScope s__law_known) := ⟨rfl, rfl, rfl, by decide +kernel, rfl, by decide +kernel, by decide +kernel⟩
theorem ok__law_known (Φ : Facts Pr w K mg base) : FnD Pr w K mg base "_law_known" 2 [] m__law_known := by
  obtain ⟨f, fd, hm, F⟩ := Φ.d__law_known
  have hb : Binds K fd [] [] := F.bindsN fun _ _ _ _ _ _ us hl => match us, hl with | [], _ => rfl
  exact fndQ F hm hb sc__law_known fun cdv A outer s H E hr => (pdb_cons (pds_asg (pd_tup (pda_cons (pd_tup (pda_cons (pd_int) (pda_cons (pd_int) (pda_cons (pd_int) (pda_cons (pd_str) (pda_cons (pd_str) (pda_nil))))))) (pda_cons (pd_tup (pda_cons (pd_int) (pda_cons (p_neg (pd_int)) (pda_cons (pd_int) (pda_cons (pd_str) (pda_cons (pd_str) (pda_nil))))))) (pda_nil)))) (pdg_tup rfl (pdgs_cons (pdg_name sc__law_known.nd rfl (by first | exact .inl rfl | exact .inr rfl)) (pdgs_cons (pdg_name sc__law_known.nd rfl (by first | exact .inl rfl | exact .inr rfl)) (pdgs_nil))))) (pdb_cons (pds_set sc__law_known.nd (i := 2) rfl (by first | exact .inl rfl | exact .inr rfl) (pd_tup (pda_cons (pd_tup (pda_cons (pv 0) (pda_cons (pv 1) (pda_nil)))) (pda_cons (pd_tup (pda_cons (pd_tup (pda_cons (pd_int) (pda_cons (pd_int) (pda_cons (pd_int) (pda_cons (pd_int) (pda_nil)))))) (pda_nil))) (pda_nil))))) (pdb_cons (pds_set sc__law_known.nd (i := 3) rfl (by first | exact .inl rfl | exact .inr rfl) (pd_tup (pda_cons (pd_tup (pda_cons (pd_tup (pda_cons (pd_int) (pda_cons (pd_int) (pda_cons (pd_int) (pda_cons (pd_str) (pda_cons (pd_str) (pda_nil))))))) (pda_cons (pd_tup (pda_cons (pd_int) (pda_cons (p_neg (pd_int)) (pda_cons (pd_int) (pda_cons (pd_str) (pda_cons (pd_str) (pda_nil))))))) (pda_nil)))) (pda_cons (pd_tup (pda_nil)) (pda_nil))))) (pdb_cons (pds_set sc__law_known.nd (i := 4) rfl (by first | exact .inl rfl | exact .inr rfl) (pd_tup (pda_cons (pd_tup (pda_cons (pv 0) (pda_cons (pd_tup (pda_cons (pd_int) (pda_cons (p_neg (pd_int)) (pda_cons (pd_int) (pda_cons (pd_str) (pda_cons (pd_str) (pda_nil))))))) (pda_nil)))) (pda_cons (pd_tup (pda_cons (pd_tup (pda_cons (pd_int) (pda_cons (pd_int) (pda_cons (pd_int) (pda_cons (pd_int) (pda_nil)))))) (pda_nil))) (pda_nil))))) (pdb_cons (pds_set sc__law_known.nd (i := 5) rfl (by first | exact .inl rfl | exact .inr rfl) (pd_tup (pda_cons (pd_tup (pda_cons (pd_tup (pda_cons (pd_tup (pda_cons (pd_int) (pda_cons (pd_int) (pda_nil)))) (pda_cons (pd_tup (pda_cons (pd_int) (pda_cons (pd_int) (pda_nil)))) (pda_cons (pd_tup (pda_cons (pd_int) (pda_cons (pd_int) (pda_nil)))) (pda_nil))))) (pda_cons (pd_str) (pda_nil)))) (pda_cons (pd_tup (pda_cons (pd_tup (pda_cons (pd_tup (pda_cons (pd_int) (pda_cons (pd_int) (pda_nil)))) (pda_cons (pd_tup (pda_cons (pd_int) (pda_cons (pd_int) (pda_nil)))) (pda_cons (pd_tup (pda_cons (pd_int) (pda_cons (pd_int) (pda_nil)))) (pda_nil))))) (pda_cons (pd_str) (pda_nil)))) (pda_nil))))) (pdb_one (pds_ret (pd_lst (pda_cons (pv 2) (pda_cons (pv 3) (pda_cons (pv 4) (pda_cons (pv 5) (pda_cons (pd_tup (pda_cons (pd_tup (pda_cons (pd_tup (pda_cons (pd_tup (pda_cons (pd_int) (pda_cons (pd_int) (pda_nil)))) (pda_cons (pd_tup (pda_cons (pd_int) (pda_cons (pd_int) (pda_nil)))) (pda_nil)))) (pda_cons (pd_str) (pda_nil)))) (pda_nil))) (pda_nil))))))))))))))
abbrev s__law_bars_changed : Stmt := top 27
theorem sc__law_bars_changed : FnScope ["pane", "layers", "bars_so", "found", "bar", "at"] ["pane"] (defScope s__law_bars_changed) := ⟨rfl, rfl, rfl, by decide +kernel, rfl, by decide +kernel, by decide +kernel⟩
theorem ok__law_bars_changed (Φ : Facts Pr w K mg base) : FnD Pr w K mg base "_law_bars_changed" 3 ["pane"] m__law_bars_changed := by
  obtain ⟨f, fd, hm, F⟩ := Φ.d__law_bars_changed
  have hb : Binds K fd ["pane"] [] := F.bindsN fun _ _ _ _ _ _ us hl => match us, hl with | [_], _ => rfl
  exact fndQ F hm hb sc__law_bars_changed fun cdv A outer s H E hr => (pdb_cons (pds_asg (pv 0) (pdg_tup rfl (pdgs_cons (pdg_name sc__law_bars_changed.nd rfl (by first | exact .inl rfl | exact .inr rfl)) (pdgs_cons (pdg_name sc__law_bars_changed.nd rfl (by first | exact .inl rfl | exact .inr rfl)) (pdgs_nil))))) (pdb_cons (pds_setComp (own := [("at", 5)]) (ow := true) rfl sc__law_bars_changed.nd rfl rfl (sw_true rfl rfl rfl (by decide +kernel)) (i_rng1 Φ.bi (pda_cons (p_len Φ.bi (pv 2)) (pda_nil))) (blkOk_by (by kernel_rfl)) (by decide) (fun _ _ _ _ _ => pdg_name sc__law_bars_changed.nd rfl (by first | exact .inl rfl | exact .inr rfl)) (fun _ _ _ _ _ => pdts_nil) (fun _ _ _ _ _ => pd_tup (pda_cons (pv 1) (pda_cons (p_add (p_sl (pv 2) (pdo_none) (pdo_some (pv 5))) (p_sl (pv 2) (pdo_some (p_add (pv 5) (pd_int))) (pdo_none))) (pda_nil))))) (pdb_cons (pds_if (t_lt hr (p_len Φ.bi (pv 2)) (pd_int)) (pdb_one (pds_for PassesOwn.never rfl (pdi_seq (pd_call ((ok__law_every_bar Φ).mono (by decide)) hr rfl passL (pda_cons (pv 1) (pda_nil)) (amc (am0)))) (pdg_name sc__law_bars_changed.nd rfl (by first | exact .inl rfl | exact .inr rfl)) (pdb_one (pds_if (t_notin hr (pv 4) (pv 2)) (pdb_one (pds_app (i := 3) rfl (by first | exact .inl rfl | exact .inr (.inl rfl) | exact .inr (.inr rfl)) (pd_tup (pda_cons (pv 1) (pda_cons (p_tuple Φ.bi (p_sorted Φ.bi hr (p_add (pv 2) (pd_tup (pda_cons (pv 4) (pda_nil)))))) (pda_nil)))))) (pdb_nil))))) (pdb_nil)) (pdb_frz (i := 3) (pdb_one (pds_ret (p_sorted Φ.bi hr (pv 3))))))))
abbrev s_law : Stmt := top 28
theorem sc_law : FnScope ["script", "cell", "deck", "pane", "turn", "wide", "more"] ["script"] (defScope s_law) := ⟨rfl, rfl, rfl, by decide +kernel, rfl, by decide +kernel, by decide +kernel⟩
theorem ok_law (Φ : Facts Pr w K mg base) {f : Addr} {fd : FuncData} (hm : mg "law" = some (.ref f)) (F : FunD K "law" "law" (defArgs s_law) (defBody s_law) (defScope s_law) [] [] f fd) : FnOk Pr w K mg base (L2.CX Pr w) 11 f fd ["script"] (spF K mg 1 m_law) := by
  have hb : Binds K fd ["script"] [] := F.bindsN fun _ _ _ _ _ _ us hl => match us, hl with | [_], _ => rfl
  exact fndOk F hm hb sc_law fun cdv A outer s H E hr => (pdb_cons (pds_for PassesOwn.never rfl (pdi_seq (p_sl (p_add (pd_lst (pda_cons (pd_int) (pda_nil))) (pv 0)) (pdo_none) (pdo_some (pd_int)))) (pdg_name sc_law.nd rfl (by first | exact .inl rfl | exact .inr rfl)) (pdb_cons (pds_set sc_law.nd (i := 2) rfl (by first | exact .inl rfl | exact .inr rfl) (pd_call ((ok__law_deck Φ).mono (by decide)) hr rfl passL (pda_cons (pv 1) (pda_cons (pd_int) (pda_nil))) (amc (amc (am0))))) (pdb_cons (pds_set sc_law.nd (i := 3) rfl (by first | exact .inl rfl | exact .inr rfl) (pd_call ((ok__law_pane Φ).mono (by decide)) hr rfl passL (a_ref 2 (pda_cons (pd_int) (pda_nil))) (amr (amc (am0))))) (pdb_cons (pds_for PassesOwn.never rfl (i_rng1 Φ.bi (pda_cons (pd_call ((ok__law_pick Φ).mono (by decide)) hr rfl passL (a_ref 2 (pda_cons (pd_int) (pda_nil))) (amr (amc (am0)))) (pda_nil))) (pdg_name sc_law.nd rfl (by first | exact .inl rfl | exact .inr rfl)) (pdb_one (pds_if (t_lt hr (p_len Φ.bi (p_ix (pv 3) (pd_int))) (pd_int)) (pdb_cons (pds_set sc_law.nd (i := 6) rfl (by first | exact .inl rfl | exact .inr rfl) (p_add (p_ix (pv 3) (pd_int)) (pd_tup (pda_cons (pd_call ((ok__law_one Φ).mono (by decide)) hr rfl passL (a_ref 2 (pda_cons (pd_call ((ok__law_every_bar Φ).mono (by decide)) hr rfl passL (pda_cons (p_ix (pv 3) (pd_int)) (pda_nil)) (amc (am0))) (pda_nil))) (amr (amc (am0)))) (pda_nil))))) (pdb_one (pds_set sc_law.nd (i := 3) rfl (by first | exact .inl rfl | exact .inr rfl) (pd_tup (pda_cons (p_ix (pv 3) (pd_int)) (pda_cons (p_tuple Φ.bi (p_ss Φ.bi rfl hr (pv 6))) (pda_nil))))))) (pdb_nil)))) (pdb_cons (pds_if (pdt_not (pdt_val (pd_call ((ok__law_same Φ 8).mono (by decide)) hr rfl passL (pda_cons (pd_call ((ok_bar_changes Φ).mono (by decide)) hr rfl passL (pda_cons (pv 3) (pda_nil)) (amc (am0))) (pda_cons (pd_call ((ok__law_bars_changed Φ).mono (by decide)) hr rfl passL (pda_cons (pv 3) (pda_nil)) (amc (am0))) (pda_nil))) (amc (amc (am0)))))) (pdb_one (pds_ret (pd_bl))) (pdb_nil)) (pdb_cons (pds_set sc_law.nd (i := 5) rfl (by first | exact .inl rfl | exact .inr rfl) (pd_tup (pda_cons (p_ix (pv 3) (pd_int)) (pda_cons (p_tuple Φ.bi (p_sl (pd_call ((ok__law_every_bar Φ).mono (by decide)) hr rfl passL (pda_cons (p_ix (pv 3) (pd_int)) (pda_nil)) (amc (am0))) (pdo_none) (pdo_some (pd_int)))) (pda_nil))))) (pdb_one (pds_if (pdt_w (pdw_and (t_eq hr (p_len Φ.bi (p_ix (pv 5) (pd_int))) (pd_int)) (pdw_and1 (pdt_not (pdt_val (pd_call ((ok__law_same Φ 8).mono (by decide)) hr rfl passL (pda_cons (pd_call ((ok_bar_changes Φ).mono (by decide)) hr rfl passL (pda_cons (pv 5) (pda_nil)) (amc (am0))) (pda_cons (pd_call ((ok__law_bars_changed Φ).mono (by decide)) hr rfl passL (pda_cons (pv 5) (pda_nil)) (amc (am0))) (pda_nil))) (amc (amc (am0))))))))) (pdb_one (pds_ret (pd_bl))) (pdb_nil))))))))) (pdb_one (pds_ret (v_eq hr (p_len Φ.bi (pd_call ((ok_bar_changes Φ).mono (by decide)) hr rfl passL (pda_cons (p_ix (pd_call0 ((ok__law_known Φ).mono (by decide)) hr rfl passL) (pd_int)) (pda_nil)) (amc (am0)))) (pd_int)))))
end
def dd_is_within : He.DefD := ⟨("is_within", none), "is_within", "is_within", defArgs (top 7), defBody (top 7), defScope (top 7), [], []⟩
def dd_is_word : He.DefD := ⟨("is_word", none), "is_word", "is_word", defArgs (top 8), defBody (top 8), defScope (top 8), [], []⟩
def dd_is_layer : He.DefD := ⟨("is_layer", none), "is_layer", "is_layer", defArgs (top 9), defBody (top 9), defScope (top 9), [], []⟩
def dd_is_bar : He.DefD := ⟨("is_bar", none), "is_bar", "is_bar", defArgs (top 10), defBody (top 10), defScope (top 10), [], []⟩
def dd_is_window_value : He.DefD := ⟨("is_window_value", none), "is_window_value", "is_window_value", defArgs (top 11), defBody (top 11), defScope (top 11), [], []⟩
def dd_need_window : He.DefD := ⟨("need_window", none), "need_window", "need_window", defArgs (top 12), defBody (top 12), defScope (top 12), [], []⟩
def dd_all_bars : He.DefD := ⟨("all_bars", none), "all_bars", "all_bars", defArgs (top 14), defBody (top 14), defScope (top 14), [], []⟩
def dd_bars_changed : He.DefD := ⟨("bars_changed", none), "bars_changed", "bars_changed", defArgs (top 15), defBody (top 15), defScope (top 15), [], []⟩
def dd_bar_changes : He.DefD := ⟨("bar_changes", none), "bar_changes", "bar_changes", defArgs (top 16), defBody (top 16), defScope (top 16), [], []⟩
def dd__law_deck : He.DefD := ⟨("_law_deck", none), "_law_deck", "_law_deck", defArgs (top 18), defBody (top 18), defScope (top 18), [], []⟩
def dd__law_pick : He.DefD := ⟨("_law_pick", none), "_law_pick", "_law_pick", defArgs (top 19), defBody (top 19), defScope (top 19), [], []⟩
def dd__law_one : He.DefD := ⟨("_law_one", none), "_law_one", "_law_one", defArgs (top 20), defBody (top 20), defScope (top 20), [], []⟩
def dd__law_sort : He.DefD := ⟨("_law_sort", none), "_law_sort", "_law_sort", defArgs (top 21), defBody (top 21), defScope (top 21), [], []⟩
def dd__law_same : He.DefD := ⟨("_law_same", none), "_law_same", "_law_same", defArgs (top 22), defBody (top 22), defScope (top 22), [], []⟩
def dd__law_layer : He.DefD := ⟨("_law_layer", none), "_law_layer", "_law_layer", defArgs (top 23), defBody (top 23), defScope (top 23), [], []⟩
def dd__law_every_bar : He.DefD := ⟨("_law_every_bar", none), "_law_every_bar", "_law_every_bar", defArgs (top 24), defBody (top 24), defScope (top 24), [], []⟩
def dd__law_pane : He.DefD := ⟨("_law_pane", none), "_law_pane", "_law_pane", defArgs (top 25), defBody (top 25), defScope (top 25), [], []⟩
def dd__law_known : He.DefD := ⟨("_law_known", none), "_law_known", "_law_known", defArgs (top 26), defBody (top 26), defScope (top 26), [], []⟩
def dd__law_bars_changed : He.DefD := ⟨("_law_bars_changed", none), "_law_bars_changed", "_law_bars_changed", defArgs (top 27), defBody (top 27), defScope (top 27), [], []⟩
def dd_law : He.DefD := ⟨("law", none), "law", "law", defArgs (top 28), defBody (top 28), defScope (top 28), [], []⟩
def hfn0 : List He.DefD := [dd_is_within, dd_is_word, dd_is_layer, dd_is_bar, dd_is_window_value, dd_need_window, dd_all_bars, dd_bars_changed, dd_bar_changes, dd__law_deck, dd__law_pick, dd__law_one]
def hfn1 : List He.DefD := [dd__law_sort, dd__law_same, dd__law_layer, dd__law_every_bar, dd__law_pane, dd__law_known, dd__law_bars_changed, dd_law]
def hfn : List He.DefD := hfn0 ++ hfn1
def hfa0 : List He.Fa := [.glo "is_within", .glo "is_word", .glo "is_layer", .glo "is_bar", .glo "is_window_value", .glo "need_window", .glo "all_bars", .glo "bars_changed", .glo "bar_changes", .glo "_law_deck", .glo "_law_pick", .glo "_law_one"]
def hfa1 : List He.Fa := [.glo "_law_sort", .glo "_law_same", .glo "_law_layer", .glo "_law_every_bar", .glo "_law_pane", .glo "_law_known", .glo "_law_bars_changed", .glo "law", .glo "HANDS", .glo "WINDS", .free "all", .free "any"]
def hfa2 : List He.Fa := [.free "enumerate", .free "int", .free "isinstance", .free "len", .free "list", .free "max", .free "range", .free "set", .free "sorted", .free "str", .free "tuple", .free "zip"]
def hfa3 : List He.Fa := [.free "bool", .int "MOST_BARS" 6]
def hfa : List He.Fa := hfa0 ++ hfa1 ++ hfa2 ++ hfa3
def hex (K : PySem.W.Frag) : Bool := He.tupB K "HANDS" [.str "both", .str "within", .str "without"] && He.tupB K "WINDS" [.str "both", .str "opens", .str "shuts", .str "still"]
def loose0 : List PySem.Str := ["WindowError", "InvalidWindow", "HANDS", "WINDS", "MOST_BARS", "is_within", "is_word", "is_layer", "is_bar", "is_window_value", "need_window", "all_bars", "bars_changed", "bar_changes", "_law_deck", "_law_pick", "_law_one", "_law_sort", "_law_same", "_law_layer", "_law_every_bar", "_law_pane", "_law_known", "_law_bars_changed"]
def loose : List PySem.Str := loose0
abbrev R : PySem.W.OpenRow := PySem.W.OpenLaw.row PySem.Challenge.rw_sashscreens_k10_windows_with_a_bar_less
abbrev hk : PySem.W.Hook := He.hookX 4 hfa hfn [] [] hex
def ob (s : PySem.W.SharedT) : He.AlX := He.obsX 4 hfa hfn [] [] hex (HandSHeadRun.getT s)
theorem ob_eq (s : PySem.W.SharedT) : ob s = hk.obs s.abs := He.obsX_eq (HandSHeadRun.getT_eq s)
theorem run (w : World) : HandSHeadRun.RunEq R (PySem.W.view R.prog [28]) hk ob 3000 loose w := by
  intro os
  kernel_rfl
theorem fact {K : PySem.W.Frag} (c : He.SaysD hfa hfn K) {f : He.Fa} (h : f ∈ hfa) : f.ok K = true := c.facts h
theorem facts {Pr : Program} {w : World} {K : PySem.W.Frag} {h : Heap} {mg : Str → Option Value} {base : Heap} (X : K.In h) (G : h.Ns mainGlobals mg) (c : He.SaysD hfa hfn K) (m : hex K = true) : Facts Pr w K mg base := by
  unfold hex at m
  simp only [Bool.and_eq_true] at m
  obtain ⟨m0, m1⟩ := m
  obtain ⟨f0, F0⟩ := c.def_ 0 (d := dd_is_within) rfl
  obtain ⟨f1, F1⟩ := c.def_ 1 (d := dd_is_word) rfl
  obtain ⟨f2, F2⟩ := c.def_ 2 (d := dd_is_layer) rfl
  obtain ⟨f3, F3⟩ := c.def_ 3 (d := dd_is_bar) rfl
  obtain ⟨f4, F4⟩ := c.def_ 4 (d := dd_is_window_value) rfl
  obtain ⟨f5, F5⟩ := c.def_ 5 (d := dd_need_window) rfl
  obtain ⟨f6, F6⟩ := c.def_ 6 (d := dd_all_bars) rfl
  obtain ⟨f7, F7⟩ := c.def_ 7 (d := dd_bars_changed) rfl
  obtain ⟨f8, F8⟩ := c.def_ 8 (d := dd_bar_changes) rfl
  obtain ⟨f9, F9⟩ := c.def_ 9 (d := dd__law_deck) rfl
  obtain ⟨f10, F10⟩ := c.def_ 10 (d := dd__law_pick) rfl
  obtain ⟨f11, F11⟩ := c.def_ 11 (d := dd__law_one) rfl
  obtain ⟨f12, F12⟩ := c.def_ 12 (d := dd__law_sort) rfl
  obtain ⟨f13, F13⟩ := c.def_ 13 (d := dd__law_same) rfl
  obtain ⟨f14, F14⟩ := c.def_ 14 (d := dd__law_layer) rfl
  obtain ⟨f15, F15⟩ := c.def_ 15 (d := dd__law_every_bar) rfl
  obtain ⟨f16, F16⟩ := c.def_ 16 (d := dd__law_pane) rfl
  obtain ⟨f17, F17⟩ := c.def_ 17 (d := dd__law_known) rfl
  obtain ⟨f18, F18⟩ := c.def_ 18 (d := dd__law_bars_changed) rfl
  obtain ⟨f19, F19⟩ := c.def_ 19 (d := dd_law) rfl
  exact ⟨⟨He.free_ok X G (c.fact 22 (f := .free "all") rfl), He.free_ok X G (c.fact 23 (f := .free "any") rfl), He.free_ok X G (c.fact 24 (f := .free "enumerate") rfl), He.free_ok X G (c.fact 25 (f := .free "int") rfl), He.free_ok X G (c.fact 26 (f := .free "isinstance") rfl), He.free_ok X G (c.fact 27 (f := .free "len") rfl), He.free_ok X G (c.fact 28 (f := .free "list") rfl), He.free_ok X G (c.fact 29 (f := .free "max") rfl), He.free_ok X G (c.fact 30 (f := .free "range") rfl), He.free_ok X G (c.fact 31 (f := .free "set") rfl), He.free_ok X G (c.fact 32 (f := .free "sorted") rfl), He.free_ok X G (c.fact 33 (f := .free "str") rfl), He.free_ok X G (c.fact 34 (f := .free "tuple") rfl), He.free_ok X G (c.fact 35 (f := .free "zip") rfl), He.free_ok X G (c.fact 36 (f := .free "bool") rfl)⟩,
    ⟨_, He.glo_ok X G (c.fact 20 (f := .glo "HANDS") rfl), fun H => .tup (He.tupB_ok m0 H) (.cons (.str _) (.cons (.str _) (.cons (.str _) (.nil))))⟩,
    ⟨_, He.glo_ok X G (c.fact 21 (f := .glo "WINDS") rfl), fun H => .tup (He.tupB_ok m1 H) (.cons (.str _) (.cons (.str _) (.cons (.str _) (.cons (.str _) (.nil)))))⟩,
    He.int_ok X G (c.fact 37 (f := .int "MOST_BARS" 6) rfl),
    ⟨_, f0, He.glo_ok X G (c.fact 0 (f := .glo "is_within") rfl), F0⟩,
    ⟨_, f1, He.glo_ok X G (c.fact 1 (f := .glo "is_word") rfl), F1⟩,
    ⟨_, f2, He.glo_ok X G (c.fact 2 (f := .glo "is_layer") rfl), F2⟩,
    ⟨_, f3, He.glo_ok X G (c.fact 3 (f := .glo "is_bar") rfl), F3⟩,
    ⟨_, f4, He.glo_ok X G (c.fact 4 (f := .glo "is_window_value") rfl), F4⟩,
    ⟨_, f5, He.glo_ok X G (c.fact 5 (f := .glo "need_window") rfl), F5⟩,
    ⟨_, f6, He.glo_ok X G (c.fact 6 (f := .glo "all_bars") rfl), F6⟩,
    ⟨_, f7, He.glo_ok X G (c.fact 7 (f := .glo "bars_changed") rfl), F7⟩,
    ⟨_, f8, He.glo_ok X G (c.fact 8 (f := .glo "bar_changes") rfl), F8⟩,
    ⟨_, f9, He.glo_ok X G (c.fact 9 (f := .glo "_law_deck") rfl), F9⟩,
    ⟨_, f10, He.glo_ok X G (c.fact 10 (f := .glo "_law_pick") rfl), F10⟩,
    ⟨_, f11, He.glo_ok X G (c.fact 11 (f := .glo "_law_one") rfl), F11⟩,
    ⟨_, f12, He.glo_ok X G (c.fact 12 (f := .glo "_law_sort") rfl), F12⟩,
    ⟨_, f13, He.glo_ok X G (c.fact 13 (f := .glo "_law_same") rfl), F13⟩,
    ⟨_, f14, He.glo_ok X G (c.fact 14 (f := .glo "_law_layer") rfl), F14⟩,
    ⟨_, f15, He.glo_ok X G (c.fact 15 (f := .glo "_law_every_bar") rfl), F15⟩,
    ⟨_, f16, He.glo_ok X G (c.fact 16 (f := .glo "_law_pane") rfl), F16⟩,
    ⟨_, f17, He.glo_ok X G (c.fact 17 (f := .glo "_law_known") rfl), F17⟩,
    ⟨_, f18, He.glo_ok X G (c.fact 18 (f := .glo "_law_bars_changed") rfl), F18⟩,
    ⟨_, f19, He.glo_ok X G (c.fact 19 (f := .glo "law") rfl), F19⟩⟩
theorem holds (hF : ∀ ns : List Int, ns.length ≤ 63 → ∃ ρ', m_law (startE ns) = some (.ok (.dat (.bool true)), ρ')) : PySem.Challenge.rw_sashscreens_k10_windows_with_a_bar_less.Holds := by
  w_on; o_law
  refine HandSHeadRun.head_any (r := PySem.W.OpenLaw.row PySem.Challenge.rw_sashscreens_k10_windows_with_a_bar_less) (q := PySem.W.view (PySem.W.OpenLaw.row PySem.Challenge.rw_sashscreens_k10_windows_with_a_bar_less).prog [28]) (H := hk) (ob := ob) (M := 3000) (loose := loose) (d := HandSHeadRun.topDef (PySem.W.OpenLaw.row PySem.Challenge.rw_sashscreens_k10_windows_with_a_bar_less).prog 28) (kwd := []) ob_eq
    (by kernel_rfl) (fun s => by kernel_rfl) run (by kernel_rfl) (by kernel_rfl) (by kernel_rfl) (by rfl) (by first | assumption | decide +kernel) (by decide +kernel) ⟨rfl, rfl, rfl, rfl, rfl, by decide +kernel⟩ ?hw ?hc
  case hw => w_witness2
  case hc =>
    refine L2.walk_ofE (l := PySem.Challenge.rw_sashscreens_k10_windows_with_a_bar_less) (n := 63) (k := 11) (x := "script") (CX := L2.CX0) rfl (by decide) (by kernel_rfl) ⟨rfl, by decide, by decide⟩ ?F (fun _ _ _ _ z => z)
    intro w mg fa h Y G hmg0
    obtain ⟨K, KX, c⟩ := Y
    have hmg : mg ("law" : PySem.Str) = some (.ref fa) := by
      have e : (HandSHeadRun.topDef (PySem.W.OpenLaw.row PySem.Challenge.rw_sashscreens_k10_windows_with_a_bar_less).prog 28).name = ("law" : PySem.Str) := by kernel_rfl
      rw [← e]
      exact hmg0
    have Φ : ∀ base, Facts (PySem.Challenge.rw_sashscreens_k10_windows_with_a_bar_less).prog w K mg base := fun base => facts KX G c.t.d c.more
    obtain ⟨fd, F⟩ := c.t.d.def_ 19 (d := dd_law) rfl
    have e := hmg.symm.trans (He.glo_ok KX G (c.t.d.fact 19 (f := .glo "law") rfl))
    cases e
    have b := FunD.bindsA (ps := ["script"]) F fun _ _ _ _ _ _ us hl => match us, hl with | [_], _ => rfl
    exact ⟨K, fd, fun vs H Q E => spF K mg 1 m_law vs H Q E0, KX, fun s v => b s [v] rfl, fun H a ns hl _ hS => law_sp hF H a ns hl hS, fun base _ _ => fnok0 (ok_law (Φ base) hmg F)⟩
end K10

theorem PySem.Challenge.cw_sashscreens_k10_windows_with_a_bar_less_holds : PySem.Challenge.rw_sashscreens_k10_windows_with_a_bar_less.Holds :=
  K10.holds K10.law_true
