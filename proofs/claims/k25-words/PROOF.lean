import PyProof.Rows.All
import Wide.All
import OpenK.AllK
import Wide.FinOn
import Lean
import PySem.Challenge.RW_sashscreens_k25_whole_windows_by_words
import HandS.ForMost
import HandS.ForExc
import HandS.Wide
import HandS.TupAny
import HandS.TupMul
import HandS.Zip
import HandS.Walk
import HandS.Style
import HandS.Flow
import HandS.Deep
import KE.SortData
import KE.SortUse
import KE.KDictKeyed
import KE.KeyNested
import HandS.Defaults
import HandS.HeadHook2
import HandS.TupSets
import HandS.IsInst
import HandS.Zip0
import HandS.HeadHook3
import HandS.HeadHook4
import KE.LtData
import HandS.WordsExc
import HandS.TryOnly
import HandS.Conv
import HandS.Head0
import HandS.Head1
import HandS.Head2
import HandS.HeadEnd
import HandS.HeadHook1
import HandS.Text
import HandS.RaiseMore
import HandS.More
import HandS.Iter
import HandS.Dict
import KE.KDictDisplayH
import KE.KDictWalk
import HandS.TupLen
import KE.DataCmp
set_option Elab.async false
set_option linter.all false
set_option maxRecDepth 100000
set_option autoImplicit false
/-! DL: mirrors of defs over plain data, and what makes them sound. -/
namespace DL
open PySem PySem.Spec L2
/-- the program and the world of the run (for dicts whose keys are tuples) -/
class TheW where
  P : Program
  w : World
variable [TheW]

abbrev D := PyData
abbrev St := L2.St

/-! ### heaps -/
/-- the heap without what P hides -/
noncomputable def hd (P : Addr → Prop) (H : Hp) : Hp := fun a => open Classical in if P a then none else H a
theorem hd_some {P : Addr → Prop} {H : Hp} {a : Addr} {u : HO} : hd P H a = some u ↔ ¬ P a ∧ H a = some u := by
  unfold hd
  by_cases h : P a
  · simp [h]
  · simp [h]
/-- every object is kept -/
def Ex (H H' : Hp) : Prop := ∀ a o, H a = some o → H' a = some o
theorem Ex.refl (H : Hp) : Ex H H := fun _ _ h => h
theorem Ex.trans {H H1 H2 : Hp} (a : Ex H H1) (b : Ex H1 H2) : Ex H H2 := fun x o h => b x o (a x o h)
theorem Ex.new {H : Hp} {p : Addr} {o : HO} (h : H p = none) : Ex H (upd H p o) := fun a u e => by
  rw [upd_ne (ne_of_none e h)]
  exact e
theorem ex_hd {P : Addr → Prop} {H : Hp} : Ex (hd P H) H := fun _ _ h => (hd_some.mp h).2
theorem ex_hd_le {P P' : Addr → Prop} {H : Hp} (h : ∀ a, P' a → P a) : Ex (hd P H) (hd P' H) := fun a o e => by
  obtain ⟨n, e⟩ := hd_some.mp e
  exact hd_some.mpr ⟨fun z => n (h a z), e⟩
theorem ex_hd_hd {P : Addr → Prop} {H H' : Hp} (e : Ex H H') : Ex (hd P H) (hd P H') := fun a o h => by
  obtain ⟨n, h⟩ := hd_some.mp h
  exact hd_some.mpr ⟨n, e a o h⟩
theorem ex_rd {H H' : Hp} {a : Addr} {u : HO} (e : Ex H H') (h : Rd H a u) : Rd H' a u := by
  rcases h with h | ⟨o, h⟩
  · exact Or.inl (e a _ h)
  · exact Or.inr ⟨o, e a _ h⟩
theorem ex_l {K : PySem.W.Frag} {H H' : Hp} {a : Addr} {xs : List V} (e : Ex H H') (h : SqL K H a xs) : SqL K H' a xs := by
  rcases h with h | h
  · exact Or.inl (ex_rd e h)
  · exact Or.inr h
theorem ex_t {K : PySem.W.Frag} {H H' : Hp} {a : Addr} {xs : List V} (e : Ex H H') (h : SqT K H a xs) : SqT K H' a xs := by
  rcases h with h | h
  · exact Or.inl (ex_rd e h)
  · exact Or.inr h
mutual
theorem dp_mono {K : PySem.W.Frag} {H H' : Hp} (e : Ex H H') : ∀ {v : V} {d : D}, Dp K H v d → Dp K H' v d
  | _, _, .non => .non
  | _, _, .bl b => .bl b
  | _, _, .int i => .int i
  | _, _, .str x => .str x
  | _, _, .lst h hs => .lst (ex_l e h) (dps_mono e hs)
  | _, _, .tup h hs => .tup (ex_t e h) (dps_mono e hs)
theorem dps_mono {K : PySem.W.Frag} {H H' : Hp} (e : Ex H H') : ∀ {vs : List V} {ds : List D}, DpAll K H vs ds → DpAll K H' vs ds
  | _, _, .nil => .nil
  | _, _, .cons h hs => .cons (dp_mono e h) (dps_mono e hs)
end
theorem dps_get {K : PySem.W.Frag} {H : Hp} : ∀ {vs : List V} {ds : List D} {i : Nat} {v : V}, DpAll K H vs ds → vs[i]? = some v → ∃ d, ds[i]? = some d ∧ Dp K H v d
  | _, _, _, _, .nil, e => by simp at e
  | _, _, 0, _, .cons h _, e => by simp at e; subst e; exact ⟨_, rfl, h⟩
  | _, _, i + 1, v, .cons _ hs, e => by
    obtain ⟨d, h1, h2⟩ := dps_get (i := i) (v := v) hs (by simpa using e)
    exact ⟨d, by simpa using h1, h2⟩
theorem dps_get' {K : PySem.W.Frag} {H : Hp} : ∀ {vs : List V} {ds : List D} {i : Nat} {d : D}, DpAll K H vs ds → ds[i]? = some d → ∃ v, vs[i]? = some v ∧ Dp K H v d
  | _, _, _, _, .nil, e => by simp at e
  | _, _, 0, _, .cons h _, e => by simp at e; subst e; exact ⟨_, rfl, h⟩
  | _, _, i + 1, d, .cons _ hs, e => by
    obtain ⟨v, h1, h2⟩ := dps_get' (i := i) (d := d) hs (by simpa using e)
    exact ⟨v, by simpa using h1, h2⟩
theorem dps_len {K : PySem.W.Frag} {H : Hp} : ∀ {vs : List V} {ds : List D}, DpAll K H vs ds → vs.length = ds.length
  | _, _, .nil => rfl
  | _, _, .cons _ hs => by simp [dps_len hs]
theorem dps_append {K : PySem.W.Frag} {H : Hp} : ∀ {vs ws : List V} {ds es : List D}, DpAll K H vs ds → DpAll K H ws es → DpAll K H (vs ++ ws) (ds ++ es)
  | _, _, _, _, .nil, h => h
  | _, _, _, _, .cons h hs, h2 => .cons h (dps_append hs h2)
theorem dps_take {K : PySem.W.Frag} {H : Hp} : ∀ {vs : List V} {ds : List D} (n : Nat), DpAll K H vs ds → DpAll K H (vs.take n) (ds.take n)
  | _, _, 0, _ => by simp; exact .nil
  | _, _, n + 1, .nil => by simp; exact .nil
  | _, _, n + 1, .cons h hs => by simp; exact .cons h (dps_take n hs)
theorem dps_drop {K : PySem.W.Frag} {H : Hp} : ∀ {vs : List V} {ds : List D} (n : Nat), DpAll K H vs ds → DpAll K H (vs.drop n) (ds.drop n)
  | _, _, 0, h => by simpa using h
  | _, _, n + 1, .nil => by simp; exact .nil
  | _, _, n + 1, .cons h hs => by simpa using dps_drop n hs
theorem dps_set {K : PySem.W.Frag} {H : Hp} {v : V} {d : D} (h0 : Dp K H v d) : ∀ {vs : List V} {ds : List D} (n : Nat), DpAll K H vs ds → DpAll K H (vs.set n v) (ds.set n d)
  | _, _, _, .nil => by simp; exact .nil
  | _, _, 0, .cons h hs => by simp; exact .cons h0 hs
  | _, _, n + 1, .cons h hs => by simp; exact .cons h (dps_set h0 n hs)

/-! ### slots, environments -/
/-- what a slot holds: data, or an object that it alone holds and that may change: a list, a dict -/
inductive S where
  | dat (d : D)
  | own (xs : List D)
  | odk (kvs : List (Key × D))
  | odt (kvs : List (NestedKey × D))
  | odl (kvs : List (NestedKey × D))
def S.isOwn : S → Bool
  | .dat _ => false
  | _ => true
abbrev Env := List (Option S)
abbrev Ow := Nat → Option Addr
def Own (o : Ow) (a : Addr) : Prop := ∃ i, o i = some a
/-- what is hidden: the caller's and one's own -/
def hid (P : Addr → Prop) (o : Ow) : Addr → Prop := fun a => P a ∨ Own o a
inductive KvOk (K : PySem.W.Frag) (G : Hp) {κ : Type} : List (κ × V) → List (κ × D) → Prop where
  | nil : KvOk K G [] []
  | cons {k : κ} {v : V} {d : D} {vs : List (κ × V)} {ds : List (κ × D)} : Dp K G v d → KvOk K G vs ds → KvOk K G ((k, v) :: vs) ((k, d) :: ds)
theorem kv_mono {K : PySem.W.Frag} {κ : Type} {H H' : Hp} (e : Ex H H') : ∀ {vs : List (κ × V)} {ds : List (κ × D)}, KvOk K H vs ds → KvOk K H' vs ds
  | _, _, .nil => .nil
  | _, _, .cons h hs => .cons (dp_mono e h) (kv_mono e hs)
/-- a dict whose keys are tuples, nested: the key, the tuple that is it, the value -/
def NDO (a : Addr) (xs : List (NestedKey × Addr × V)) : HO := .ext fun h => (a == sysModules) = false ∧ xs.length ≤ sizeLine ∧ ∃ ys : List (NestedKey × Addr × Value),
  Paired (fun (p : NestedKey × Addr × V) (q : NestedKey × Addr × Value) => p.1 = q.1 ∧ p.2.1 = q.2.1 ∧ RelV p.2.2 q.2.2) xs ys ∧
  ∃ o es ep, h.get? a = some o ∧ o.ExactDict ∧ o.data = .dict es ep ∧ es.toList = ys.map (entryOfKey (nestedKind TheW.P TheW.w)) ∧ (ys.map (·.1)).Nodup
def kDat : NestedKey → D := NestedKey.data
inductive NvOk (K : PySem.W.Frag) (G : Hp) : List (NestedKey × Addr × V) → List (NestedKey × D) → Prop where
  | nil : NvOk K G [] []
  | cons {k : NestedKey} {b : Addr} {v : V} {d : D} {vs : List (NestedKey × Addr × V)} {ds : List (NestedKey × D)} : k.depth ≤ 8 → Dp K G (.ref b) (kDat k) → Dp K G v d → NvOk K G vs ds → NvOk K G ((k, b, v) :: vs) ((k, d) :: ds)
theorem nv_mono {K : PySem.W.Frag} {H H' : Hp} (e : Ex H H') : ∀ {vs : List (NestedKey × Addr × V)} {ds : List (NestedKey × D)}, NvOk K H vs ds → NvOk K H' vs ds
  | _, _, .nil => .nil
  | _, _, .cons z h k hs => .cons z (dp_mono e h) (dp_mono e k) (nv_mono e hs)
/-- the object at a is as told; its parts are data of G -/
def OwnOk (K : PySem.W.Frag) (G H : Hp) (a : Addr) : S → Prop
  | .dat _ => False
  | .own xs => ∃ vs, H a = some (.lst vs) ∧ DpAll K G vs xs
  | .odk kvs => ∃ vs, H a = some (.dK vs) ∧ KvOk K G vs kvs
  | .odt kvs => ∃ vs, H a = some (NDO a vs) ∧ NvOk K G vs kvs
  | .odl kvs => ∃ vs, (∃ od, H a = some (.frz od (NDO a vs))) ∧ NvOk K G vs kvs
theorem OwnOk.there {K : PySem.W.Frag} {G H : Hp} {a : Addr} {s : S} (h : OwnOk K G H a s) : ∃ u, H a = some u := by
  cases s with
  | dat _ => exact False.elim h
  | own xs => obtain ⟨_, h, _⟩ := h; exact ⟨_, h⟩
  | odk xs => obtain ⟨_, h, _⟩ := h; exact ⟨_, h⟩
  | odt xs => obtain ⟨_, h, _⟩ := h; exact ⟨_, h⟩
  | odl xs => obtain ⟨_, ⟨_, h⟩, _⟩ := h; exact ⟨_, h⟩
theorem OwnOk.imp {K : PySem.W.Frag} {G G' H H' : Hp} {a : Addr} {s : S} (h : OwnOk K G H a s) (e : Ex G G') (k : ∀ u, H a = some u → H' a = some u) : OwnOk K G' H' a s := by
  cases s with
  | dat _ => exact False.elim h
  | own xs => obtain ⟨vs, h, q⟩ := h; exact ⟨vs, k _ h, dps_mono e q⟩
  | odk xs => obtain ⟨vs, h, q⟩ := h; exact ⟨vs, k _ h, kv_mono e q⟩
  | odt xs => obtain ⟨vs, h, q⟩ := h; exact ⟨vs, k _ h, nv_mono e q⟩
  | odl xs => obtain ⟨vs, ⟨od, h⟩, q⟩ := h; exact ⟨vs, ⟨od, k _ h⟩, nv_mono e q⟩
theorem OwnOk.isOwn {K : PySem.W.Frag} {G H : Hp} {a : Addr} {s : S} (h : OwnOk K G H a s) : s.isOwn = true := by
  cases s <;> first | rfl | exact False.elim h

/-- what a slot holds that is not its own: data, a locked dict -/
def DOk (K : PySem.W.Frag) (G : Hp) (v : V) : S → Prop
  | .dat d => Dp K G v d
  | _ => False
theorem dok_mono {K : PySem.W.Frag} {G G' : Hp} {v : V} {s : S} (e : Ex G G') (h : DOk K G v s) : DOk K G' v s := by
  cases s with
  | dat d => exact dp_mono e h
  | odl _ => exact h
  | own _ => exact h
  | odk _ => exact h
  | odt _ => exact h
structure At (K : PySem.W.Frag) (P : Addr → Prop) (o : Ow) (ρ : Env) (σ : St) (H : Hp) : Prop where
  len : ρ.length = σ.length
  dom : ∀ a, P a → ∃ u, H a = some u
  inj : ∀ i j a, o i = some a → o j = some a → i = j
  dis : ∀ i a, o i = some a → ¬ P a
  has : ∀ i a, o i = some a → ∃ s, ρ[i]? = some (some s) ∧ σ[i]? = some (some (V.ref a)) ∧ OwnOk K (hd (hid P o) H) H a s
  dat : ∀ (i : Nat) s, ρ[i]? = some (some s) → s.isOwn = false → ∃ v, σ[i]? = some (some v) ∧ DOk K (hd (hid P o) H) v s
  ow : ∀ (i : Nat) s, ρ[i]? = some (some s) → s.isOwn = true → ∃ a, o i = some a
theorem At.domH {K : PySem.W.Frag} {P : Addr → Prop} {o : Ow} {ρ : Env} {σ : St} {H : Hp} (h : At K P o ρ σ H) {a : Addr} (q : hid P o a) : ∃ u, H a = some u := by
  rcases q with q | ⟨i, q⟩
  · exact h.dom a q
  · obtain ⟨s, _, _, k⟩ := h.has i a q
    exact k.there
/-- all is kept but one's own objects -/
structure Chg (o : Ow) (H H' : Hp) : Prop where
  keep : ∀ a u, H a = some u → ¬ Own o a → H' a = some u
  dom : ∀ a u, H a = some u → ∃ u', H' a = some u'
  frz : ∀ a od u, H a = some (.frz od u) → H' a = some (.frz od u)
/-- locked -/
def Lk (H : Hp) (a : Addr) : Prop := ∃ od u, H a = some (.frz od u)
theorem Chg.refl {o : Ow} {H : Hp} : Chg o H H := ⟨fun _ _ h _ => h, fun _ _ h => ⟨_, h⟩, fun _ _ _ h => h⟩
theorem Chg.trans {o : Ow} {H H1 H2 : Hp} (a : Chg o H H1) (b : Chg o H1 H2) : Chg o H H2 :=
  ⟨fun x u h n => b.keep x u (a.keep x u h n) n, fun x u h => let ⟨_, h1⟩ := a.dom x u h; b.dom x _ h1, fun x od u h => b.frz x od u (a.frz x od u h)⟩
theorem Chg.of {o : Ow} {H H' : Hp} (e : Ex H H') : Chg o H H' := ⟨fun a u h _ => e a u h, fun a u h => ⟨u, e a u h⟩, fun a od u h => e a _ h⟩
theorem Chg.ex {P : Addr → Prop} {o : Ow} {H H' : Hp} (c : Chg o H H') : Ex (hd (hid P o) H) (hd (hid P o) H') := fun a u h => by
  obtain ⟨n, h⟩ := hd_some.mp h
  exact hd_some.mpr ⟨n, c.keep a u h fun z => n (.inr z)⟩
theorem Chg.back {o : Ow} {H H' : Hp} (c : Chg o H H') {a : Addr} (h : H' a = none) : H a = none := by
  cases q : H a with
  | none => rfl
  | some u =>
    obtain ⟨u', h'⟩ := c.dom a u q
    rw [h] at h'
    cases h'
section
variable {K : PySem.W.Frag} {P : Addr → Prop} {o : Ow} {ρ : Env} {σ : St} {H H' : Hp}
theorem At.ext (h : At K P o ρ σ H) (e : Ex H H') : At K P o ρ σ H' where
  len := h.len
  dom := fun a q => let ⟨u, k⟩ := h.dom a q; ⟨u, e a u k⟩
  inj := h.inj
  dis := h.dis
  has := fun i a q => by
    obtain ⟨s, h1, h2, h3⟩ := h.has i a q
    exact ⟨s, h1, h2, h3.imp (ex_hd_hd e) fun u z => e a u z⟩
  dat := fun i d q hs => by
    obtain ⟨v, h1, h2⟩ := h.dat i d q hs
    exact ⟨v, h1, dok_mono (ex_hd_hd e) h2⟩
  ow := h.ow
theorem At.ownNe (h : At K P o ρ σ H) {i : Nat} {a p : Addr} (q : o i = some a) (hp : H p = none) : a ≠ p := fun z => by
  obtain ⟨_, _, _, k⟩ := h.has i a q
  obtain ⟨u, k⟩ := k.there
  rw [z, hp] at k
  cases k
/-- the same sets, told otherwise -/
theorem At.hid_eq {P' : Addr → Prop} {o' : Ow} (e : ∀ a, hid P' o' a ↔ hid P o a) : hd (hid P' o') H = hd (hid P o) H := by
  have : hid P' o' = hid P o := funext fun a => propext (e a)
  rw [this]
/-- a new object, hidden -/
theorem At.plus (h : At K P o ρ σ H) {p : Addr} {u : HO} (hp : H p = none) : At K (fun a => P a ∨ a = p) o ρ σ (upd H p u) := by
  have ex : Ex (hd (hid P o) H) (hd (hid (fun a => P a ∨ a = p) o) (upd H p u)) := fun a w q => by
    obtain ⟨n, q⟩ := hd_some.mp q
    have hne : a ≠ p := ne_of_none q hp
    refine hd_some.mpr ⟨fun z => ?_, by rw [upd_ne hne]; exact q⟩
    rcases z with (z | z) | z
    · exact n (.inl z)
    · exact hne z
    · exact n (.inr z)
  refine ⟨h.len, fun a q => ?_, h.inj, fun i a q z => z.elim (h.dis i a q) (h.ownNe q hp), fun i a q => ?_, fun i d q hs => ?_, h.ow⟩
  · rcases q with q | q
    · obtain ⟨w, k⟩ := h.dom a q
      exact ⟨w, Ex.new hp a w k⟩
    · subst q
      exact ⟨u, upd_same⟩
  · obtain ⟨s, h1, h2, h3⟩ := h.has i a q
    exact ⟨s, h1, h2, h3.imp ex fun w z => Ex.new hp a w z⟩
  · obtain ⟨v, h1, h2⟩ := h.dat i d q hs
    exact ⟨v, h1, dok_mono ex h2⟩
/-- less is hidden -/
theorem At.less {P' : Addr → Prop} (h : At K P o ρ σ H) (l : ∀ a, P' a → P a) : At K P' o ρ σ H := by
  have ex : Ex (hd (hid P o) H) (hd (hid P' o) H) := ex_hd_le fun a z => z.elim (fun z => .inl (l a z)) .inr
  refine ⟨h.len, fun a q => h.dom a (l a q), h.inj, fun i a q z => h.dis i a q (l a z), fun i a q => ?_, fun i d q hs => ?_, h.ow⟩
  · obtain ⟨s, h1, h2, h3⟩ := h.has i a q
    exact ⟨s, h1, h2, h3.imp ex fun w z => z⟩
  · obtain ⟨v, h1, h2⟩ := h.dat i d q hs
    exact ⟨v, h1, dok_mono ex h2⟩
end

/-! ### results -/
inductive R where
  | ok (s : S)
  | ex (c : Str) (p : Option D)
abbrev EM := Env → Option (R × Env)
abbrev plusA (P : Addr → Prop) (a : Addr) : Addr → Prop := fun b => P b ∨ b = a
def OkP (K : PySem.W.Frag) (P : Addr → Prop) (o : Ow) (ρ : Env) (σ : St) (H0 H : Hp) (v : V) : S → Prop
  | .dat d => At K P o ρ σ H ∧ Dp K (hd (hid P o) H) v d
  | s => ∃ a, v = .ref a ∧ H0 a = none ∧ ¬ hid P o a ∧ At K (plusA P a) o ρ σ H ∧ OwnOk K (hd (hid (plusA P a) o) H) H a s
/-- an exception: its class by its name in the module; its one field -/
def XR (K : PySem.W.Frag) (mg : Str → Option Value) (G H : Hp) (c : Str) (p : Option D) (cls : Value) (dx : Option Addr) : Prop :=
  ∃ C, mg c = some (.ref C) ∧ cls = .ref C ∧ match p with
    | none => dx = none
    | some d => ∃ a f v, dx = some a ∧ H a = some (.xd [(f, v)]) ∧ Dp K G v d
def Post (K : PySem.W.Frag) (mg : Str → Option Value) (E : XK) (P : Addr → Prop) (o : Ow) (σ : St) (H : Hp) (Q : VK) : R × Env → Prop
  | (.ok s, ρ') => ∀ v H', Chg o H H' → OkP K P o ρ' σ H H' v s → Q v H'
  | (.ex c p, ρ') => ∀ cls dx H', Chg o H H' → At K P o ρ' σ H' → XR K mg (hd (hid P o) H') H' c p cls dx → E cls dx H'
def tE (K : PySem.W.Frag) (mg : Str → Option Value) (E : XK) (f : EM) : TE := fun σ H Q => ∃ P o ρ res, At K P o ρ σ H ∧ f ρ = some res ∧ Post K mg E P o σ H Q res
abbrev PD (X : Cx) (E : XK) (e : Expr) (f : EM) : Prop := PE X e (tE X.K X.mg E f)
theorem PE.imp {X : Cx} {e : Expr} {t t' : TE} (h : PE X e t) (i : ∀ σ H Q, t' σ H Q → t σ H Q) : PE X e t' := ⟨fun pins s σ H Q I q => h.run pins s σ H Q I (i σ H Q q)⟩
theorem PT.imp {X : Cx} {e : Expr} {t t' : TT} (h : PT X e t) (i : ∀ σ H Q, t' σ H Q → t σ H Q) : PT X e t' := ⟨fun pins s σ H Q I q => h.run pins s σ H Q I (i σ H Q q)⟩
theorem PS.imp {X : Cx} {e : Stmt} {t t' : TS} (h : PS X e t) (i : ∀ D σ H, t' D σ H → t D σ H) : PS X e t' := ⟨fun pins s σ H D I q => h.run pins s σ H D I (i D σ H q)⟩
theorem PSs.imp {X : Cx} {e : List Stmt} {t t' : TS} (h : PSs X e t) (i : ∀ D σ H, t' D σ H → t D σ H) : PSs X e t' := ⟨fun pins s σ H D I q => h.run pins s σ H D I (i D σ H q)⟩
section
variable {K : PySem.W.Frag} {mg : Str → Option Value} {E : XK} {P : Addr → Prop} {o : Ow} {ρ : Env} {σ : St} {H H' H0 H1 : Hp} {Q Q' : VK} {f : EM} {v : V} {d : D}
theorem OkP.older {s : S} (c : Chg o H0 H1) (h : OkP K P o ρ σ H1 H v s) : OkP K P o ρ σ H0 H v s := by
  cases s with
  | dat d => exact h
  | own xs => obtain ⟨a, h1, h2, h3⟩ := h; exact ⟨a, h1, c.back h2, h3⟩
  | odk xs => obtain ⟨a, h1, h2, h3⟩ := h; exact ⟨a, h1, c.back h2, h3⟩
  | odt xs => obtain ⟨a, h1, h2, h3⟩ := h; exact ⟨a, h1, c.back h2, h3⟩
  | odl xs => obtain ⟨a, h1, h2, h3⟩ := h; exact ⟨a, h1, c.back h2, h3⟩
theorem Post.later {res : R × Env} (c : Chg o H0 H1) (h : Post K mg E P o σ H0 Q res) : Post K mg E P o σ H1 Q res := by
  obtain ⟨r, ρ'⟩ := res
  cases r with
  | ok s => exact fun v H' c' k => h v H' (c.trans c') (OkP.older c k)
  | ex x p => exact fun cls dx H' c' k => h cls dx H' (c.trans c') k
theorem tE_mono (i : ∀ v H, Q v H → Q' v H) (h : tE K mg E f σ H Q) : tE K mg E f σ H Q' := by
  obtain ⟨P, o, ρ, res, a, e, q⟩ := h
  refine ⟨P, o, ρ, res, a, e, ?_⟩
  obtain ⟨r, ρ'⟩ := res
  cases r with
  | ok s => exact fun v H' c k => i _ _ (q v H' c k)
  | ex x p => exact q
/-- data of what is held: an own list becomes plain data -/
def S.toD : S → Option D
  | .dat d => some d
  | .own xs => some (.list xs)
  | _ => none
theorem OkP.toD {s : S} (h : OkP K P o ρ σ H0 H v s) (e : s.toD = some d) : At K P o ρ σ H ∧ Dp K (hd (hid P o) H) v d := by
  cases s with
  | dat d' => cases e; exact h
  | own xs =>
    cases e
    obtain ⟨a, rfl, h2, hn, h3, vs, h4, h5⟩ := h
    have hno : ∀ b, hid P o b → hid (plusA P a) o b := fun b z => z.elim (fun z => .inl (.inl z)) .inr
    exact ⟨h3.less fun b z => .inl z, .lst (.inl (.inl (hd_some.mpr ⟨hn, h4⟩))) (dps_mono (ex_hd_le hno) h5)⟩
  | odk _ => cases e
  | odt _ => cases e
  | odl _ => cases e
end
end DL

namespace DL
open PySem PySem.Spec L2
variable [TheW]
section
variable {K : PySem.W.Frag} {P : Addr → Prop} {o : Ow} {ρ : Env} {σ : St} {H H' H0 H1 : Hp}
theorem At.plusE (h : At K P o ρ σ H) {p : Addr} {u : HO} (hp : H p = none) (e : Ex H H') (hu : H' p = some u) : At K (plusA P p) o ρ σ H' := by
  have ex : Ex (hd (hid P o) H) (hd (hid (plusA P p) o) H') := fun a w q => by
    obtain ⟨n, q⟩ := hd_some.mp q
    have hne : a ≠ p := ne_of_none q hp
    refine hd_some.mpr ⟨fun z => ?_, e a w q⟩
    rcases z with (z | z) | z
    · exact n (.inl z)
    · exact hne z
    · exact n (.inr z)
  refine ⟨h.len, fun a q => ?_, h.inj, fun i a q z => z.elim (h.dis i a q) (h.ownNe q hp), fun i a q => ?_, fun i d q hs => ?_, h.ow⟩
  · rcases q with q | q
    · obtain ⟨w, k⟩ := h.dom a q
      exact ⟨w, e a w k⟩
    · subst q
      exact ⟨u, hu⟩
  · obtain ⟨s, h1, h2, h3⟩ := h.has i a q
    exact ⟨s, h1, h2, h3.imp ex fun w z => e a w z⟩
  · obtain ⟨v, h1, h2⟩ := h.dat i d q hs
    exact ⟨v, h1, dok_mono ex h2⟩
/-- a value's result, P hidden -/
def VOk (K : PySem.W.Frag) (P : Addr → Prop) (H0 H : Hp) (v : V) : S → Prop
  | .dat d => Dp K (hd P H) v d
  | s => ∃ p, v = .ref p ∧ H0 p = none ∧ OwnOk K (hd (plusA P p) H) H p s
theorem VOk.ok (a : At K P o ρ σ H) (e : Ex H H') {v : V} {s : S} (h : VOk K (hid P o) H H' v s) : OkP K P o ρ σ H H' v s := by
  have hh : ∀ p, hd (plusA (hid P o) p) H' = hd (hid (plusA P p) o) H' := fun p => by
    have e : plusA (hid P o) p = hid (plusA P p) o := funext fun a => propext ⟨fun z => by
      rcases z with (z | z) | z
      · exact .inl (.inl z)
      · exact .inr z
      · exact .inl (.inr z), fun z => by
      rcases z with (z | z) | z
      · exact .inl (.inl z)
      · exact .inr z
      · exact .inl (.inr z)⟩
    rw [e]
  have gen : ∀ p, H p = none → v = .ref p → OwnOk K (hd (plusA (hid P o) p) H') H' p s → ∃ a, v = .ref a ∧ H a = none ∧ ¬ hid P o a ∧ At K (plusA P a) o ρ σ H' ∧ OwnOk K (hd (hid (plusA P a) o) H') H' a s := fun p hp hv ho => by
    obtain ⟨u, hu⟩ := ho.there
    refine ⟨p, hv, hp, fun z => ?_, a.plusE hp e hu, ?_⟩
    · obtain ⟨w, k⟩ := a.domH z
      rw [hp] at k
      cases k
    · rw [hh] at ho
      exact ho
  cases s with
  | dat d => exact ⟨a.ext e, h⟩
  | own xs => obtain ⟨p, h1, h2, h3⟩ := h; exact gen p h2 h1 h3
  | odk xs => obtain ⟨p, h1, h2, h3⟩ := h; exact gen p h2 h1 h3
  | odt xs => obtain ⟨p, h1, h2, h3⟩ := h; exact gen p h2 h1 h3
  | odl xs => obtain ⟨p, h1, h2, h3⟩ := h; exact gen p h2 h1 h3
end

/-! ### the mirrors' words -/
def bindE (f : EM) (k : S → EM) : EM := fun ρ => match f ρ with
  | some (.ok s, ρ1) => k s ρ1
  | some (.ex c p, ρ1) => some (.ex c p, ρ1)
  | none => none
def failE : EM := fun _ => none
def retS (s : S) : EM := fun ρ => some (.ok s, ρ)
def retD (d : D) : EM := fun ρ => some (.ok (.dat d), ρ)
def optD (d : Option D) : EM := fun ρ => match d with
  | some d => some (.ok (.dat d), ρ)
  | none => none
def optS (d : Option S) : EM := fun ρ => match d with
  | some d => some (.ok d, ρ)
  | none => none
def bindD (f : EM) (k : D → EM) : EM := bindE f fun s => match s.toD with
  | some d => k d
  | none => failE
def mV (i : Nat) : EM := fun ρ => match ρ[i]? with
  | some (some (.dat d)) => some (.ok (.dat d), ρ)
  | _ => none
def mC (d : D) : EM := retD d
def op2 (g : D → D → Option D) (fa fb : EM) : EM := bindD fa fun x => bindD fb fun y => optD (g x y)
def op1 (g : D → Option D) (fa : EM) : EM := bindD fa fun x => optD (g x)

section
variable {K : PySem.W.Frag} {mg : Str → Option Value} {E : XK} {P : Addr → Prop} {o : Ow} {ρ : Env} {σ : St} {H H' H0 H1 : Hp} {Q Q' : VK} {f : EM} {k : S → EM} {v : V} {d : D} {res : R × Env}
/-- THE STEP: f is evaluated, then k goes on -/
theorem bind_go (a : At K P o ρ σ H) (c : Chg o H0 H) (e : bindE f k ρ = some res) (p : Post K mg E P o σ H0 Q res) :
    tE K mg E f σ H fun x H1 => ∃ ρ1 s, Chg o H H1 ∧ Chg o H0 H1 ∧ OkP K P o ρ1 σ H H1 x s ∧ k s ρ1 = some res := by
  unfold bindE at e
  cases hf : f ρ with
  | none => rw [hf] at e; cases e
  | some r1 =>
    obtain ⟨r, ρ1⟩ := r1
    rw [hf] at e
    refine ⟨P, o, ρ, _, a, hf, ?_⟩
    cases r with
    | ok s => exact fun x H1 c1 q => ⟨ρ1, s, c1, c.trans c1, q, e⟩
    | ex n pl =>
      cases e
      exact fun cls dx H1 c1 a1 x => p cls dx H1 (c.trans c1) a1 x
theorem bindD_go {k : D → EM} (a : At K P o ρ σ H) (c : Chg o H0 H) (e : bindD f k ρ = some res) (p : Post K mg E P o σ H0 Q res) :
    tE K mg E f σ H fun x H1 => ∃ ρ1 d, Chg o H H1 ∧ Chg o H0 H1 ∧ At K P o ρ1 σ H1 ∧ Dp K (hd (hid P o) H1) x d ∧ k d ρ1 = some res := by
  refine tE_mono (fun x H1 h => ?_) (bind_go a c e p)
  obtain ⟨ρ1, s, c1, c2, q, e⟩ := h
  cases hs : s.toD with
  | none => rw [hs] at e; cases e
  | some d =>
    rw [hs] at e
    exact ⟨ρ1, d, c1, c2, (q.toD hs).1, (q.toD hs).2, e⟩
theorem optD_some {x : Option D} (e : optD x ρ = some res) : ∃ d, x = some d ∧ res = (.ok (.dat d), ρ) := by
  cases x with
  | none => cases e
  | some d => cases e; exact ⟨d, rfl, rfl⟩
theorem optS_some {x : Option S} (e : optS x ρ = some res) : ∃ d, x = some d ∧ res = (.ok d, ρ) := by
  cases x with
  | none => cases e
  | some d => cases e; exact ⟨d, rfl, rfl⟩
end

/-! ### operations, by values -/
def OpD (K : PySem.W.Frag) (r : R2) (g : D → D → Option D) : Prop := ∀ (P : Addr → Prop) (H : Hp) (x y : V) (d e z : D), (∀ a, P a → ∃ u, H a = some u) → Dp K (hd P H) x d → Dp K (hd P H) y e → g d e = some z →
  ∀ Q : VK, (∀ v H', Ex H H' → Dp K (hd P H') v z → Q v H') → r x y H Q
def CallD (K : PySem.W.Frag) (r : List V → Hp → VK → Prop) (g : List D → Option S) : Prop := ∀ (P : Addr → Prop) (H : Hp) (vs : List V) (ds : List D) (z : S), (∀ a, P a → ∃ u, H a = some u) → DpAll K (hd P H) vs ds → g ds = some z →
  ∀ Q : VK, (∀ v H', Ex H H' → VOk K P H H' v z → Q v H') → r vs H Q

section
variable {X : Cx} {E : XK} {e a b : Expr} {fa fb : EM} {pos : Pos}
theorem pd_var {i : Nat} {x : Str} (hN : X.N[i]? = some x) (hv : Vis X.env.scope x) (hd : (x == ("__debug__" : Str)) = false := by decide) (hcd : (x == ("__classdict__" : Str)) = false := by decide) : PD X E (.Name x pos) (mV i) := by
  refine PE.imp (pe_var hN hv hd hcd) fun σ H Q h => ?_
  obtain ⟨P, o, ρ, res, at0, e, p⟩ := h
  unfold mV at e
  cases hi : ρ[i]? with
  | none => rw [hi] at e; cases e
  | some s =>
    rw [hi] at e
    cases s with
    | none => cases e
    | some s =>
      cases s with
      | dat d =>
        cases e
        obtain ⟨v, h1, h2⟩ := at0.dat i _ hi rfl
        exact ⟨v, h1, p v H .refl ⟨at0, h2⟩⟩
      | own _ => cases e
      | odk _ => cases e
      | odt _ => cases e
      | odl _ => cases e
theorem pd_const {v : V} {d : D} (h : PE X e (tC v)) (r : ∀ K H, Dp K H v d) : PD X E e (mC d) := by
  refine PE.imp h fun σ H Q h => ?_
  obtain ⟨P, o, ρ, res, at0, e, p⟩ := h
  cases e
  exact p v H .refl ⟨at0, r _ _⟩
theorem pd_int {i j} : PD X E (.Constant (.int i) j pos) (mC (.int i)) := pd_const pe_int fun _ _ => .int i
theorem pd_bl {i j} : PD X E (.Constant (.bool i) j pos) (mC (.bool i)) := pd_const pe_bl fun _ _ => .bl i
theorem pd_str {i j} : PD X E (.Constant (.str i) j pos) (mC (.str i)) := pd_const pe_str fun _ _ => .str i
theorem pd_non {j} : PD X E (.Constant .none j pos) (mC .none) := pd_const pe_non fun _ _ => .non
theorem op2_imp {K : PySem.W.Frag} {mg : Str → Option Value} {r : R2} {g : D → D → Option D} (hg : OpD K r g) {σ : St} {H : Hp} {Q : VK} (h : tE K mg E (op2 g fa fb) σ H Q) : tOp r (tE K mg E fa) (tE K mg E fb) σ H Q := by
  obtain ⟨P, o, ρ, res, at0, e, p⟩ := h
  refine tE_mono (fun x H1 h => ?_) (bindD_go at0 .refl e p)
  obtain ⟨ρ1, d, c1, c2, at1, dx, e⟩ := h
  refine tE_mono (fun y H2 h => ?_) (bindD_go at1 c2 e p)
  obtain ⟨ρ2, d', c3, c4, at2, dy, e⟩ := h
  obtain ⟨z, hz, rfl⟩ := optD_some e
  refine hg (hid P o) H2 x y d d' z (fun a q => at2.domH q) (dp_mono c3.ex dx) dy hz Q fun v H' ex dv => ?_
  exact p v H' (c4.trans (.of ex)) ⟨at2.ext ex, dv⟩
theorem pd_op {op : Operator} {r : R2} {g : D → D → Option D} (ho : OpR X (binaryOp op) r) (hg : OpD X.K r g) (ha : PD X E a fa) (hb : PD X E b fb) : PD X E (.BinOp a op b pos) (op2 g fa fb) :=
  PE.imp (pe_op ho ha hb) fun _ _ _ h => op2_imp hg h
theorem pd_cmp {op : CmpOp} {r : R2} {g : D → D → Option D} (ho : OpR X (compareOp op) r) (hg : OpD X.K r g) (ha : PD X E a fa) (hb : PD X E b fb) (hm : behindInMarks op b = false) : PD X E (.Compare a [op] [b] pos) (op2 g fa fb) :=
  PE.imp (pe_cmpR ho ha hb hm) fun _ _ _ h => op2_imp hg h
theorem pd_ix {r : R2} {g : D → D → Option D} (hr : IxR X r) (hg : OpD X.K r g) (ha : PD X E a fa) (hb : PD X E b fb) (hs : PlainIx b) : PD X E (.Subscript a b pos) (op2 g fa fb) :=
  PE.imp (pe_ix hr ha hb hs) fun _ _ _ h => op2_imp hg h
def UnD (K : PySem.W.Frag) (r : V → Hp → VK → Prop) (g : D → Option D) : Prop := ∀ (P : Addr → Prop) (H : Hp) (x : V) (d z : D), Dp K (hd P H) x d → g d = some z → ∀ Q : VK, (∀ v H', Ex H H' → Dp K (hd P H') v z → Q v H') → r x H Q
theorem pd_un {op : UnaryOp} {r : V → Hp → VK → Prop} {g : D → Option D} (ho : UnR X (unaryOp op) r) (hg : UnD X.K r g) (ha : PD X E a fa) : PD X E (.UnaryOp op a pos) (op1 g fa) := by
  refine PE.imp (pe_un ho ha) fun σ H Q h => ?_
  obtain ⟨P, o, ρ, res, at0, e, p⟩ := h
  refine tE_mono (fun x H1 h => ?_) (bindD_go at0 .refl e p)
  obtain ⟨ρ1, d, c1, c2, at1, dx, e⟩ := h
  obtain ⟨z, hz, rfl⟩ := optD_some e
  exact hg (hid P o) H1 x d z dx hz Q fun v H' ex dv => p v H' (c2.trans (.of ex)) ⟨at1.ext ex, dv⟩
end
end DL

namespace DL
open PySem PySem.Spec L2
variable [TheW]

/-! ### tests -/
def ExPost (K : PySem.W.Frag) (mg : Str → Option Value) (E : XK) (P : Addr → Prop) (o : Ow) (ρ' : Env) (σ : St) (H : Hp) (c : Str) (p : Option D) : Prop :=
  ∀ cls dx H', Chg o H H' → At K P o ρ' σ H' → XR K mg (hd (hid P o) H') H' c p cls dx → E cls dx H'
theorem ExPost.later {K : PySem.W.Frag} {mg : Str → Option Value} {E : XK} {P : Addr → Prop} {o : Ow} {ρ' : Env} {σ : St} {H H1 : Hp} {c : Str} {p : Option D} (h : ExPost K mg E P o ρ' σ H c p) (k : Chg o H H1) : ExPost K mg E P o ρ' σ H1 c p :=
  fun cls dx H' c' => h cls dx H' (k.trans c')
def PostT (K : PySem.W.Frag) (mg : Str → Option Value) (E : XK) (P : Addr → Prop) (o : Ow) (σ : St) (H : Hp) (Q : Bool → Hp → Prop) : R × Env → Prop
  | (.ok (.dat (.bool b)), ρ') => ∀ H', Chg o H H' → At K P o ρ' σ H' → Q b H'
  | (.ok _, _) => False
  | (.ex c p, ρ') => ExPost K mg E P o ρ' σ H c p
def tT (K : PySem.W.Frag) (mg : Str → Option Value) (E : XK) (f : EM) : TT := fun σ H Q => ∃ P o ρ res, At K P o ρ σ H ∧ f ρ = some res ∧ PostT K mg E P o σ H Q res
abbrev PDT (X : Cx) (E : XK) (e : Expr) (f : EM) : Prop := PT X e (tT X.K X.mg E f)
abbrev PDW (X : Cx) (E : XK) (e : Expr) (f : EM) : Prop := PW X e (tT X.K X.mg E f)
def boolK (ka kb : EM) : D → EM
  | .bool true => ka
  | .bool false => kb
  | _ => failE
def mIfE (ft fa fb : EM) : EM := bindD ft (boolK fa fb)
def mAnd (fa fb : EM) : EM := bindD fa (boolK fb (retD (.bool false)))
def mOr (fa fb : EM) : EM := bindD fa (boolK (retD (.bool true)) fb)
def mNot (fa : EM) : EM := bindD fa (boolK (retD (.bool false)) (retD (.bool true)))
section
variable {K : PySem.W.Frag} {mg : Str → Option Value} {E : XK} {P : Addr → Prop} {o : Ow} {ρ : Env} {σ : St} {H H' H0 H1 : Hp} {f ka kb : EM} {d : D} {res : R × Env}
/-- a test is evaluated, then one of two ways is gone -/
theorem boolT_go (a : At K P o ρ σ H) (c : Chg o H0 H) (e : bindD f (boolK ka kb) ρ = some res) (px : ∀ n pl ρ', res = (.ex n pl, ρ') → ExPost K mg E P o ρ' σ H0 n pl) :
    tT K mg E f σ H fun b H1 => ∃ ρ1, Chg o H H1 ∧ Chg o H0 H1 ∧ At K P o ρ1 σ H1 ∧ (if b = true then ka ρ1 = some res else kb ρ1 = some res) := by
  unfold bindD bindE at e
  cases hf : f ρ with
  | none => rw [hf] at e; cases e
  | some r1 =>
    obtain ⟨r, ρ1⟩ := r1
    rw [hf] at e
    refine ⟨P, o, ρ, _, a, hf, ?_⟩
    cases r with
    | ok s =>
      cases s with
      | dat d =>
        cases d with
        | bool b => cases b with
          | true => exact fun H1 c1 a1 => ⟨ρ1, c1, c.trans c1, a1, e⟩
          | false => exact fun H1 c1 a1 => ⟨ρ1, c1, c.trans c1, a1, e⟩
        | _ => cases e
      | own _ => cases e
      | odk _ => cases e
      | odt _ => cases e
      | odl _ => cases e
    | ex n pl =>
      cases e
      exact (px n pl ρ1 rfl).later c
theorem Post.exp {Q : VK} (p : Post K mg E P o σ H Q res) : ∀ n pl ρ', res = (.ex n pl, ρ') → ExPost K mg E P o ρ' σ H n pl := fun n pl ρ' e => by
  subst e
  exact p
theorem PostT.exp {Q : Bool → Hp → Prop} (p : PostT K mg E P o σ H Q res) : ∀ n pl ρ', res = (.ex n pl, ρ') → ExPost K mg E P o ρ' σ H n pl := fun n pl ρ' e => by
  subst e
  exact p
/-- what is wanted of a test's end, by a known answer -/
theorem PostT.ret {Q : Bool → Hp → Prop} {b : Bool} (p : PostT K mg E P o σ H Q res) (c : Chg o H H1) (a : At K P o ρ σ H1) (e : retD (.bool b) ρ = some res) : Q b H1 := by
  cases e
  exact p H1 c a
theorem PostT.later {Q : Bool → Hp → Prop} (c : Chg o H H1) (p : PostT K mg E P o σ H Q res) : PostT K mg E P o σ H1 Q res := by
  obtain ⟨r, ρ'⟩ := res
  cases r with
  | ok s =>
    cases s with
    | dat d => cases d <;> first | exact fun H' c' => p H' (c.trans c') | exact False.elim p
    | own _ => exact False.elim p
    | odk _ => exact False.elim p
    | odt _ => exact False.elim p
    | odl _ => exact False.elim p
  | ex n pl => exact ExPost.later p c
theorem PostT.imp {Q Q' : Bool → Hp → Prop} (i : ∀ b H, Q b H → Q' b H) (p : PostT K mg E P o σ H Q res) : PostT K mg E P o σ H Q' res := by
  obtain ⟨r, ρ'⟩ := res
  cases r with
  | ok s =>
    cases s with
    | dat d => cases d <;> first | exact fun H' c' a => i _ _ (p H' c' a) | exact False.elim p
    | own _ => exact False.elim p
    | odk _ => exact False.elim p
    | odt _ => exact False.elim p
    | odl _ => exact False.elim p
  | ex n pl => exact p
theorem tT_mono {Q Q' : Bool → Hp → Prop} (i : ∀ b H, Q b H → Q' b H) (h : tT K mg E f σ H Q) : tT K mg E f σ H Q' := by
  obtain ⟨P, o, ρ, res, a, e, q⟩ := h
  exact ⟨P, o, ρ, res, a, e, q.imp i⟩
theorem Post.ret {Q : VK} (p : Post K mg E P o σ H Q res) (c : Chg o H H1) (a : At K P o ρ σ H1) (e : retD d ρ = some res) {v : V} (r : Dp K (hd (hid P o) H1) v d) : Q v H1 := by
  cases e
  exact p v H1 c ⟨a, r⟩
/-- a value's post, as a test's -/
theorem PostT.val {Q : Bool → Hp → Prop} (p : PostT K mg E P o σ H Q res) : Post K mg E P o σ H (fun x H1 => ∃ c, x = .bl c ∧ Q c H1) res := by
  obtain ⟨r, ρ'⟩ := res
  cases r with
  | ok s =>
    cases s with
    | dat d =>
      cases d with
      | bool b =>
        intro v H' c k
        obtain ⟨a, k⟩ := k
        cases k
        exact ⟨b, rfl, p H' c a⟩
      | _ => exact False.elim p
    | own _ => exact False.elim p
    | odk _ => exact False.elim p
    | odt _ => exact False.elim p
    | odl _ => exact False.elim p
  | ex n pl => exact p
end
section
variable {X : Cx} {E : XK} {e a b c : Expr} {fa fb fc : EM} {pos : Pos} {rest : List Expr}
theorem pdt_val (h : PD X E e fa) (he : ∀ whole, isTrue e X.env whole = (do let v ← whole; standAt e.pos; holding [v] (truthy v)) := by intro _; rfl) : PDT X E e fa := by
  refine PT.imp (pt_val h he) fun σ H Q h => ?_
  obtain ⟨P, o, ρ, res, a, e, p⟩ := h
  exact ⟨P, o, ρ, res, a, e, p.val⟩
theorem pdt_cmp {op : CmpOp} {r : R2} {g : D → D → Option D} (ho : OpR X (compareOp op) r) (hg : OpD X.K r g) (ha : PD X E a fa) (hb : PD X E b fb) (hm : behindInMarks op b = false) : PDT X E (.Compare a [op] [b] pos) (op2 g fa fb) := by
  refine PT.imp (pt_cmpR ho ha hb hm) fun σ H Q h => ?_
  obtain ⟨P, o, ρ, res, a, e, p⟩ := h
  exact op2_imp hg ⟨P, o, ρ, res, a, e, p.val⟩
theorem pdt_not (ha : PDT X E a fa) : PDT X E (.UnaryOp .Not a pos) (mNot fa) := by
  refine PT.imp (pt_not ha) fun σ H Q h => ?_
  obtain ⟨P, o, ρ, res, a, e, p⟩ := h
  refine tT_mono (fun b H1 h => ?_) (boolT_go a .refl e p.exp)
  obtain ⟨ρ1, c1, c2, a1, e⟩ := h
  cases b with
  | true => exact p.ret c1 a1 e
  | false => exact p.ret c1 a1 e
theorem pd_not (ha : PD X E a fa) : PD X E (.UnaryOp .Not a pos) (mNot fa) := by
  refine PE.imp (pe_not ha) fun σ H Q h => ?_
  obtain ⟨P, o, ρ, res, a, e, p⟩ := h
  refine tE_mono (fun x H1 h => ?_) (bindD_go a .refl e p)
  obtain ⟨ρ1, d, c1, c2, a1, dx, e⟩ := h
  cases d with
  | bool b =>
    cases dx
    cases b with
    | true => exact ⟨true, rfl, p.ret c1 a1 e (.bl _)⟩
    | false => exact ⟨false, rfl, p.ret c1 a1 e (.bl _)⟩
  | _ => cases e
theorem pdw_and1 (ha : PDT X E a fa) : PDW X E (.BoolOp .And [a] pos) fa := pw_and1 ha
theorem pdw_or1 (ha : PDT X E a fa) : PDW X E (.BoolOp .Or [a] pos) fa := pw_or1 ha
theorem PW.imp {X : Cx} {e : Expr} {t t' : TT} (h : PW X e t) (i : ∀ σ H Q, t' σ H Q → t σ H Q) : PW X e t' := ⟨fun w pins s σ H Q I q => h.run w pins s σ H Q I (i σ H Q q)⟩
theorem pdw_and (ha : PDT X E a fa) (hb : PDW X E (.BoolOp .And (b :: rest) pos) fb) : PDW X E (.BoolOp .And (a :: b :: rest) pos) (mAnd fa fb) := by
  refine PW.imp (pw_and ha hb) fun σ H Q h => ?_
  obtain ⟨P, o, ρ, res, a, e, p⟩ := h
  refine tT_mono (fun b H1 h => ?_) (boolT_go a .refl e p.exp)
  obtain ⟨ρ1, c1, c2, a1, e⟩ := h
  cases b with
  | true => exact ⟨P, o, ρ1, res, a1, e, p.later c1⟩
  | false => exact p.ret c1 a1 e
theorem pdw_or (ha : PDT X E a fa) (hb : PDW X E (.BoolOp .Or (b :: rest) pos) fb) : PDW X E (.BoolOp .Or (a :: b :: rest) pos) (mOr fa fb) := by
  refine PW.imp (pw_or ha hb) fun σ H Q h => ?_
  obtain ⟨P, o, ρ, res, a, e, p⟩ := h
  refine tT_mono (fun b H1 h => ?_) (boolT_go a .refl e p.exp)
  obtain ⟨ρ1, c1, c2, a1, e⟩ := h
  cases b with
  | true => exact p.ret c1 a1 e
  | false => exact ⟨P, o, ρ1, res, a1, e, p.later c1⟩
theorem pdt_w (h : PDW X E a fa) : PDT X E a fa := h.pt
theorem pd_one {op} (h : PD X E a fa) : PD X E (.BoolOp op [a] pos) fa := pe_one h
theorem pd_and (ha : PD X E a fa) (hb : PD X E (.BoolOp .And (b :: rest) pos) fb) : PD X E (.BoolOp .And (a :: b :: rest) pos) (mAnd fa fb) := by
  refine PE.imp (pe_and ha hb) fun σ H Q h => ?_
  obtain ⟨P, o, ρ, res, a, e, p⟩ := h
  refine tE_mono (fun x H1 h => ?_) (bindD_go a .refl e p)
  obtain ⟨ρ1, d, c1, c2, a1, dx, e⟩ := h
  cases d with
  | bool b =>
    cases dx
    cases b with
    | true => exact ⟨true, rfl, P, o, ρ1, res, a1, e, p.later c1⟩
    | false => exact ⟨false, rfl, p.ret c1 a1 e (.bl _)⟩
  | _ => cases e
theorem pd_or (ha : PD X E a fa) (hb : PD X E (.BoolOp .Or (b :: rest) pos) fb) : PD X E (.BoolOp .Or (a :: b :: rest) pos) (mOr fa fb) := by
  refine PE.imp (pe_or ha hb) fun σ H Q h => ?_
  obtain ⟨P, o, ρ, res, a, e, p⟩ := h
  refine tE_mono (fun x H1 h => ?_) (bindD_go a .refl e p)
  obtain ⟨ρ1, d, c1, c2, a1, dx, e⟩ := h
  cases d with
  | bool b =>
    cases dx
    cases b with
    | true => exact ⟨true, rfl, p.ret c1 a1 e (.bl _)⟩
    | false => exact ⟨false, rfl, P, o, ρ1, res, a1, e, p.later c1⟩
  | _ => cases e
theorem pd_if (hc : PDT X E c fc) (ha : PD X E a fa) (hb : PD X E b fb) : PD X E (.IfExp c a b pos) (mIfE fc fa fb) := by
  refine PE.imp (pe_ifExp hc ha hb) fun σ H Q h => ?_
  obtain ⟨P, o, ρ, res, a, e, p⟩ := h
  refine tT_mono (fun b H1 h => ?_) (boolT_go a .refl e p.exp)
  obtain ⟨ρ1, c1, c2, a1, e⟩ := h
  cases b with
  | true => exact ⟨P, o, ρ1, res, a1, e, p.later c1⟩
  | false => exact ⟨P, o, ρ1, res, a1, e, p.later c1⟩
/-- low <= value <= high -/
def mChain (g g' : D → D → Option D) (fa fb fc : EM) : EM := bindD fa fun x => bindD fb fun y => bindD (optD (g x y)) (boolK (bindD fc fun z => optD (g' y z)) (retD (.bool false)))
theorem chain_imp {K : PySem.W.Frag} {mg : Str → Option Value} {r r' : R2} {g g' : D → D → Option D} (hg : OpD K r g) (hg' : OpD K r' g') {σ : St} {H : Hp} {Q : VK} (h : tE K mg E (mChain g g' fa fb fc) σ H Q) : tChain r r' (tE K mg E fa) (tE K mg E fb) (tE K mg E fc) σ H Q := by
  obtain ⟨P, o, ρ, res, at0, e, p⟩ := h
  refine tE_mono (fun x H1 h => ?_) (bindD_go at0 .refl e p)
  obtain ⟨ρ1, d, c1, c2, at1, dx, e⟩ := h
  refine tE_mono (fun y H2 h => ?_) (bindD_go at1 c2 e p)
  obtain ⟨ρ2, d', c3, c4, at2, dy, e⟩ := h
  unfold bindD bindE optD at e
  cases hz : g d d' with
  | none => rw [hz] at e; cases e
  | some z =>
    rw [hz] at e
    refine hg (hid P o) H2 x y d d' z (fun a q => at2.domH q) (dp_mono c3.ex dx) dy hz _ fun v H3 ex dv => ?_
    cases z with
    | bool b =>
      cases dv
      refine ⟨b, rfl, ?_⟩
      cases b with
      | false =>
        have e : retD (.bool false) ρ2 = some res := e
        exact p.ret (c4.trans (.of ex)) (at2.ext ex) e (.bl _)
      | true =>
        have e : bindD fc (fun z => optD (g' d' z)) ρ2 = some res := e
        refine tE_mono (fun w H4 h => ?_) (bindD_go (at2.ext ex) (c4.trans (.of ex)) e p)
        obtain ⟨ρ4, d4, c5, c6, at4, dw, e⟩ := h
        obtain ⟨z, hz, rfl⟩ := optD_some e
        refine hg' (hid P o) H4 y w d' d4 z (fun a q => at4.domH q) (dp_mono ((Chg.of ex).trans c5).ex dy) dw hz Q fun v H' ex' dv => ?_
        exact p v H' (c6.trans (.of ex')) ⟨at4.ext ex', dv⟩
    | _ => cases e
theorem pd_chain {op op' : CmpOp} {r r' : R2} {g g' : D → D → Option D} (ho : OpR X (compareOp op) r) (hg : OpD X.K r g) (ho' : OpR X (compareOp op') r') (hg' : OpD X.K r' g') (ha : PD X E a fa) (hb : PD X E b fb) (hc : PD X E c fc)
    (hm : lastMarks [op, op'] [b, c] = false := by with_unfolding_all rfl) : PD X E (.Compare a [op, op'] [b, c] pos) (mChain g g' fa fb fc) :=
  PE.imp (pe_chain ho ho' ha hb hc hm) fun _ _ _ h => chain_imp hg hg' h
theorem pdt_chain {op op' : CmpOp} {r r' : R2} {g g' : D → D → Option D} (ho : OpR X (compareOp op) r) (hg : OpD X.K r g) (ho' : OpR X (compareOp op') r') (hg' : OpD X.K r' g') (ha : PD X E a fa) (hb : PD X E b fb) (hc : PD X E c fc)
    (hm : lastMarks [op, op'] [b, c] = false := by with_unfolding_all rfl) : PDT X E (.Compare a [op, op'] [b, c] pos) (mChain g g' fa fb fc) :=
  PT.imp (pt_chain ho ho' ha hb hc hm) fun σ H Q h => by
    obtain ⟨P, o, ρ, res, a, e, p⟩ := h
    exact chain_imp hg hg' ⟨P, o, ρ, res, a, e, p.val⟩
end
end DL

namespace DL
open PySem PySem.Spec L2
variable [TheW]

/-! ### arguments -/
inductive Arg where
  | dat (d : D)
  | ref (i : Nat)
abbrev AM := Env → Option (Sum (List Arg) (Str × Option D) × Env)
def mA0 : AM := fun ρ => some (.inl [], ρ)
def consA (a : Arg) : Option (Sum (List Arg) (Str × Option D) × Env) → Option (Sum (List Arg) (Str × Option D) × Env)
  | some (.inl as, ρ) => some (.inl (a :: as), ρ)
  | some (.inr x, ρ) => some (.inr x, ρ)
  | none => none
def mAc (f : EM) (fs : AM) : AM := fun ρ => match f ρ with
  | some (.ok s, ρ1) => (match s.toD with
    | some d => consA (.dat d) (fs ρ1)
    | none => none)
  | some (.ex c p, ρ1) => some (.inr (c, p), ρ1)
  | none => none
/-- an own object of slot i, handed on -/
def mAr (i : Nat) (fs : AM) : AM := fun ρ => match ρ[i]? with
  | some (some s) => if s.isOwn = true then consA (.ref i) (fs ρ) else none
  | _ => none
inductive ArgOk (K : PySem.W.Frag) (G : Hp) (o : Ow) : List V → List Arg → Prop where
  | nil : ArgOk K G o [] []
  | dat {v : V} {d : D} {vs : List V} {as : List Arg} : Dp K G v d → ArgOk K G o vs as → ArgOk K G o (v :: vs) (.dat d :: as)
  | ref {i : Nat} {a : Addr} {vs : List V} {as : List Arg} : o i = some a → ArgOk K G o vs as → ArgOk K G o (.ref a :: vs) (.ref i :: as)
theorem ArgOk.mono {K : PySem.W.Frag} {G G' : Hp} {o : Ow} (e : Ex G G') : ∀ {vs : List V} {as : List Arg}, ArgOk K G o vs as → ArgOk K G' o vs as
  | _, _, .nil => .nil
  | _, _, .dat h r => .dat (dp_mono e h) (ArgOk.mono e r)
  | _, _, .ref h r => .ref h (ArgOk.mono e r)
def PostA (K : PySem.W.Frag) (mg : Str → Option Value) (E : XK) (P : Addr → Prop) (o : Ow) (σ : St) (H : Hp) (Q : List V → Hp → Prop) : Sum (List Arg) (Str × Option D) × Env → Prop
  | (.inl as, ρ') => ∀ vs H', Chg o H H' → At K P o ρ' σ H' → ArgOk K (hd (hid P o) H') o vs as → Q vs H'
  | (.inr (c, p), ρ') => ExPost K mg E P o ρ' σ H c p
def tA (K : PySem.W.Frag) (mg : Str → Option Value) (E : XK) (f : AM) : TA := fun σ H Q => ∃ P o ρ res, At K P o ρ σ H ∧ f ρ = some res ∧ PostA K mg E P o σ H Q res
abbrev PDA (X : Cx) (E : XK) (es : List Expr) (f : AM) : Prop := PA X es (tA X.K X.mg E f)
theorem PA.imp {X : Cx} {es : List Expr} {t t' : TA} (h : PA X es t) (i : ∀ σ H Q, t' σ H Q → t σ H Q) : PA X es t' := ⟨fun pos pins s σ H Q I q => h.run pos pins s σ H Q I (i σ H Q q)⟩
theorem tA_mono {K : PySem.W.Frag} {mg : Str → Option Value} {E : XK} {f : AM} {σ : St} {H : Hp} {Q Q' : List V → Hp → Prop} (i : ∀ v H, Q v H → Q' v H) (h : tA K mg E f σ H Q) : tA K mg E f σ H Q' := by
  obtain ⟨P, o, ρ, res, a, e, q⟩ := h
  refine ⟨P, o, ρ, res, a, e, ?_⟩
  obtain ⟨r, ρ'⟩ := res
  cases r with
  | inl s => exact fun v H' c k w => i _ _ (q v H' c k w)
  | inr x => exact q
theorem PostA.later {K : PySem.W.Frag} {mg : Str → Option Value} {E : XK} {P : Addr → Prop} {o : Ow} {σ : St} {H H1 : Hp} {Q : List V → Hp → Prop} {res : Sum (List Arg) (Str × Option D) × Env} (c : Chg o H H1) (h : PostA K mg E P o σ H Q res) : PostA K mg E P o σ H1 Q res := by
  obtain ⟨r, ρ'⟩ := res
  cases r with
  | inl s => exact fun v H' c' k w => h v H' (c.trans c') k w
  | inr x => exact ExPost.later h c
theorem consA_inl {a : Arg} {r : Option (Sum (List Arg) (Str × Option D) × Env)} {res : Sum (List Arg) (Str × Option D) × Env} (h : consA a r = some res) :
    (∃ as ρ', r = some (.inl as, ρ') ∧ res = (.inl (a :: as), ρ')) ∨ (∃ x ρ', r = some (.inr x, ρ') ∧ res = (.inr x, ρ')) := by
  cases r with
  | none => cases h
  | some r =>
    obtain ⟨r, ρ'⟩ := r
    cases r with
    | inl as => cases h; exact .inl ⟨as, ρ', rfl, rfl⟩
    | inr x => cases h; exact .inr ⟨x, ρ', rfl, rfl⟩
section
variable {X : Cx} {E : XK} {e : Expr} {es : List Expr} {fe : EM} {fs : AM} {pos : Pos}
theorem pda_nil : PDA X E [] mA0 := PA.imp pa_nil fun σ H Q h => by
  obtain ⟨P, o, ρ, res, a, e, p⟩ := h
  cases e
  exact p [] H .refl a .nil
theorem pda_cons (he : PD X E e fe) (hr : PDA X E es fs) (hs : starEach (e :: es) X.env = (false, eval e X.env) :: starEach es X.env := by rfl) : PDA X E (e :: es) (mAc fe fs) := by
  refine PA.imp (pa_cons he hr hs) fun σ H Q h => ?_
  obtain ⟨P, o, ρ, res, a, e, p⟩ := h
  unfold mAc at e
  cases hf : fe ρ with
  | none => rw [hf] at e; cases e
  | some r1 =>
    obtain ⟨r, ρ1⟩ := r1
    rw [hf] at e
    refine ⟨P, o, ρ, _, a, hf, ?_⟩
    cases r with
    | ex n pl =>
      cases e
      exact p
    | ok s =>
      intro x H1 c1 ok
      cases hs : s.toD with
      | none => simp only [hs] at e; cases e
      | some d =>
        simp only [hs] at e
        obtain ⟨a1, dx⟩ := ok.toD hs
        rcases consA_inl e with ⟨as, ρ2, h2, rfl⟩ | ⟨y, ρ2, h2, rfl⟩
        · refine ⟨P, o, ρ1, _, a1, h2, fun vs H2 c2 a2 k => ?_⟩
          exact p (x :: vs) H2 (c1.trans c2) a2 (.dat (dp_mono c2.ex dx) k)
        · refine ⟨P, o, ρ1, _, a1, h2, ExPost.later p c1⟩
theorem pda_ref {i : Nat} {x : Str} {npos : Pos} (hN : X.N[i]? = some x) (hv : Vis X.env.scope x) (hr : PDA X E es fs) (hs : starEach (.Name x npos :: es) X.env = (false, eval (.Name x npos) X.env) :: starEach es X.env := by rfl)
    (hd : (x == ("__debug__" : Str)) = false := by decide) (hcd : (x == ("__classdict__" : Str)) = false := by decide) : PDA X E (.Name x npos :: es) (mAr i fs) := by
  refine PA.imp (pa_cons (pe_var hN hv hd hcd) hr hs) fun σ H Q h => ?_
  obtain ⟨P, o, ρ, res, a, e, p⟩ := h
  unfold mAr at e
  cases hi : ρ[i]? with
  | none => rw [hi] at e; cases e
  | some s =>
    rw [hi] at e
    cases s with
    | none => cases e
    | some s =>
      by_cases hs : s.isOwn = true
      · simp only [hs, if_true] at e
        obtain ⟨ad, ho⟩ := a.ow i s hi hs
        obtain ⟨s', h1, h2, _⟩ := a.has i ad ho
        refine ⟨.ref ad, h2, ?_⟩
        rcases consA_inl e with ⟨as, ρ2, h2, rfl⟩ | ⟨y, ρ2, h2, rfl⟩
        · exact ⟨P, o, ρ, _, a, h2, fun vs H2 c2 a2 k => p (.ref ad :: vs) H2 c2 a2 (.ref ho k)⟩
        · exact ⟨P, o, ρ, _, a, h2, p⟩
      · simp only [hs] at e
        cases e
end
/-- the data of arguments that are all data -/
def datsOf : List Arg → Option (List D)
  | [] => some []
  | .dat d :: r => (datsOf r).map (d :: ·)
  | .ref _ :: _ => none
theorem datsOf_ok {K : PySem.W.Frag} {G : Hp} {o : Ow} : ∀ {vs : List V} {as : List Arg} {ds : List D}, ArgOk K G o vs as → datsOf as = some ds → DpAll K G vs ds
  | _, _, _, .nil, e => by cases e; exact .nil
  | _, _, _, .dat (as := as) h r, e => by
    unfold datsOf at e
    cases hr : datsOf as with
    | none => rw [hr] at e; cases e
    | some ds => rw [hr] at e; cases e; exact .cons h (datsOf_ok r hr)
  | _, _, _, .ref _ _, e => by cases e
/-- a built-in's call, a display: g of the arguments' data -/
def mCB (g : List D → Option S) (fs : AM) : EM := fun ρ => match fs ρ with
  | some (.inl as, ρ1) => (match datsOf as with
    | some ds => optS (g ds) ρ1
    | none => none)
  | some (.inr (c, p), ρ1) => some (.ex c p, ρ1)
  | none => none
section
variable {K : PySem.W.Frag} {mg : Str → Option Value} {E : XK} {fs : AM} {r : List V → Hp → VK → Prop} {g : List D → Option S} {σ : St} {H : Hp} {Q : VK}
theorem cb_at {P : Addr → Prop} {o : Ow} {ρ : Env} {res : R × Env} (a : At K P o ρ σ H) (e : mCB g fs ρ = some res) (p : Post K mg E P o σ H Q res) :
    tA K mg E fs σ H fun vs H1 => ∃ ρ1 ds z, Chg o H H1 ∧ At K P o ρ1 σ H1 ∧ DpAll K (hd (hid P o) H1) vs ds ∧ g ds = some z ∧ ∀ v H', Chg o H1 H' → OkP K P o ρ1 σ H1 H' v z → Q v H' := by
  unfold mCB at e
  cases hf : fs ρ with
  | none => rw [hf] at e; cases e
  | some r1 =>
    obtain ⟨r, ρ1⟩ := r1
    rw [hf] at e
    refine ⟨P, o, ρ, _, a, hf, ?_⟩
    cases r with
    | inr x =>
      cases e
      exact p
    | inl as =>
      intro vs H1 c1 a1 k
      cases hd : datsOf as with
      | none => simp only [hd] at e; cases e
      | some ds =>
        simp only [hd] at e
        obtain ⟨z, hz, rfl⟩ := optS_some e
        exact ⟨ρ1, ds, z, c1, a1, datsOf_ok k hd, hz, fun v H' c2 ok => p v H' (c1.trans c2) (OkP.older c1 ok)⟩
theorem cb_go (h : tE K mg E (mCB g fs) σ H Q) : tA K mg E fs σ H fun vs H1 => ∃ P o ρ1 ds z, At K P o ρ1 σ H1 ∧ DpAll K (hd (hid P o) H1) vs ds ∧ g ds = some z ∧ ∀ v H', Chg o H1 H' → OkP K P o ρ1 σ H1 H' v z → Q v H' := by
  obtain ⟨P, o, ρ, res, a, e, p⟩ := h
  refine tA_mono (fun vs H1 h => ?_) (cb_at a e p)
  obtain ⟨ρ1, ds, z, _, h⟩ := h
  exact ⟨P, o, ρ1, ds, z, h⟩
theorem cb_imp (hg : CallD K r g) (h : tE K mg E (mCB g fs) σ H Q) : tCB r (tA K mg E fs) σ H Q := by
  refine tA_mono (fun vs H1 h => ?_) (cb_go h)
  obtain ⟨P, o, ρ1, ds, z, a1, k, hz, p⟩ := h
  exact hg (hid P o) H1 vs ds z (fun a q => a1.domH q) k hz Q fun v H' ex ok => p v H' (.of ex) (ok.ok a1 ex)
end
/-- a length that fits -/
def big : Nat := 1000000
theorem big_line {n : Nat} (h : n ≤ big) : n ≤ sizeLine := by
  have : sizeLine = 16777216 := sizeLine_eq
  unfold big at h
  omega
def gTup' (ds : List D) : Option S := if ds.length ≤ big then some (.dat (.tuple ds)) else none
def gLst (ds : List D) : Option S := if ds.length ≤ big then some (.dat (.list ds)) else none
def gLstO (ds : List D) : Option S := if ds.length ≤ big then some (.own ds) else none
section
variable {X : Cx} {E : XK} {e : Expr} {es : List Expr} {fe : EM} {fs : AM} {pos : Pos}
/-- a new tuple, a new list -/
theorem vok_tup {K : PySem.W.Frag} {P : Addr → Prop} {H : Hp} {p : Addr} {vs : List V} {ds : List D} (hP : ∀ a, P a → ∃ u, H a = some u) (hp : H p = none) (h : DpAll K (hd P H) vs ds) : VOk K P H (upd H p (.tup vs)) (.ref p) (.dat (.tuple ds)) := by
  refine Dp.tup (.inl (.inl (hd_some.mpr ⟨fun z => ?_, upd_same⟩))) (dps_mono (ex_hd_hd (Ex.new hp)) h)
  obtain ⟨u, k⟩ := hP p z
  rw [hp] at k
  cases k
theorem vok_lst {K : PySem.W.Frag} {P : Addr → Prop} {H : Hp} {p : Addr} {vs : List V} {ds : List D} (hP : ∀ a, P a → ∃ u, H a = some u) (hp : H p = none) (h : DpAll K (hd P H) vs ds) : VOk K P H (upd H p (.lst vs)) (.ref p) (.dat (.list ds)) := by
  refine Dp.lst (.inl (.inl (hd_some.mpr ⟨fun z => ?_, upd_same⟩))) (dps_mono (ex_hd_hd (Ex.new hp)) h)
  obtain ⟨u, k⟩ := hP p z
  rw [hp] at k
  cases k
theorem ex_plus {P : Addr → Prop} {H : Hp} {p : Addr} {u : HO} (hp : H p = none) : Ex (hd P H) (hd (plusA P p) (upd H p u)) := fun a w q => by
  obtain ⟨n, q⟩ := hd_some.mp q
  have hne : a ≠ p := ne_of_none q hp
  refine hd_some.mpr ⟨fun z => ?_, by rw [upd_ne hne]; exact q⟩
  rcases z with z | z
  · exact n z
  · exact hne z
theorem vok_own {K : PySem.W.Frag} {P : Addr → Prop} {H : Hp} {p : Addr} {vs : List V} {ds : List D} (hp : H p = none) (h : DpAll K (hd P H) vs ds) : VOk K P H (upd H p (.lst vs)) (.ref p) (.own ds) :=
  ⟨p, rfl, hp, vs, upd_same, dps_mono (ex_plus hp) h⟩
theorem pd_tup {x1} (h : PDA X E es fs) : PD X E (.Tuple es x1 pos) (mCB gTup' fs) := by
  refine PE.imp (pe_tup h) fun σ H Q h => tA_mono (fun vs H1 h => ?_) (cb_go h)
  obtain ⟨P, o, ρ1, ds, z, a1, k, hz, p⟩ := h
  unfold gTup' at hz
  split at hz
  · rename_i hl
    cases hz
    refine ⟨by rw [dps_len k]; exact big_line hl, fun q hq => p _ _ (.of (.new hq)) ((vok_tup (P := hid P o) (fun a q => a1.domH q) hq k).ok a1 (.new hq))⟩
  · cases hz
theorem pd_lst (h : PDA X E es fs) : PD X E (.List es pos) (mCB gLst fs) := by
  refine PE.imp (pe_lst h) fun σ H Q h => tA_mono (fun vs H1 h => ?_) (cb_go h)
  obtain ⟨P, o, ρ1, ds, z, a1, k, hz, p⟩ := h
  unfold gLst at hz
  split at hz
  · rename_i hl
    cases hz
    refine ⟨by rw [dps_len k]; exact big_line hl, fun q hq => p _ _ (.of (.new hq)) ((vok_lst (P := hid P o) (fun a q => a1.domH q) hq k).ok a1 (.new hq))⟩
  · cases hz
theorem pd_lstO (h : PDA X E es fs) : PD X E (.List es pos) (mCB gLstO fs) := by
  refine PE.imp (pe_lst h) fun σ H Q h => tA_mono (fun vs H1 h => ?_) (cb_go h)
  obtain ⟨P, o, ρ1, ds, z, a1, k, hz, p⟩ := h
  unfold gLstO at hz
  split at hz
  · rename_i hl
    cases hz
    refine ⟨by rw [dps_len k]; exact big_line hl, fun q hq => p _ _ (.of (.new hq)) ((vok_own hq k).ok a1 (.new hq))⟩
  · cases hz
theorem pd_cb {id : String} {x : Str} {p : Pos} {r : List V → Hp → VK → Prop} {g : List D → Option S} (hc : CallR X (.builtin id) r) (hD : CallD X.K r g) (hg : Gl X x) (hm : X.mg x = none) (hv : bootBuiltins x = some (.builtin id)) (ha : PDA X E (e :: es) fs) (hn : x ≠ "__name__" := by decide) (hdb : (x == ("__debug__" : Str)) = false := by decide)
    (he : starEach (e :: es) X.env = (false, eval e X.env) :: starEach es X.env := by rfl) (hpl : (backTo pos (starEach es X.env)).any (·.1) = false := by rfl) : PD X E (.Call (.Name x p) (e :: es) [] pos) (mCB g fs) :=
  PE.imp (pe_callB hc hg hm hv ha hn hdb he hpl) fun _ _ _ h => cb_imp hD h
theorem pd_ct {T : String} {x : Str} {p : Pos} {r : List V → Hp → VK → Prop} {g : List D → Option S} (hc : CallR X (.type T) r) (hD : CallD X.K r g) (hg : Gl X x) (hm : X.mg x = none) (hv : bootBuiltins x = some (.type T)) (ha : PDA X E (e :: es) fs) (hn : x ≠ "__name__" := by decide) (hdb : (x == ("__debug__" : Str)) = false := by decide)
    (he : starEach (e :: es) X.env = (false, eval e X.env) :: starEach es X.env := by rfl) (hpl : (backTo pos (starEach es X.env)).any (·.1) = false := by rfl) : PD X E (.Call (.Name x p) (e :: es) [] pos) (mCB g fs) :=
  PE.imp (pe_callTy hc hg hm hv ha hn hdb he hpl) fun _ _ _ h => cb_imp hD h
/-! ### slices -/
def mPart (f : EM) : Env → Option (Sum (Option Int) (Str × Option D) × Env) := fun ρ => match f ρ with
  | some (.ok (.dat (.int i)), ρ1) => some (.inl (some i), ρ1)
  | some (.ex c p, ρ1) => some (.inr (c, p), ρ1)
  | _ => none
def mNoPart : Env → Option (Sum (Option Int) (Str × Option D) × Env) := fun ρ => some (.inl none, ρ)
def tO (K : PySem.W.Frag) (mg : Str → Option Value) (E : XK) (f : Env → Option (Sum (Option Int) (Str × Option D) × Env)) : TO := fun σ H Q => ∃ P o ρ res ρ', At K P o ρ σ H ∧ f ρ = some (res, ρ') ∧ match res with
  | .inl i => ∀ H', Chg o H H' → At K P o ρ' σ H' → Q i H'
  | .inr (c, p) => ExPost K mg E P o ρ' σ H c p
abbrev PDO (X : Cx) (E : XK) (e : Option Expr) (f : Env → Option (Sum (Option Int) (Str × Option D) × Env)) : Prop := PO X e (tO X.K X.mg E f)
theorem PO.imp {X : Cx} {e : Option Expr} {t t' : TO} (h : PO X e t) (i : ∀ σ H Q, t' σ H Q → t σ H Q) : PO X e t' := by
  constructor
  intro pins s σ H Q I q
  exact h.run pins s σ H Q I (i σ H Q q)
theorem pdo_none : PDO X E none mNoPart := PO.imp po_none fun σ H Q h => by
  obtain ⟨P, o, ρ, res, ρ', a, e, p⟩ := h
  cases e
  exact p H .refl a
theorem pdo_some (h : PD X E e fe) : PDO X E (some e) (mPart fe) := PO.imp (po_some h) fun σ H Q h => by
  obtain ⟨P, o, ρ, res, ρ', a, e, p⟩ := h
  unfold mPart at e
  cases hf : fe ρ with
  | none => rw [hf] at e; cases e
  | some r1 =>
    obtain ⟨r, ρ1⟩ := r1
    rw [hf] at e
    refine ⟨P, o, ρ, _, a, hf, ?_⟩
    cases r with
    | ex n pl => cases e; exact p
    | ok s =>
      cases s with
      | dat d =>
        cases d with
        | int i =>
          cases e
          intro v H' c k
          obtain ⟨a1, k⟩ := k
          cases k
          exact ⟨i, rfl, p H' c a1⟩
        | _ => cases e
      | _ => cases e
def mSl (g : D → Option Int → Option Int → Option D) (f : EM) (fl fh : Env → Option (Sum (Option Int) (Str × Option D) × Env)) : EM := bindD f fun d ρ => match fl ρ with
  | some (.inl lo, ρ1) => (match fh ρ1 with
    | some (.inl hi, ρ2) => optD (g d lo hi) ρ2
    | some (.inr (c, p), ρ2) => some (.ex c p, ρ2)
    | none => none)
  | some (.inr (c, p), ρ1) => some (.ex c p, ρ1)
  | none => none
def SlD (K : PySem.W.Frag) (r : V → Option Int → Option Int → Hp → VK → Prop) (g : D → Option Int → Option Int → Option D) : Prop := ∀ (P : Addr → Prop) (H : Hp) (x : V) (d z : D) (lo hi : Option Int), (∀ a, P a → ∃ u, H a = some u) → Dp K (hd P H) x d → g d lo hi = some z →
  ∀ Q : VK, (∀ v H', Ex H H' → Dp K (hd P H') v z → Q v H') → r x lo hi H Q
theorem pd_slice {r : V → Option Int → Option Int → Hp → VK → Prop} {g : D → Option Int → Option Int → Option D} {lo hi : Option Expr} {p2 : Pos} {fl fh : Env → Option (Sum (Option Int) (Str × Option D) × Env)} (hr : SlR X r) (hg : SlD X.K r g) (he : PD X E e fe) (hl : PDO X E lo fl) (hu : PDO X E hi fh) : PD X E (.Subscript e (.Slice lo hi none p2) pos) (mSl g fe fl fh) := by
  refine PE.imp (pe_slice hr he hl hu) fun σ H Q h => ?_
  obtain ⟨P, o, ρ, res, a, e, p⟩ := h
  refine tE_mono (fun x H1 h => ?_) (bindD_go a .refl e p)
  obtain ⟨ρ1, d, c1, c2, a1, dx, e⟩ := h
  cases h1 : fl ρ1 with
  | none => rw [h1] at e; cases e
  | some q1 =>
    obtain ⟨q1, ρ2⟩ := q1
    rw [h1] at e
    refine ⟨P, o, ρ1, _, ρ2, a1, h1, ?_⟩
    cases q1 with
    | inr z => cases e; exact ExPost.later p c1
    | inl lo =>
      intro H2 c3 a2
      cases h2 : fh ρ2 with
      | none => simp only [h2] at e; cases e
      | some q2 =>
        obtain ⟨q2, ρ3⟩ := q2
        simp only [h2] at e
        refine ⟨P, o, ρ2, _, ρ3, a2, h2, ?_⟩
        cases q2 with
        | inr z => cases e; exact ExPost.later p (c1.trans c3)
        | inl hi =>
          intro H3 c4 a3
          obtain ⟨z, hz, rfl⟩ := optD_some e
          refine hg (hid P o) H3 x d z lo hi (fun a q => a3.domH q) (dp_mono (c3.trans c4).ex dx) hz Q fun v H' ex dv => ?_
          exact p v H' (((c2.trans c3).trans c4).trans (.of ex)) ⟨a3.ext ex, dv⟩
/-! ### methods of built-in types -/
def mBM (ty : D → Bool) (g : D → List D → Option S) (f : EM) (fs : AM) : EM := bindD f fun d => if ty d = true then mCB (g d) fs else failE
def MtD (K : PySem.W.Frag) (r : V → List V → Hp → VK → Prop) (g : D → List D → Option S) : Prop := ∀ (P : Addr → Prop) (H : Hp) (x : V) (d : D) (vs : List V) (ds : List D) (z : S), (∀ a, P a → ∃ u, H a = some u) → Dp K (hd P H) x d → DpAll K (hd P H) vs ds → g d ds = some z →
  ∀ Q : VK, (∀ v H', Ex H H' → VOk K P H H' v z → Q v H') → r x vs H Q
def TyD (K : PySem.W.Frag) (T : String) (ty : D → Bool) : Prop := ∀ (H : Hp) (x : V) (d : D), Dp K H x d → ty d = true → tyV K T x H
theorem bm_imp {K : PySem.W.Frag} {mg : Str → Option Value} {T : String} {r : V → List V → Hp → VK → Prop} {ty : D → Bool} {g : D → List D → Option S} (hT : TyD K T ty) (hg : MtD K r g) {σ : St} {H : Hp} {Q : VK} (h : tE K mg E (mBM ty g fe fs) σ H Q) :
    tBM K T r (tE K mg E fe) (tA K mg E fs) σ H Q := by
  obtain ⟨P, o, ρ, res, a, e, p⟩ := h
  refine tE_mono (fun x H1 h => ?_) (bindD_go a .refl e p)
  obtain ⟨ρ1, d, c1, c2, a1, dx, e⟩ := h
  by_cases ht : ty d = true
  · rw [if_pos ht] at e
    refine ⟨hT H1 x d (dp_mono ex_hd dx : Dp K H1 x d) ht, ?_⟩
    refine tA_mono (fun vs H2 h => ?_) (cb_at a1 e (p.later c1))
    obtain ⟨ρ2, ds, z, c3, a2, k, hz, q⟩ := h
    exact hg (hid P o) H2 x d vs ds z (fun a q => a2.domH q) (dp_mono c3.ex dx) k hz Q fun v H' ex ok => q v H' (.of ex) (ok.ok a2 ex)
  · rw [if_neg ht] at e; cases e
theorem pd_bm {T id : String} {name : Str} {r : V → List V → Hp → VK → Prop} {ty : D → Bool} {g : D → List D → Option S} {ob : Expr} {apos cpos : Pos} (hT : TyD X.K T ty) (hg : MtD X.K r g) (pa : PlainAttrs T) (slot : PySem.Slot T name id) (hty : typeOf (.builtin id) = pure (.type "method_descriptor")) (hm : MtR X id r) (ho : PD X E ob fe) (ha : PDA X E (e :: es) fs)
    (hbase : attributeBase ob name X.env (eval ob X.env) = eval ob X.env := by rfl)
    (hfew : ((backTo cpos (starEach (e :: es) X.env)).all (fun x => !x.1) && (backToKw cpos (keywordEach [] X.env)).all (fun x => x.1.isSome)
      && decide ((e :: es).length + ([] : List Keyword).length + (if ([] : List Keyword).isEmpty then 0 else 1) < 30)) = true := by rfl)
    (hline : (apos.endLine == cpos.line) = true := by rfl) (hs : starEach (e :: es) X.env = (false, eval e X.env) :: starEach es X.env := by rfl) (hplain : (backTo cpos (starEach es X.env)).any (·.1) = false := by rfl) :
    PD X E (.Call (.Attribute ob name apos) (e :: es) [] cpos) (mBM ty g fe fs) :=
  PE.imp (pe_bm pa slot hty hm ho ha hbase hfew hline hs hplain) fun _ _ _ h => bm_imp hT hg h
end
end DL

namespace DL
open PySem PySem.Spec L2
variable [TheW]

/-! ### statements -/
inductive Fl where
  | nx (ρ : Env)
  | rt (s : S) (ρ : Env)
  | bk (ρ : Env)
  | ct (ρ : Env)
  | ex (c : Str) (p : Option D) (ρ : Env)
abbrev SM := Env → Option Fl
structure ChgS (np : Nat) (o o' : Ow) (H H' : Hp) : Prop where
  keep : ∀ a u, H a = some u → ¬ Own o a → H' a = some u
  dom : ∀ a u, H a = some u → ∃ u', H' a = some u'
  new : ∀ a, Own o' a → Own o a ∨ H a = none
  par : ∀ i a, (i < np ∨ Lk H a) → o i = some a → o' i = some a
  frz : ∀ a od u, H a = some (.frz od u) → H' a = some (.frz od u)
section
variable {np : Nat} {o o1 o2 : Ow} {H H' H1 H2 : Hp}
theorem ChgS.refl : ChgS np o o H H := ⟨fun _ _ h _ => h, fun _ _ h => ⟨_, h⟩, fun _ h => .inl h, fun _ _ _ h => h, fun _ _ _ h => h⟩
theorem ChgS.back (c : ChgS np o o1 H H1) {a : Addr} (h : H1 a = none) : H a = none := by
  cases q : H a with
  | none => rfl
  | some u =>
    obtain ⟨u', h'⟩ := c.dom a u q
    rw [h] at h'
    cases h'
theorem ChgS.orig (c : ChgS np o o1 H H1) {a : Addr} (h : Own o1 a ∨ H1 a = none) : Own o a ∨ H a = none := h.elim (c.new a) fun h => .inr (c.back h)
theorem ChgS.trans (a : ChgS np o o1 H H1) (b : ChgS np o1 o2 H1 H2) : ChgS np o o2 H H2 where
  keep := fun x u h n => b.keep x u (a.keep x u h n) fun z => (a.new x z).elim n fun q => by rw [h] at q; cases q
  dom := fun x u h => let ⟨_, h1⟩ := a.dom x u h; b.dom x _ h1
  new := fun x z => a.orig (b.new x z)
  par := fun i x h q => b.par i x (h.imp id fun ⟨od, u, z⟩ => ⟨od, u, a.frz x od u z⟩) (a.par i x h q)
  frz := fun x od u h => b.frz x od u (a.frz x od u h)
theorem ChgS.of (c : Chg o H H') : ChgS np o o H H' := ⟨c.keep, c.dom, fun _ h => .inl h, fun _ _ _ h => h, c.frz⟩
end
def RtP (K : PySem.W.Frag) (P : Addr → Prop) (o o' : Ow) (ρ : Env) (σ : St) (H0 H : Hp) (v : V) : S → Prop
  | .dat d => At K P o' ρ σ H ∧ Dp K (hd (hid P o') H) v d
  | s => ∃ a, v = .ref a ∧ (Own o a ∨ H0 a = none) ∧ ¬ Own o' a ∧ At K (plusA P a) o' ρ σ H ∧ OwnOk K (hd (hid (plusA P a) o') H) H a s
def PostS (K : PySem.W.Frag) (mg : Str → Option Value) (E : XK) (np : Nat) (P : Addr → Prop) (o : Ow) (H : Hp) (D : Ends) : Fl → Prop
  | .nx ρ' => ∀ o' σ' H', ChgS np o o' H H' → At K P o' ρ' σ' H' → D.nx σ' H'
  | .bk ρ' => ∀ o' σ' H', ChgS np o o' H H' → At K P o' ρ' σ' H' → D.bk σ' H'
  | .ct ρ' => ∀ o' σ' H', ChgS np o o' H H' → At K P o' ρ' σ' H' → D.ct σ' H'
  | .rt s ρ' => ∀ o' σ' v H', ChgS np o o' H H' → RtP K P o o' ρ' σ' H H' v s → D.rt v H'
  | .ex c p ρ' => ∀ o' σ' cls dx H', ChgS np o o' H H' → At K P o' ρ' σ' H' → XR K mg (hd (hid P o') H') H' c p cls dx → E cls dx H'
def tS (K : PySem.W.Frag) (mg : Str → Option Value) (E : XK) (np : Nat) (f : SM) : TS := fun D σ H => ∃ P o ρ fl, At K P o ρ σ H ∧ f ρ = some fl ∧ PostS K mg E np P o H D fl
abbrev PDS (X : Cx) (E : XK) (np : Nat) (st : Stmt) (f : SM) : Prop := PS X st (tS X.K X.mg E np f)
abbrev PDB (X : Cx) (E : XK) (np : Nat) (st : List Stmt) (f : SM) : Prop := PSs X st (tS X.K X.mg E np f)
section
variable {K : PySem.W.Frag} {mg : Str → Option Value} {E : XK} {np : Nat} {P : Addr → Prop} {o o1 : Ow} {ρ : Env} {σ : St} {H H' H0 H1 : Hp} {D D' : Ends} {fl : Fl} {v : V} {s : S}
theorem RtP.older (c : ChgS np o o1 H H1) {o2 : Ow} {H2 : Hp} (h : RtP K P o1 o2 ρ σ H1 H2 v s) : RtP K P o o2 ρ σ H H2 v s := by
  cases s with
  | dat d => exact h
  | own xs => obtain ⟨a, h1, h2, h3⟩ := h; exact ⟨a, h1, c.orig h2, h3⟩
  | odk xs => obtain ⟨a, h1, h2, h3⟩ := h; exact ⟨a, h1, c.orig h2, h3⟩
  | odt xs => obtain ⟨a, h1, h2, h3⟩ := h; exact ⟨a, h1, c.orig h2, h3⟩
  | odl xs => obtain ⟨a, h1, h2, h3⟩ := h; exact ⟨a, h1, c.orig h2, h3⟩
theorem PostS.later (c : ChgS np o o1 H H1) (h : PostS K mg E np P o H D fl) : PostS K mg E np P o1 H1 D fl := by
  cases fl with
  | nx ρ' => exact fun o' σ' H' c' a => h o' σ' H' (c.trans c') a
  | bk ρ' => exact fun o' σ' H' c' a => h o' σ' H' (c.trans c') a
  | ct ρ' => exact fun o' σ' H' c' a => h o' σ' H' (c.trans c') a
  | rt s ρ' => exact fun o' σ' v H' c' a => h o' σ' v H' (c.trans c') (a.older c)
  | ex n p ρ' => exact fun o' σ' cls dx H' c' a => h o' σ' cls dx H' (c.trans c') a
theorem PostS.exp {n : Str} {pl : Option DL.D} {ρ' : Env} (h : PostS K mg E np P o H D fl) (e : fl = .ex n pl ρ') : ExPost K mg E P o ρ' σ H n pl := by
  subst e
  exact fun cls dx H' c a x => h o σ cls dx H' (.of c) a x
end
/-- f is evaluated, then k goes on with the value -/
def bindS (f : EM) (k : S → SM) : SM := fun ρ => match f ρ with
  | some (.ok s, ρ1) => k s ρ1
  | some (.ex c p, ρ1) => some (.ex c p ρ1)
  | none => none
def seqS (f g : SM) : SM := fun ρ => match f ρ with
  | some (.nx ρ1) => g ρ1
  | r => r
def nextS : SM := fun ρ => some (.nx ρ)
def failS : SM := fun _ => none
def retS' (f : EM) : SM := bindS f fun s ρ => some (.rt s ρ)
def retNS : SM := fun ρ => some (.rt (.dat .none) ρ)
def brkS : SM := fun ρ => some (.bk ρ)
def cntS : SM := fun ρ => some (.ct ρ)
def dropS (f : EM) : SM := bindS f fun _ ρ => some (.nx ρ)
def boolS (ka kb : SM) : S → SM
  | .dat (.bool true) => ka
  | .dat (.bool false) => kb
  | _ => failS
def ifS (ft : EM) (fa fb : SM) : SM := bindS ft (boolS fa fb)
section
variable {K : PySem.W.Frag} {mg : Str → Option Value} {E : XK} {np : Nat} {P : Addr → Prop} {o o1 : Ow} {ρ : Env} {σ : St} {H H' H0 H1 : Hp} {D D' : Ends} {fl : Fl} {f : EM} {k : S → SM} {ka kb : SM}
theorem bindS_go (a : At K P o ρ σ H) (e : bindS f k ρ = some fl) (p : PostS K mg E np P o H D fl) : tE K mg E f σ H fun x H1 => ∃ ρ1 s, Chg o H H1 ∧ OkP K P o ρ1 σ H H1 x s ∧ k s ρ1 = some fl := by
  unfold bindS at e
  cases hf : f ρ with
  | none => rw [hf] at e; cases e
  | some r1 =>
    obtain ⟨r, ρ1⟩ := r1
    rw [hf] at e
    refine ⟨P, o, ρ, _, a, hf, ?_⟩
    cases r with
    | ok s => exact fun x H1 c1 q => ⟨ρ1, s, c1, q, e⟩
    | ex n pl =>
      have e' : fl = .ex n pl ρ1 := by cases e; rfl
      exact p.exp e'
theorem boolS_go (a : At K P o ρ σ H) (e : bindS f (boolS ka kb) ρ = some fl) (p : PostS K mg E np P o H D fl) : tT K mg E f σ H fun b H1 => ∃ ρ1, Chg o H H1 ∧ At K P o ρ1 σ H1 ∧ (if b = true then ka ρ1 = some fl else kb ρ1 = some fl) := by
  unfold bindS at e
  cases hf : f ρ with
  | none => rw [hf] at e; cases e
  | some r1 =>
    obtain ⟨r, ρ1⟩ := r1
    rw [hf] at e
    refine ⟨P, o, ρ, _, a, hf, ?_⟩
    cases r with
    | ok s =>
      cases s with
      | dat d =>
        cases d with
        | bool b => cases b with
          | true => exact fun H1 c1 a1 => ⟨ρ1, c1, a1, e⟩
          | false => exact fun H1 c1 a1 => ⟨ρ1, c1, a1, e⟩
        | _ => cases e
      | own _ => cases e
      | odk _ => cases e
      | odt _ => cases e
      | odl _ => cases e
    | ex n pl =>
      have e' : fl = .ex n pl ρ1 := by cases e; rfl
      exact p.exp e'
end
section
variable {X : Cx} {E : XK} {np : Nat} {st : Stmt} {rest sa sb : List Stmt} {e : Expr} {fe : EM} {f g : SM} {pos : Pos}
theorem pdb_nil : PDB X E np [] nextS := PSs.imp pss_nil fun D σ H h => by
  obtain ⟨P, o, ρ, fl, a, e, p⟩ := h
  cases e
  exact p o σ H .refl a
theorem pdb_cons (h1 : PDS X E np st f) (h2 : PDB X E np rest g) : PDB X E np (st :: rest) (seqS f g) := by
  refine PSs.imp (pss_cons h1 h2) fun D σ H h => ?_
  obtain ⟨P, o, ρ, fl, a, e, p⟩ := h
  unfold seqS at e
  cases hf : f ρ with
  | none => rw [hf] at e; cases e
  | some r =>
    rw [hf] at e
    refine ⟨P, o, ρ, r, a, hf, ?_⟩
    cases r with
    | nx ρ1 => exact fun o' σ' H' c a' => ⟨P, o', ρ1, fl, a', e, p.later c⟩
    | rt s ρ1 => cases e; exact p
    | bk ρ1 => cases e; exact p
    | ct ρ1 => cases e; exact p
    | ex n pl ρ1 => cases e; exact p
theorem pdb_one (h1 : PDS X E np st f) : PDB X E np [st] f := pss_one h1
theorem pds_never : PDS X E np st failS := PS.imp ps_never fun D σ H h => by
  obtain ⟨P, o, ρ, fl, a, e, p⟩ := h
  cases e
theorem pds_pass : PDS X E np (.Pass pos) nextS := PS.imp ps_pass fun D σ H h => by
  obtain ⟨P, o, ρ, fl, a, e, p⟩ := h
  cases e
  exact p o σ H .refl a
theorem pds_break : PDS X E np (.Break pos) brkS := PS.imp ps_break fun D σ H h => by
  obtain ⟨P, o, ρ, fl, a, e, p⟩ := h
  cases e
  exact p o σ H .refl a
theorem pds_continue : PDS X E np (.Continue pos) cntS := PS.imp ps_continue fun D σ H h => by
  obtain ⟨P, o, ρ, fl, a, e, p⟩ := h
  cases e
  exact p o σ H .refl a
theorem pds_expr (he : PD X E e fe) (hs : swapsWith e none pos.line X.env = pure false := by rfl) : PDS X E np (.Expr e pos) (dropS fe) := PS.imp (ps_expr he hs) fun D σ H h => by
  obtain ⟨P, o, ρ, fl, a, e, p⟩ := h
  refine tE_mono (fun x H1 h => ?_) (bindS_go a e p)
  obtain ⟨ρ1, s, c, ok, e⟩ := h
  cases e
  have a1 : At X.K P o ρ1 σ H1 := by
    cases s with
    | dat d => exact ok.1
    | own xs => obtain ⟨_, _, _, _, h, _⟩ := ok; exact h.less fun b z => .inl z
    | odk xs => obtain ⟨_, _, _, _, h, _⟩ := ok; exact h.less fun b z => .inl z
    | odt xs => obtain ⟨_, _, _, _, h, _⟩ := ok; exact h.less fun b z => .inl z
    | odl xs => obtain ⟨_, _, _, _, h, _⟩ := ok; exact h.less fun b z => .inl z
  exact p o σ H1 (.of c) a1
theorem pds_ret (he : PD X E e fe) : PDS X E np (.Return (some e) pos) (retS' fe) := PS.imp (ps_ret he) fun D σ H h => by
  obtain ⟨P, o, ρ, fl, a, e, p⟩ := h
  refine tE_mono (fun x H1 h => ?_) (bindS_go a e p)
  obtain ⟨ρ1, s, c, ok, e⟩ := h
  cases e
  refine p o σ x H1 (.of c) ?_
  cases s with
  | dat d => exact ok
  | own xs => obtain ⟨a, h1, h2, h3, h4⟩ := ok; exact ⟨a, h1, .inr h2, fun z => h3 (.inr z), h4⟩
  | odk xs => obtain ⟨a, h1, h2, h3, h4⟩ := ok; exact ⟨a, h1, .inr h2, fun z => h3 (.inr z), h4⟩
  | odt xs => obtain ⟨a, h1, h2, h3, h4⟩ := ok; exact ⟨a, h1, .inr h2, fun z => h3 (.inr z), h4⟩
  | odl xs => obtain ⟨a, h1, h2, h3, h4⟩ := ok; exact ⟨a, h1, .inr h2, fun z => h3 (.inr z), h4⟩
theorem pds_retN : PDS X E np (.Return none pos) retNS := PS.imp ps_retN fun D σ H h => by
  obtain ⟨P, o, ρ, fl, a, e, p⟩ := h
  cases e
  exact p o σ .non H .refl ⟨a, .non⟩
theorem pds_if {c : Expr} (hc : PDT X E c fe) (ha : PDB X E np sa f) (hb : PDB X E np sb g) : PDS X E np (.If c sa sb pos) (ifS fe f g) := PS.imp (ps_if hc ha hb) fun D σ H h => by
  obtain ⟨P, o, ρ, fl, a, e, p⟩ := h
  refine tT_mono (fun b H1 h => ?_) (boolS_go a e p)
  obtain ⟨ρ1, c, a1, e⟩ := h
  cases b with
  | true => exact ⟨P, o, ρ1, fl, a1, e, p.later (.of c)⟩
  | false => exact ⟨P, o, ρ1, fl, a1, e, p.later (.of c)⟩
end

/-! ### targets -/
def clr (o : Ow) (i : Nat) : Ow := fun j => if j = i then none else o j
def ups (o : Ow) (i : Nat) (a : Addr) : Ow := fun j => if j = i then some a else o j
theorem own_clr {o : Ow} {i : Nat} {a : Addr} (h : Own (clr o i) a) : Own o a := by
  obtain ⟨j, h⟩ := h
  unfold clr at h
  split at h
  · cases h
  · exact ⟨j, h⟩
def isLck : S → Bool
  | .odl _ => true
  | _ => false
def okset (np i : Nat) (ρ : Env) : Bool := decide (i < ρ.length) && (match ρ[i]? with
  | some (some s) => !isLck s && (decide (np ≤ i) || !s.isOwn)
  | _ => true)
section
variable {K : PySem.W.Frag} {np : Nat} {P : Addr → Prop} {o : Ow} {ρ : Env} {σ : St} {H : Hp} {i : Nat} {v : V} {d : D} {s : S} {a : Addr}
theorem At.setN (h : At K P o ρ σ H) (r : DOk K (hd (hid P o) H) v s) (ns : s.isOwn = false) (hi : i < ρ.length) : At K P (clr o i) (ρ.set i (some s)) (σ.set i (some v)) H := by
  have ex : Ex (hd (hid P o) H) (hd (hid P (clr o i)) H) := ex_hd_le fun a z => z.elim .inl fun z => .inr (own_clr z)
  have cl : ∀ j a, clr o i j = some a → j ≠ i ∧ o j = some a := fun j a q => by
    unfold clr at q
    split at q
    · cases q
    · rename_i hne
      exact ⟨hne, q⟩
  refine ⟨by simp [h.len], h.dom, fun j j' a q q' => h.inj j j' a (cl j a q).2 (cl j' a q').2, fun j a q => h.dis j a (cl j a q).2, fun j a q => ?_, fun j e q he => ?_, fun j t q hs => ?_⟩
  · obtain ⟨hne, q⟩ := cl j a q
    obtain ⟨t, h1, h2, h3⟩ := h.has j a q
    exact ⟨t, by rw [List.getElem?_set_ne (Ne.symm hne)]; exact h1, by rw [List.getElem?_set_ne (Ne.symm hne)]; exact h2, h3.imp ex fun _ z => z⟩
  · by_cases hj : j = i
    · subst hj
      rw [List.getElem?_set_self hi] at q
      cases q
      exact ⟨v, List.getElem?_set_self (by rw [← h.len]; exact hi), dok_mono ex r⟩
    · rw [List.getElem?_set_ne (Ne.symm hj)] at q
      obtain ⟨w, h1, h2⟩ := h.dat j e q he
      exact ⟨w, by rw [List.getElem?_set_ne (Ne.symm hj)]; exact h1, dok_mono ex h2⟩
  · by_cases hj : j = i
    · subst hj
      rw [List.getElem?_set_self hi] at q
      cases q
      rw [ns] at hs
      cases hs
    · rw [List.getElem?_set_ne (Ne.symm hj)] at q
      obtain ⟨a, q⟩ := h.ow j t q hs
      exact ⟨a, by unfold clr; rw [if_neg hj]; exact q⟩
theorem At.setD (h : At K P o ρ σ H) (r : Dp K (hd (hid P o) H) v d) (hi : i < ρ.length) : At K P (clr o i) (ρ.set i (some (.dat d))) (σ.set i (some v)) H := h.setN (s := .dat d) r rfl hi
theorem At.setO (h : At K (plusA P a) o ρ σ H) (hn : ¬ hid P o a) (r : OwnOk K (hd (hid (plusA P a) o) H) H a s) (hi : i < ρ.length) : At K P (ups o i a) (ρ.set i (some s)) (σ.set i (some (.ref a))) H := by
  have sub : ∀ b, hid P (ups o i a) b → hid (plusA P a) o b := fun b z => by
    rcases z with z | ⟨j, z⟩
    · exact .inl (.inl z)
    · unfold ups at z
      split at z
      · cases z; exact .inl (.inr rfl)
      · exact .inr ⟨j, z⟩
  have ex : Ex (hd (hid (plusA P a) o) H) (hd (hid P (ups o i a)) H) := ex_hd_le sub
  have cl : ∀ j b, ups o i a j = some b → (j = i ∧ b = a) ∨ (j ≠ i ∧ o j = some b) := fun j b q => by
    unfold ups at q
    split at q
    · rename_i e
      cases q
      exact .inl ⟨e, rfl⟩
    · rename_i hne
      exact .inr ⟨hne, q⟩
  refine ⟨by simp [h.len], fun b z => h.dom b (.inl z), fun j j' b q q' => ?_, fun j b q z => (cl j b q).elim (fun w => hn (.inl (by rw [← w.2]; exact z))) fun w => h.dis j b w.2 (.inl z), fun j b q => ?_, fun j e q he => ?_, fun j t q hs => ?_⟩
  · rcases cl j b q with ⟨e1, e2⟩ | ⟨n1, q1⟩ <;> rcases cl j' b q' with ⟨e3, e4⟩ | ⟨n2, q2⟩
    · rw [e1, e3]
    · subst e2; exact absurd (.inr ⟨_, q2⟩) hn
    · subst e4; exact absurd (.inr ⟨_, q1⟩) hn
    · exact h.inj j j' b q1 q2
  · rcases cl j b q with ⟨rfl, rfl⟩ | ⟨hne, q⟩
    · exact ⟨s, List.getElem?_set_self hi, List.getElem?_set_self (by rw [← h.len]; exact hi), r.imp ex fun _ z => z⟩
    · obtain ⟨t, h1, h2, h3⟩ := h.has j b q
      exact ⟨t, by rw [List.getElem?_set_ne (Ne.symm hne)]; exact h1, by rw [List.getElem?_set_ne (Ne.symm hne)]; exact h2, h3.imp ex fun _ z => z⟩
  · by_cases hj : j = i
    · subst hj
      rw [List.getElem?_set_self hi] at q
      cases q
      rw [r.isOwn] at he
      cases he
    · rw [List.getElem?_set_ne (Ne.symm hj)] at q
      obtain ⟨w, h1, h2⟩ := h.dat j e q he
      exact ⟨w, by rw [List.getElem?_set_ne (Ne.symm hj)]; exact h1, dok_mono ex h2⟩
  · by_cases hj : j = i
    · exact ⟨a, by unfold ups; rw [if_pos hj]⟩
    · rw [List.getElem?_set_ne (Ne.symm hj)] at q
      obtain ⟨b, q⟩ := h.ow j t q hs
      exact ⟨b, by unfold ups; rw [if_neg hj]; exact q⟩
theorem okset_lt (h : okset np i ρ = true) : i < ρ.length := by
  unfold okset at h
  simp only [Bool.and_eq_true, decide_eq_true_eq] at h
  exact h.1
/-- a parameter's own object is not set -/
theorem okset_par {b : Addr} (A : At K P o ρ σ H) (h : okset np i ρ = true) (hj : i < np ∨ Lk H b) : o i = some b → False := fun q => by
  unfold okset at h
  simp only [Bool.and_eq_true, decide_eq_true_eq] at h
  obtain ⟨s, h1, _, h3⟩ := A.has i b q
  have h := h.2
  rw [h1] at h
  simp only [h3.isOwn, Bool.and_eq_true, Bool.or_eq_true, decide_eq_true_eq, Bool.not_eq_true', Bool.not_true, Bool.false_eq_true, or_false] at h
  rcases hj with hj | ⟨od, u, hj⟩
  · omega
  · cases s with
    | odl _ => cases h.1
    | dat _ => exact h3
    | own _ => obtain ⟨_, k, _⟩ := h3; rw [hj] at k; cases k
    | odk _ => obtain ⟨_, k, _⟩ := h3; rw [hj] at k; cases k
    | odt _ => obtain ⟨_, k, _⟩ := h3; rw [hj] at k; unfold NDO at k; cases k
theorem chgS_clr (A : At K P o ρ σ H) (h : okset np i ρ = true) : ChgS np o (clr o i) H H := by
  refine ⟨fun _ _ h _ => h, fun _ _ h => ⟨_, h⟩, fun _ z => .inl (own_clr z), fun j b hj q => ?_, fun _ _ _ h => h⟩
  unfold clr
  split
  · rename_i e
    subst e
    exact (okset_par A h hj q).elim
  · exact q
end
structure TgRel (np : Nat) (sl : List Nat) (H : Hp) (o o' : Ow) (σ σ' : St) : Prop where
  sub : ∀ a, Own o' a → Own o a
  par : ∀ i a, (i < np ∨ Lk H a) → o i = some a → o' i = some a
  len : σ'.length = σ.length
  off : ∀ (j : Nat), j ∉ sl → σ'[j]? = σ[j]?
  oth : ∀ (j : Nat), j ∉ sl → o' j = o j
abbrev TgM := D → Env → Option Env
def tG (K : PySem.W.Frag) (np : Nat) (T : TgM) (sl : List Nat) : TG := fun v σ H Q => ∃ P o ρ d ρ', At K P o ρ σ H ∧ Dp K (hd (hid P o) H) v d ∧ T d ρ = some ρ' ∧ ∀ o' σ', TgRel np sl H o o' σ σ' → At K P o' ρ' σ' H → Q σ' H
def tGs (K : PySem.W.Frag) (np : Nat) (T : List D → Env → Option Env) (sl : List Nat) : TGs := fun vs σ H Q => ∃ P o ρ ds ρ', At K P o ρ σ H ∧ DpAll K (hd (hid P o) H) vs ds ∧ T ds ρ = some ρ' ∧ ∀ o' σ', TgRel np sl H o o' σ σ' → At K P o' ρ' σ' H → Q σ' H
abbrev PDG (X : Cx) (np : Nat) (tg : Expr) (T : TgM) (sl : List Nat) : Prop := PG X tg (tG X.K np T sl)
abbrev PDGs (X : Cx) (np : Nat) (tg : List Expr) (T : List D → Env → Option Env) (sl : List Nat) : Prop := PGs X tg (tGs X.K np T sl)
theorem PG.imp {X : Cx} {e : Expr} {t t' : TG} (h : PG X e t) (i : ∀ v σ H Q, t' v σ H Q → t v σ H Q) : PG X e t' := ⟨fun pins s σ H v u Q I r q => h.run pins s σ H v u Q I r (i v σ H Q q)⟩
theorem PGs.imp {X : Cx} {e : List Expr} {t t' : TGs} (h : PGs X e t) (i : ∀ v σ H Q, t' v σ H Q → t v σ H Q) : PGs X e t' := ⟨fun pins s σ H v u Q I r q => h.run pins s σ H v u Q I r (i v σ H Q q)⟩
def gNm (np i : Nat) : TgM := fun d ρ => if okset np i ρ = true then some (ρ.set i (some (.dat d))) else none
def gNl : List D → Env → Option Env := fun ds ρ => match ds with
  | [] => some ρ
  | _ => none
def gCs (t : TgM) (ts : List D → Env → Option Env) : List D → Env → Option Env := fun ds ρ => match ds with
  | d :: r => (t d ρ).bind (ts r)
  | [] => none
def gTp (n : Nat) (ts : List D → Env → Option Env) : TgM := fun d ρ => match d with
  | .tuple ds => if ds.length = n then ts ds ρ else none
  | _ => none
section
variable {X : Cx} {np i : Nat} {x : Str} {e : Expr} {es : List Expr} {T : TgM} {Ts : List D → Env → Option Env} {sl sl' : List Nat} {pos : Pos}
theorem pdg_name (hN : X.N.Nodup) (hi : X.N[i]? = some x) (hx : Loc X.env.scope x) (hf : X.fn x = true ∨ X.env.scope.names.lookup x = some .local := by first | exact .inl rfl | exact .inr rfl | assumption) : PDG X np (.Name x pos) (gNm np i) [i] := by
  refine PG.imp (pg_name hN hi hx hf) fun v σ H Q h => ?_
  obtain ⟨P, o, ρ, d, ρ', a, r, e, p⟩ := h
  unfold gNm at e
  split at e
  · rename_i hok
    cases e
    refine p (clr o i) (σ.set i (some v)) ⟨fun _ z => own_clr z, (chgS_clr a hok).par, by simp, fun j hj => ?_, fun j hj => ?_⟩ (a.setD r (okset_lt hok))
    · exact List.getElem?_set_ne (fun z => hj (by simp [z]))
    · unfold clr
      rw [if_neg fun z => hj (by simp [z])]
  · cases e
theorem pdgs_nil : PDGs X np [] gNl [] := PGs.imp pgs_nil fun vs σ H Q h => by
  obtain ⟨P, o, ρ, ds, ρ', a, r, e, p⟩ := h
  cases r with
  | nil => cases e; exact ⟨rfl, p o σ ⟨fun _ z => z, fun _ _ _ z => z, rfl, fun _ _ => rfl, fun _ _ => rfl⟩ a⟩
  | cons _ _ => cases e
theorem pdgs_cons (h1 : PDG X np e T sl) (h2 : PDGs X np es Ts sl') (hs : (assignEach (e :: es) X.env).map (·.2) = assign e X.env :: (assignEach es X.env).map (·.2) := by rfl) : PDGs X np (e :: es) (gCs T Ts) (sl ++ sl') := PGs.imp (pgs_cons h1 h2 hs) fun vs σ H Q h => by
  obtain ⟨P, o, ρ, ds, ρ', a, r, e, p⟩ := h
  cases r with
  | nil => cases e
  | @cons v vs d ds r rr =>
    unfold gCs at e
    cases hT : T d ρ with
    | none => simp only [hT] at e; cases e
    | some ρ1 =>
      simp only [hT] at e
      refine ⟨v, vs, rfl, P, o, ρ, d, ρ1, a, r, hT, fun o1 σ1 t1 a1 => ?_⟩
      refine ⟨P, o1, ρ1, ds, ρ', a1, dps_mono (ex_hd_le fun b z => z.elim .inl fun z => .inr (t1.sub b z)) rr, e, fun o2 σ2 t2 a2 => ?_⟩
      exact p o2 σ2 ⟨fun b z => t1.sub b (t2.sub b z), fun j b hj q => t2.par j b hj (t1.par j b hj q), t2.len.trans t1.len, fun j hj => (t2.off j fun z => hj (List.mem_append_right _ z)).trans (t1.off j fun z => hj (List.mem_append_left _ z)), fun j hj => (t2.oth j fun z => hj (List.mem_append_right _ z)).trans (t1.oth j fun z => hj (List.mem_append_left _ z))⟩ a2
theorem pdg_tup {k n : Nat} (hc : X.calm = true) (h : PDGs X np es Ts sl) (hn : (assignEach es X.env).length = n := by rfl) (hst : (assignEach es X.env).findIdx? (·.1) = none := by rfl) : PDG X np (.Tuple es k pos) (gTp n Ts) sl := PG.imp (pg_tup hc h hn hst) fun v σ H Q h => by
  obtain ⟨P, o, ρ, d, ρ', a, r, e, p⟩ := h
  unfold gTp at e
  cases r with
  | @tup ad xs ds hq hs =>
    simp only at e
    split at e
    · rename_i hl
      exact ⟨ad, xs, rfl, ex_t ex_hd hq, by rw [dps_len hs]; exact hl, P, o, ρ, ds, ρ', a, hs, e, p⟩
    · cases e
  | _ => cases e
end

/-! ### assignments -/
def asgN (np i : Nat) (f : EM) : SM := bindS f fun s ρ => if okset np i ρ = true then some (.nx (ρ.set i (some s))) else none
def asgT (T : TgM) (f : EM) : SM := bindS f fun s ρ => match s.toD with
  | some d => (match T d ρ with
    | some ρ' => some (.nx ρ')
    | none => none)
  | none => none
section
variable {X : Cx} {E : XK} {np i : Nat} {x : Str} {e tg : Expr} {fe : EM} {T : TgM} {sl : List Nat} {pos pos' : Pos}
theorem asgN_go {K : PySem.W.Frag} {mg : Str → Option Value} {σ : St} {H : Hp} {D : Ends} (h : tS K mg E np (asgN np i fe) D σ H) : tE K mg E fe σ H fun y H1 => D.nx (σ.set i (some y)) H1 := by
  obtain ⟨P, o, ρ, fl, a, e, p⟩ := h
  refine tE_mono (fun y H1 h => ?_) (bindS_go a e p)
  obtain ⟨ρ1, s, c, ok, e⟩ := h
  split at e
  · rename_i hok
    cases e
    have own : (∃ b, y = .ref b ∧ H b = none ∧ ¬ hid P o b ∧ At K (plusA P b) o ρ1 σ H1 ∧ OwnOk K (hd (hid (plusA P b) o) H1) H1 b s) → D.nx (σ.set i (some y)) H1 := by
      rintro ⟨b, rfl, h2, h3, h4, h5⟩
      refine p (ups o i b) _ H1 ⟨c.keep, c.dom, fun z q => ?_, fun j z hj q => ?_, c.frz⟩ (h4.setO h3 h5 (okset_lt hok))
      · obtain ⟨j, q⟩ := q
        unfold ups at q
        split at q
        · cases q; exact .inr h2
        · exact .inl ⟨j, q⟩
      · unfold ups
        split
        · rename_i ej
          subst ej
          exact (okset_par h4 hok (hj.imp id fun ⟨od, u, w⟩ => ⟨od, u, c.frz _ od u w⟩) q).elim
        · exact q
    cases s with
    | dat d =>
      obtain ⟨a1, r⟩ := ok
      exact p (clr o i) _ H1 ((ChgS.of c).trans (chgS_clr a1 hok)) (a1.setD r (okset_lt hok))
    | own xs => exact own ok
    | odk xs => exact own ok
    | odt xs => exact own ok
    | odl xs => exact own ok
  · cases e
theorem pds_set (hN : X.N.Nodup) (hi : X.N[i]? = some x) (hx : Loc X.env.scope x) (he : PD X E e fe) (hs : swapsWith e (some (.Name x pos')) pos.line X.env = pure false := by rfl) (hf : X.fn x = true ∨ X.env.scope.names.lookup x = some .local := by first | exact .inl rfl | exact .inr rfl | assumption) :
    PDS X E np (.Assign [.Name x pos'] e pos) (asgN np i fe) := PS.imp (ps_set hN hi hx he hs hf) fun D σ H h => asgN_go h
theorem pds_asg (he : PD X E e fe) (hg : PDG X np tg T sl) (hs : swapsWithSole [tg] e pos.line X.env = pure false := by rfl) (hw : swappedStores [tg] e X.env = pure none := by rfl)
    (h1 : (assignEach [tg] X.env).map (·.2) = [assign tg X.env] := by rfl) : PDS X E np (.Assign [tg] e pos) (asgT T fe) := PS.imp (ps_asg he hg hs hw h1) fun D σ H h => by
  obtain ⟨P, o, ρ, fl, a, e, p⟩ := h
  refine tE_mono (fun y H1 h => ?_) (bindS_go a e p)
  obtain ⟨ρ1, s, c, ok, e⟩ := h
  cases hs : s.toD with
  | none => simp only [hs] at e; cases e
  | some d =>
    simp only [hs] at e
    obtain ⟨a1, r⟩ := ok.toD hs
    cases hT : T d ρ1 with
    | none => simp only [hT] at e; cases e
    | some ρ' =>
      simp only [hT] at e
      cases e
      refine ⟨P, o, ρ1, d, ρ', a1, r, hT, fun o' σ' t a' => ?_⟩
      exact p o' σ' H1 ⟨c.keep, c.dom, fun b z => .inl (t.sub b z), fun j b hj q => t.par j b (hj.imp id fun ⟨od, u, z⟩ => ⟨od, u, c.frz b od u z⟩) q, c.frz⟩ a'
end
end DL

namespace DL
open PySem PySem.Spec L2
variable [TheW]

/-! ### iterators -/
/-- what is locked stays -/
def Fk (Hb H' : Hp) : Prop := ∀ a od u, Hb a = some (.frz od u) → H' a = some (.frz od u)
def ItD (K : PySem.W.Frag) (G Hb : Hp) (J : It) (ds : List D) : Prop := ∃ (Gp : Hp → Prop) (Y : Nat → Hp → V → Hp → Prop), Walk J ds.length Gp Y ∧
  (∀ P' H', Ex G (hd P' H') → Fk Hb H' → Gp H') ∧
  ∀ P' i H' x H'', i < ds.length → (∀ a, P' a → ∃ u, H' a = some u) → Ex G (hd P' H') → Y i H' x H'' → Ex H' H'' ∧ ∃ d, ds[i]? = some d ∧ Dp K (hd P' H'') x d
abbrev IM := Env → Option (Sum (List D) (Str × Option D) × Env)
def tI (K : PySem.W.Frag) (mg : Str → Option Value) (E : XK) (f : IM) : TI := fun σ H R => ∃ P o ρ res ρ', At K P o ρ σ H ∧ f ρ = some (res, ρ') ∧ match res with
  | .inl ds => ∀ J H', Chg o H H' → At K P o ρ' σ H' → ItD K (hd (hid P o) H') H' J ds → R J H'
  | .inr (c, p) => ExPost K mg E P o ρ' σ H c p
abbrev PDI (X : Cx) (E : XK) (tg e : Expr) (f : IM) : Prop := PI X tg e (tI X.K X.mg E f)
theorem PI.imp {X : Cx} {tg e : Expr} {t t' : TI} (h : PI X tg e t) (i : ∀ σ H R, t' σ H R → t σ H R) : PI X tg e t' := ⟨fun pins s σ H R I q => h.run pins s σ H R I (i σ H R q)⟩
theorem itd_seq {K : PySem.W.Frag} {G Hb : Hp} {J : It} {vs : List V} {ds : List D} {Gp : Hp → Prop} (w : Walk J vs.length Gp (YAt vs)) (hG : ∀ P' H', Ex G (hd P' H') → Gp H') (h : DpAll K G vs ds) : ItD K G Hb J ds := by
  refine ⟨Gp, YAt vs, by rw [← dps_len h]; exact w, fun P' H' e _ => hG P' H' e, fun P' i H' x H'' _ _ ex y => ?_⟩
  obtain ⟨rfl, hx⟩ := y
  obtain ⟨d, h1, h2⟩ := dps_get h hx
  exact ⟨Ex.refl _, d, h1, dp_mono ex h2⟩
theorem itd_pair {K : PySem.W.Frag} {G Hb : Hp} {J : It} {n : Nat} {xs ys : Nat → Option V} {ds : List D} {Gp : Hp → Prop} (hn : ds.length = n) (w : Walk J n Gp (YPair xs ys)) (hG : ∀ P' H', Ex G (hd P' H') → Gp H')
    (h : ∀ i x y, xs i = some x → ys i = some y → ∃ d e, ds[i]? = some (.tuple [d, e]) ∧ Dp K G x d ∧ Dp K G y e) : ItD K G Hb J ds := by
  refine ⟨Gp, YPair xs ys, by rw [hn]; exact w, fun P' H' e _ => hG P' H' e, fun P' i H' v H'' _ hP ex y => ?_⟩
  obtain ⟨T, x, y, rfl, hT, rfl, h1, h2⟩ := y
  obtain ⟨d, e, h3, h4, h5⟩ := h i x y h1 h2
  refine ⟨Ex.new hT, _, h3, .tup (.inl (.inl (hd_some.mpr ⟨fun z => ?_, upd_same⟩))) (.cons ?_ (.cons ?_ .nil))⟩
  · obtain ⟨u, k⟩ := hP T z
    rw [hT] at k
    cases k
  · exact dp_mono (ex.trans (ex_hd_hd (Ex.new hT))) h4
  · exact dp_mono (ex.trans (ex_hd_hd (Ex.new hT))) h5
/-- a list or a tuple, walked -/
def seqOf : D → Option (List D)
  | .list xs => some xs
  | .tuple xs => some xs
  | _ => none
def iSeq (f : EM) : IM := fun ρ => match f ρ with
  | some (.ok s, ρ1) => (match s.toD with
    | some d => (match seqOf d with
      | some ds => some (.inl ds, ρ1)
      | none => none)
    | none => none)
  | some (.ex c p, ρ1) => some (.inr (c, p), ρ1)
  | none => none
/-- of an iterator made by a built-in of data -/
def iCB (g : List D → Option (List D)) (fs : AM) : IM := fun ρ => match fs ρ with
  | some (.inl as, ρ1) => (match datsOf as with
    | some ds => (match g ds with
      | some r => some (.inl r, ρ1)
      | none => none)
    | none => none)
  | some (.inr (c, p), ρ1) => some (.inr (c, p), ρ1)
  | none => none
theorem icb_go {K : PySem.W.Frag} {mg : Str → Option Value} {E : XK} {fs : AM} {g : List D → Option (List D)} {σ : St} {H : Hp} {R : It → Hp → Prop} (h : tI K mg E (iCB g fs) σ H R) :
    tA K mg E fs σ H fun vs H1 => ∃ G ds rs, Ex G H1 ∧ DpAll K G vs ds ∧ g ds = some rs ∧ ∀ J, ItD K G H1 J rs → R J H1 := by
  obtain ⟨P, o, ρ, res, ρ', a, e, p⟩ := h
  unfold iCB at e
  cases hf : fs ρ with
  | none => rw [hf] at e; cases e
  | some r1 =>
    obtain ⟨r, ρ1⟩ := r1
    rw [hf] at e
    refine ⟨P, o, ρ, _, a, hf, ?_⟩
    cases r with
    | inr x => cases e; exact p
    | inl as =>
      intro vs H1 c1 a1 k
      cases hd' : datsOf as with
      | none => simp only [hd'] at e; cases e
      | some ds =>
        simp only [hd'] at e
        cases hg : g ds with
        | none => simp only [hg] at e; cases e
        | some rs =>
          simp only [hg] at e
          cases e
          exact ⟨hd (hid P o) H1, ds, rs, ex_hd, datsOf_ok k hd', hg, fun J hJ => p J H1 c1 a1 hJ⟩
section
variable {X : Cx} {E : XK} {tg e : Expr} {fe : EM} {fs : AM}
def iSq (K : PySem.W.Frag) (tl : TE) : TI := fun σ H R => tl σ H fun x H1 => ∃ a, x = .ref a ∧ (((∃ xs, SqL K H1 a xs) ∧ R (Itl K a) H1) ∨ ((∃ xs, SqT K H1 a xs) ∧ R (Itt K a) H1))
theorem pi_sq {l : Expr} {tl : TE} (hl : PE X l tl) : PI X tg l (iSq X.K tl) := by
  refine ⟨fun pins s σ H R I h => ?_⟩
  refine thn (hl.run pins s σ H _ I h) fun v s1 ⟨x, H1, I1, r1, q1⟩ => ?_
  obtain ⟨a, e, ⟨⟨xs, hq⟩, q⟩ | ⟨⟨xs, hq⟩, q⟩⟩ := q1
  · subst e
    cases r1
    obtain ⟨its, rv, p, hz⟩ := I1.list hq
    refine wpAny_pyIter_list p.isList ?_
    refine ⟨s1.heap.objs.size, [s1.heap.objs.size], _, _, H1, rfl, I1.kept (t' := s1.toks) fun b o e => Heap.get?_push_of_some _ e, turn_list a _, ⟨_, Heap.get?_push_size _ rfl, rfl, rfl⟩, fun b hb => ?_, q⟩
    have e : b = s1.heap.objs.size := by simpa using hb
    subst e
    exact I1.fpOk (Nat.le_refl _) (I1.hok.fresh (Nat.le_refl _))
  · subst e
    cases r1
    obtain ⟨its, rv, p, hz⟩ := I1.tuple hq
    refine wpAny_pyIter_tuple (show s1.heap.IsTuple a its.toArray from p) ?_
    refine ⟨s1.heap.objs.size, [s1.heap.objs.size], _, _, H1, rfl, I1.kept (t' := s1.toks) fun b o e => Heap.get?_push_of_some _ e, turn_tuple a _, ⟨_, Heap.get?_push_size _ rfl, rfl, rfl⟩, fun b hb => ?_, q⟩
    have e : b = s1.heap.objs.size := by simpa using hb
    subst e
    exact I1.fpOk (Nat.le_refl _) (I1.hok.fresh (Nat.le_refl _))
theorem pdi_seq (he : PD X E e fe) : PDI X E tg e (iSeq fe) := PI.imp (pi_sq he) fun σ H R h => by
  obtain ⟨P, o, ρ, res, ρ', a, e, p⟩ := h
  unfold iSeq at e
  cases hf : fe ρ with
  | none => rw [hf] at e; cases e
  | some r1 =>
    obtain ⟨r, ρ1⟩ := r1
    rw [hf] at e
    refine ⟨P, o, ρ, _, a, hf, ?_⟩
    cases r with
    | ex n pl => cases e; exact p
    | ok s =>
      intro x H1 c1 ok
      cases hs : s.toD with
      | none => simp only [hs] at e; cases e
      | some d =>
        simp only [hs] at e
        cases hq : seqOf d with
        | none => simp only [hq] at e; cases e
        | some ds =>
          simp only [hq] at e
          cases e
          obtain ⟨a1, dx⟩ := ok.toD hs
          cases dx with
          | @lst ad xs ds' h1 h2 =>
            cases hq
            exact ⟨ad, rfl, .inl ⟨⟨xs, ex_l ex_hd h1⟩, p _ H1 c1 a1 (itd_seq walk_list (fun P' H' ex => ex_l ex_hd (ex_l ex h1)) h2)⟩⟩
          | @tup ad xs ds' h1 h2 =>
            cases hq
            exact ⟨ad, rfl, .inr ⟨⟨xs, ex_t ex_hd h1⟩, p _ H1 c1 a1 (itd_seq walk_tup (fun P' H' ex => ex_t ex_hd (ex_t ex h1)) h2)⟩⟩
          | _ => cases hq
/-- range(n), range(a, b): small bounds -/
def rngD (lo : Int) (n : Nat) : List D := (List.range n).map fun (i : Nat) => .int (lo + i)
def gRng1 : List D → Option (List D)
  | [.int j] => if j < 2 ^ 62 then (if -(2 ^ 62) ≤ j then some (rngD 0 j.toNat) else none) else none
  | _ => none
def gRng2 : List D → Option (List D)
  | [.int i, .int j] => if -(2 ^ 62) ≤ i ∧ i < 2 ^ 62 ∧ -(2 ^ 62) ≤ j ∧ j < 2 ^ 62 then some (rngD i (j - i).toNat) else none
  | _ => none
theorem itd_rng {K : PySem.W.Frag} {G Hb : Hp} (lo : Int) (n : Nat) : ItD K G Hb (Itr lo n) (rngD lo n) := by
  refine ⟨fun _ => True, YFn fun i => .int (lo + i), ?_, fun _ _ _ _ => trivial, fun P' i H' x H'' hi _ ex y => ?_⟩
  · have : (rngD lo n).length = n := by simp [rngD]
    rw [this]
    exact walk_range
  · obtain ⟨rfl, rfl⟩ := y
    have hi' : i < n := by simpa [rngD] using hi
    exact ⟨Ex.refl _, .int (lo + i), by simp [rngD, hi'], .int _⟩
theorem pdi_range1 {a : Expr} {p pos : Pos} (hg : Gl X "range") (hm : X.mg "range" = none) (ha : PDA X E [a] fs) (hs : starEach [a] X.env = [(false, eval a X.env)] := by rfl) : PDI X E tg (.Call (.Name "range" p) [a] [] pos) (iCB gRng1 fs) := PI.imp (pi_range1 hg hm ha hs) fun σ H R h => by
  refine tA_mono (fun vs H1 h => ?_) (icb_go h)
  obtain ⟨G, ds, rs, ex, k, hz, p⟩ := h
  unfold gRng1 at hz
  split at hz
  · rename_i j
    split at hz
    · split at hz
      · rename_i h1 h2
        cases hz
        cases k with
        | cons k1 k2 =>
          cases k1
          cases k2
          exact ⟨j, rfl, h2, h1, p _ (itd_rng 0 j.toNat)⟩
      · cases hz
    · cases hz
  · cases hz
theorem pdi_range2 {a b : Expr} {p pos : Pos} (hg : Gl X "range") (hm : X.mg "range" = none) (ha : PDA X E [a, b] fs) (hs : starEach [a, b] X.env = [(false, eval a X.env), (false, eval b X.env)] := by rfl) (hs2 : starEach [b] X.env = [(false, eval b X.env)] := by rfl) : PDI X E tg (.Call (.Name "range" p) [a, b] [] pos) (iCB gRng2 fs) := PI.imp (pi_range2 hg hm ha hs hs2) fun σ H R h => by
  refine tA_mono (fun vs H1 h => ?_) (icb_go h)
  obtain ⟨G, ds, rs, ex, k, hz, p⟩ := h
  unfold gRng2 at hz
  split at hz
  · rename_i i j
    split at hz
    · rename_i hc
      cases hz
      cases k with
      | cons k1 k2 =>
        cases k1
        cases k2 with
        | cons k2 k3 =>
          cases k2
          cases k3
          exact ⟨i, j, rfl, hc, p _ (itd_rng i _)⟩
    · cases hz
  · cases hz
/-- zip of two lists, of two tuples -/
def zipD (xs ys : List D) : List D := (xs.zip ys).map fun p => .tuple [p.1, p.2]
def gZip : List D → Option (List D)
  | [.list xs, .list ys] => some (zipD xs ys)
  | [.tuple xs, .tuple ys] => some (zipD xs ys)
  | _ => none
/-- enumerate of a list -/
def enumD (xs : List D) : List D := zipD (rngD 0 xs.length) xs
def gEnum : List D → Option (List D)
  | [.list xs] => some (enumD xs)
  | _ => none
omit [TheW] in
theorem zipD_len (xs ys : List D) : (zipD xs ys).length = min xs.length ys.length := by simp [zipD]
theorem zipD_get : ∀ {xs ys : List D} {i : Nat} {d e : D}, xs[i]? = some d → ys[i]? = some e → (zipD xs ys)[i]? = some (.tuple [d, e])
  | [], _, _, _, _, h, _ => by simp at h
  | _ :: _, [], _, _, _, _, h => by simp at h
  | x :: xs, y :: ys, 0, d, e, h1, h2 => by
    simp at h1 h2
    subst h1 h2
    rfl
  | x :: xs, y :: ys, i + 1, d, e, h1, h2 => by
    have := zipD_get (xs := xs) (ys := ys) (i := i) (by simpa using h1) (by simpa using h2)
    simpa [zipD] using this
theorem zip_itd {K : PySem.W.Frag} {G Hb : Hp} {J : It} {vs ws : List V} {xs ys : List D} {Gp : Hp → Prop} (w : Walk J (min vs.length ws.length) Gp (YPair (fun i => vs[i]?) (fun i => ws[i]?))) (hG : ∀ P' H', Ex G (hd P' H') → Gp H') (h1 : DpAll K G vs xs) (h2 : DpAll K G ws ys) : ItD K G Hb J (zipD xs ys) := by
  refine itd_pair (by rw [zipD_len, dps_len h1, dps_len h2]) w hG fun i x y e1 e2 => ?_
  obtain ⟨d, e3, k1⟩ := dps_get h1 e1
  obtain ⟨e, e4, k2⟩ := dps_get h2 e2
  refine ⟨d, e, ?_, k1, k2⟩
  exact zipD_get e3 e4
theorem walk_zipT {K : PySem.W.Frag} {a b : Addr} {xs ys : List V} {n : Nat} (hn : n = min xs.length ys.length) : Walk (RZ.ItzT K a b) n (fun H => SqT K H a xs ∧ SqT K H b ys) (YPair (fun i => xs[i]?) (fun i => ys[i]?)) := by
  subst hn
  refine ⟨fun i _ hi q => ?_, fun _ q => ⟨xs, ys, q.1, q.2, by omega⟩, fun i H v H' _ q y => ?_⟩
  · have h1 : i < xs.length := by omega
    have h2 : i < ys.length := by omega
    exact ⟨xs, ys, xs[i], ys[i], q.1, q.2, by simp [h1], by simp [h2]⟩
  · obtain ⟨T, x, z, h1, h2, h3, h4, h5⟩ := y
    exact ⟨T, x, z, h1, h2, h3, h4 xs q.1, h5 ys q.2⟩
theorem pdi_zip {a b : Expr} {p pos tpos : Pos} {elts : List Expr} {kk : Nat} (hg : Gl X "zip") (hm : X.mg "zip" = none) (ha : PDA X E [a, b] fs)
    (hs : starEach [a, b] X.env = (false, eval a X.env) :: starEach [b] X.env := by rfl) (hpl : (backTo pos (starEach [b] X.env)).any (·.1) = false := by rfl) : PDI X E (.Tuple elts kk tpos) (.Call (.Name "zip" p) [a, b] [] pos) (iCB gZip fs) := PI.imp (RZ.pi_zipA hg hm ha hs hpl) fun σ H R h => by
  refine tA_mono (fun vs H1 h => ?_) (icb_go h)
  obtain ⟨G, ds, rs, ex, k, hz, p⟩ := h
  unfold gZip at hz
  split at hz
  · cases hz
    cases k with
    | cons k1 k2 =>
      cases k2 with
      | cons k2 k3 =>
        cases k3
        cases k1 with
        | @lst a xs _ q1 r1 =>
          cases k2 with
          | @lst b ys _ q2 r2 =>
            exact ⟨a, b, xs, ys, rfl, .inl ⟨ex_l ex q1, ex_l ex q2, p _ (zip_itd (walk_zip rfl) (fun P' H' e => ⟨ex_l ex_hd (ex_l e q1), ex_l ex_hd (ex_l e q2)⟩) r1 r2)⟩⟩
  · cases hz
    cases k with
    | cons k1 k2 =>
      cases k2 with
      | cons k2 k3 =>
        cases k3
        cases k1 with
        | @tup a xs _ q1 r1 =>
          cases k2 with
          | @tup b ys _ q2 r2 =>
            exact ⟨a, b, xs, ys, rfl, .inr ⟨ex_t ex q1, ex_t ex q2, p _ (zip_itd (walk_zipT rfl) (fun P' H' e => ⟨ex_t ex_hd (ex_t e q1), ex_t ex_hd (ex_t e q2)⟩) r1 r2)⟩⟩
  · cases hz
omit [TheW] in
theorem rngD_get {lo : Int} {n i : Nat} (h : i < n) : (rngD lo n)[i]? = some (.int (lo + i)) := by simp [rngD, h]
omit [TheW] in
theorem rngD_len {lo : Int} {n : Nat} : (rngD lo n).length = n := by simp [rngD]
theorem pdi_enum {a : Expr} {p pos tpos : Pos} {elts : List Expr} {kk : Nat} (hg : Gl X "enumerate") (hm : X.mg "enumerate" = none) (ha : PDA X E [a] fs)
    (hs : starEach [a] X.env = [(false, eval a X.env)] := by rfl) : PDI X E (.Tuple elts kk tpos) (.Call (.Name "enumerate" p) [a] [] pos) (iCB gEnum fs) := PI.imp (pi_enum hg hm ha hs) fun σ H R h => by
  refine tA_mono (fun vs H1 h => ?_) (icb_go h)
  obtain ⟨G, ds, rs, ex, k, hz, p⟩ := h
  unfold gEnum at hz
  split at hz
  · cases hz
    cases k with
    | cons k1 k2 =>
      cases k2
      cases k1 with
      | @lst a vs xs q1 r1 =>
        refine ⟨a, vs, rfl, ex_l ex q1, p _ ?_⟩
        have hl := dps_len r1
        refine itd_pair (n := vs.length) (by rw [enumD, zipD_len, rngD_len, Nat.min_self, hl]) walk_enum (fun P' H' e => ex_l ex_hd (ex_l e q1)) fun i x y e1 e2 => ?_
        cases e1
        obtain ⟨e, e4, k2⟩ := dps_get r1 e2
        obtain ⟨hi, _⟩ := List.getElem?_eq_some_iff.mp e4
        refine ⟨.int (i : Nat), e, ?_, .int _, k2⟩
        unfold enumD
        exact zipD_get (by rw [rngD_get hi]; simp) e4
  · cases hz
end

/-! ### for -/
def loopS (T : TgM) (fb : SM) : List D → SM
  | [], ρ => some (.nx ρ)
  | d :: ds, ρ => match T d ρ with
    | none => none
    | some ρ1 => match fb ρ1 with
      | some (.nx ρ2) => loopS T fb ds ρ2
      | some (.ct ρ2) => loopS T fb ds ρ2
      | some (.bk ρ2) => some (.nx ρ2)
      | r => r
def forS (fi : IM) (T : TgM) (fb : SM) : SM := fun ρ => match fi ρ with
  | some (.inl ds, ρ1) => loopS T fb ds ρ1
  | some (.inr (c, p), ρ1) => some (.ex c p ρ1)
  | none => none
theorem ChgS.ex {np : Nat} {P : Addr → Prop} {o o' : Ow} {H H' : Hp} (c : ChgS np o o' H H') : Ex (hd (hid P o) H) (hd (hid P o') H') := fun a u h => by
  obtain ⟨n, h⟩ := hd_some.mp h
  refine hd_some.mpr ⟨fun z => ?_, c.keep a u h fun z => n (.inr z)⟩
  rcases z with z | z
  · exact n (.inl z)
  · rcases c.new a z with z | z
    · exact n (.inr z)
    · rw [h] at z; cases z
section
variable {X : Cx} {E : XK} {np : Nat} {tg it : Expr} {body : List Stmt} {fi : IM} {T : TgM} {sl : List Nat} {fb : SM} {pos : Pos}
theorem pds_for (hp : PassesOwn (model X.prog X.w) X.A X.env X.xe) (hc : X.calm = true) (hi : PDI X E tg it fi) (hg : PDG X np tg T sl) (hb : PDB X E np body fb)
    (hs : ∀ x, foldedSetIterable it X.env x = pure x := by intro _; rfl) : PDS X E np (.For tg it body [] pos) (forS fi T fb) := PS.imp (ps_for hp hc hi hg hb hs) fun D σ H h => by
  obtain ⟨P, o, ρ, fl, a, e, p⟩ := h
  unfold forS at e
  cases hf : fi ρ with
  | none => rw [hf] at e; cases e
  | some r1 =>
    obtain ⟨r, ρ1⟩ := r1
    rw [hf] at e
    refine ⟨P, o, ρ, _, _, a, hf, ?_⟩
    cases r with
    | inr x =>
      have e' : fl = .ex x.1 x.2 ρ1 := by cases e; rfl
      exact p.exp e'
    | inl ds =>
      intro J H1 c1 a1 ij
      obtain ⟨Gp, Y, w, hG, hY⟩ := ij
      have e : loopS T fb ds ρ1 = some fl := e
      have p := p.later (ChgS.of c1)
      refine for_it w (fun i σ' H' => ∃ o' ρ', ChgS np o o' H1 H' ∧ Ex (hd (hid P o) H1) (hd (hid P o') H') ∧ At X.K P o' ρ' σ' H' ∧ loopS T fb (ds.drop i) ρ' = some fl)
        ⟨o, ρ1, .refl, Ex.refl _, a1, by simpa using e⟩ (fun i σ' H' _ ⟨o', ρ', c', ex, _⟩ => hG _ _ ex c'.frz) (fun i x σ' H' H'' hi' hp' y => ?_) (fun σ' H' ⟨o', ρ', c', _, a', e'⟩ => ?_)
      · obtain ⟨o', ρ', c', ex, a', e'⟩ := hp'
        obtain ⟨ex2, d, hd1, hd2⟩ := hY (hid P o') i H' x H'' hi' (fun a q => a'.domH q) ex y
        have hdrop : ds.drop i = d :: ds.drop (i + 1) := by
          obtain ⟨h1, h2⟩ := List.getElem?_eq_some_iff.mp hd1
          rw [List.drop_eq_getElem_cons h1, h2]
        rw [hdrop] at e'
        unfold loopS at e'
        cases hT : T d ρ' with
        | none => simp only [hT] at e'; cases e'
        | some ρ2 =>
          simp only [hT] at e'
          refine ⟨P, o', ρ', d, ρ2, a'.ext ex2, hd2, hT, fun o2 σ2 t2 a2 => ?_⟩
          have c2 : ChgS np o o2 H1 H'' := c'.trans ⟨fun a u h _ => ex2 a u h, fun a u h => ⟨u, ex2 a u h⟩, fun a z => .inl (t2.sub a z), fun j b hj q => t2.par j b (hj.imp id fun ⟨od, u, z⟩ => ⟨od, u, ex2 b _ z⟩) q, fun a od u h => ex2 a _ h⟩
          have ex3 : Ex (hd (hid P o) H1) (hd (hid P o2) H'') := ex.trans ((ex_hd_hd ex2).trans (ex_hd_le fun a z => z.elim .inl fun z => .inr (t2.sub a z)))
          have go : ∀ ρ3, loopS T fb (ds.drop (i + 1)) ρ3 = some fl → ∀ o3 σ3 H3, ChgS np o2 o3 H'' H3 → At X.K P o3 ρ3 σ3 H3 → ∃ o' ρ', ChgS np o o' H1 H3 ∧ Ex (hd (hid P o) H1) (hd (hid P o') H3) ∧ At X.K P o' ρ' σ3 H3 ∧ loopS T fb (ds.drop (i + 1)) ρ' = some fl :=
            fun ρ3 e3 o3 σ3 H3 c3 a3 => ⟨o3, ρ3, c2.trans c3, ex3.trans c3.ex, a3, e3⟩
          cases hb' : fb ρ2 with
          | none => simp only [hb'] at e'; cases e'
          | some r =>
            simp only [hb'] at e'
            refine ⟨P, o2, ρ2, r, a2, hb', ?_⟩
            cases r with
            | nx ρ3 => exact go ρ3 e'
            | ct ρ3 => exact go ρ3 e'
            | bk ρ3 => cases e'; exact p.later c2
            | rt s ρ3 => cases e'; exact p.later c2
            | ex n pl ρ3 => cases e'; exact p.later c2
      · rw [List.drop_length] at e'
        cases e'
        exact p o' σ' H' c' a'
end
end DL

namespace DL
open PySem PySem.Spec L2
variable [TheW]

/-! ### a comprehension's own names -/
def wipeE (ρ : Env) : List Nat → Env
  | [] => ρ
  | v :: vs => (wipeE ρ vs).set v none
def restE (ρ1 ρ2 : Env) : List Nat → Env
  | [] => ρ2
  | v :: vs => match ρ1[v]? with
    | some s => (restE ρ1 ρ2 vs).set v s
    | none => restE ρ1 ρ2 vs
def noOwn (ρ : Env) (vs : List Nat) : Bool := vs.all fun i => match ρ[i]? with
  | some (some s) => !s.isOwn
  | _ => true
omit [TheW] in
theorem wipeE_len (ρ : Env) : ∀ vs : List Nat, (wipeE ρ vs).length = ρ.length
  | [] => rfl
  | v :: vs => by unfold wipeE; rw [List.length_set, wipeE_len ρ vs]
omit [TheW] in
theorem wipeE_some {ρ : Env} {i : Nat} {x : S} : ∀ {vs : List Nat}, (wipeE ρ vs)[i]? = some (some x) → ρ[i]? = some (some x) ∧ i ∉ vs
  | [], h => ⟨h, by simp⟩
  | v :: vs, h => by
    unfold wipeE at h
    by_cases hi : v = i
    · subst hi
      by_cases hv : v < (wipeE ρ vs).length
      · rw [List.getElem?_set_self hv] at h; cases h
      · rw [List.getElem?_eq_none (by simpa using hv)] at h; cases h
    · rw [List.getElem?_set_ne hi] at h
      obtain ⟨h1, h2⟩ := wipeE_some h
      exact ⟨h1, by simp only [List.mem_cons, not_or]; exact ⟨fun e => hi e.symm, h2⟩⟩
omit [TheW] in
theorem wipeE_out {ρ : Env} {i : Nat} : ∀ {vs : List Nat}, i ∉ vs → (wipeE ρ vs)[i]? = ρ[i]?
  | [], _ => rfl
  | v :: vs, h => by
    have h1 : i ≠ v := fun e => h (by simp [e])
    have h2 : i ∉ vs := fun e => h (by simp [e])
    unfold wipeE
    rw [List.getElem?_set_ne (Ne.symm h1)]
    exact wipeE_out h2
omit [TheW] in
theorem restE_len (ρ1 ρ2 : Env) : ∀ vs : List Nat, (restE ρ1 ρ2 vs).length = ρ2.length
  | [] => rfl
  | v :: vs => by
    unfold restE
    split
    · rw [List.length_set, restE_len ρ1 ρ2 vs]
    · exact restE_len ρ1 ρ2 vs
omit [TheW] in
theorem restE_out {ρ1 ρ2 : Env} {i : Nat} : ∀ {vs : List Nat}, i ∉ vs → (restE ρ1 ρ2 vs)[i]? = ρ2[i]?
  | [], _ => rfl
  | v :: vs, h => by
    have h1 : i ≠ v := fun e => h (by simp [e])
    have h2 : i ∉ vs := fun e => h (by simp [e])
    unfold restE
    split
    · rw [List.getElem?_set_ne (Ne.symm h1)]
      exact restE_out h2
    · exact restE_out h2
omit [TheW] in
theorem restE_in {ρ1 ρ2 : Env} {i : Nat} (hl : ρ1.length = ρ2.length) : ∀ {vs : List Nat}, i ∈ vs → (restE ρ1 ρ2 vs)[i]? = ρ1[i]?
  | [], h => by simp at h
  | v :: vs, h => by
    unfold restE
    by_cases e : i = v
    · subst e
      split
      · rename_i s hs
        have hv : i < ρ1.length := (List.getElem?_eq_some_iff.mp hs).1
        rw [List.getElem?_set_self (by rw [restE_len, ← hl]; exact hv), hs]
      · rename_i hs
        rw [hs]
        have hv : ρ1.length ≤ i := List.getElem?_eq_none_iff.mp hs
        exact List.getElem?_eq_none (by rw [restE_len, ← hl]; exact hv)
    · have h' : i ∈ vs := by simpa [e] using h
      split
      · rw [List.getElem?_set_ne (Ne.symm e)]
        exact restE_in hl h'
      · exact restE_in hl h'
theorem wipe_in {σ : St} {i : Nat} : ∀ {vs : List Nat}, i ∈ vs → i < σ.length → (wipe σ vs)[i]? = some none
  | [], h, _ => by simp at h
  | v :: vs, h, hl => by
    unfold wipe
    by_cases e : i = v
    · subst e
      exact List.getElem?_set_self (by rw [wipe_length]; exact hl)
    · have h' : i ∈ vs := by simpa [e] using h
      rw [List.getElem?_set_ne (Ne.symm e)]
      exact wipe_in h' hl
theorem wipe_eq {σ σ' : St} {vs : List Nat} (hl : σ'.length = σ.length) (h : ∀ (j : Nat), j ∉ vs → σ'[j]? = σ[j]?) : wipe σ' vs = wipe σ vs := by
  apply List.ext_getElem?
  intro j
  by_cases hj : j ∈ vs
  · by_cases hlt : j < σ.length
    · rw [wipe_in hj hlt, wipe_in hj (by rw [hl]; exact hlt)]
    · rw [List.getElem?_eq_none (by rw [wipe_length, hl]; omega), List.getElem?_eq_none (by rw [wipe_length]; omega)]
  · rw [wipe_out hj, wipe_out hj]
    exact h j hj
section
variable {K : PySem.W.Frag} {P : Addr → Prop} {o : Ow} {ρ ρ2 : Env} {σ σ2 : St} {H H' : Hp} {vs : List Nat}
/-- another view of the same objects -/
theorem At.view (h : At K P o ρ σ H) (hl : ρ2.length = σ2.length) (hv : ∀ (i : Nat) s, ρ2[i]? = some (some s) → ρ[i]? = some (some s) ∧ σ2[i]? = σ[i]?) (ho : ∀ (i : Nat) s, ρ[i]? = some (some s) → s.isOwn = true → ρ2[i]? = some (some s)) : At K P o ρ2 σ2 H := by
  refine ⟨hl, h.dom, h.inj, h.dis, fun i a q => ?_, fun i d q => ?_, fun i s q hs => h.ow i s (hv i s q).1 hs⟩
  · obtain ⟨s, h1, h2, h3⟩ := h.has i a q
    have h4 := ho i s h1 h3.isOwn
    exact ⟨s, h4, by rw [(hv i s h4).2]; exact h2, h3⟩
  · obtain ⟨h1, h2⟩ := hv i _ q
    rw [h2]
    exact h.dat i d h1
theorem noOwn_at (h : noOwn ρ vs = true) {i : Nat} {s : S} (hi : i ∈ vs) (e : ρ[i]? = some (some s)) : s.isOwn = false := by
  have := List.all_eq_true.mp h i hi
  rw [e] at this
  simpa using this
theorem At.wiped (h : At K P o ρ σ H) (hn : noOwn ρ vs = true) : At K P o (wipeE ρ vs) (wipe σ vs) H := by
  refine h.view (by rw [wipeE_len, wipe_length]; exact h.len) (fun i s q => ?_) fun i s q hs => ?_
  · obtain ⟨h1, h2⟩ := wipeE_some q
    exact ⟨h1, wipe_out h2⟩
  · rw [wipeE_out fun z => ?_]
    · exact q
    · rw [noOwn_at hn z q] at hs
      cases hs
/-- behind the block: its own names as they were ahead of it -/
theorem At.restored (h1 : At K P o ρ σ H) (h2 : At K P o ρ2 (wipe σ vs) H') (hn : noOwn ρ vs = true) (hn2 : noOwn ρ2 vs = true) (ex : Ex (hd (hid P o) H) (hd (hid P o) H')) : At K P o (restE ρ ρ2 vs) σ H' := by
  have hl : ρ.length = ρ2.length := by rw [h1.len, h2.len, wipe_length]
  have case : ∀ (i : Nat) s, (restE ρ ρ2 vs)[i]? = some (some s) → (i ∈ vs ∧ ρ[i]? = some (some s)) ∨ (i ∉ vs ∧ ρ2[i]? = some (some s)) := fun i s q => by
    by_cases hi : i ∈ vs
    · rw [restE_in hl hi] at q; exact .inl ⟨hi, q⟩
    · rw [restE_out hi] at q; exact .inr ⟨hi, q⟩
  refine ⟨by rw [restE_len, ← hl]; exact h1.len, h2.dom, h1.inj, h1.dis, fun i a q => ?_, fun i d q hd' => ?_, fun i s q hs => ?_⟩
  · obtain ⟨s, k1, k2, k3⟩ := h2.has i a q
    have hi : i ∉ vs := fun z => by
      have := noOwn_at hn2 z k1
      rw [k3.isOwn] at this
      cases this
    rw [wipe_out hi] at k2
    exact ⟨s, by rw [restE_out hi]; exact k1, k2, k3⟩
  · rcases case i _ q with ⟨hi, q⟩ | ⟨hi, q⟩
    · obtain ⟨v, k1, k2⟩ := h1.dat i d q hd'
      exact ⟨v, k1, dok_mono ex k2⟩
    · obtain ⟨v, k1, k2⟩ := h2.dat i d q hd'
      rw [wipe_out hi] at k1
      exact ⟨v, k1, k2⟩
  · rcases case i _ q with ⟨hi, q⟩ | ⟨hi, q⟩
    · exact h1.ow i s q hs
    · exact h2.ow i s q hs
/-- a hidden object that no slot holds is written -/
theorem At.updHid (h : At K P o ρ σ H) {p : Addr} {u : HO} (hp : P p) (hn : ¬ Own o p) : At K P o ρ σ (upd H p u) := by
  have e : hd (hid P o) (upd H p u) = hd (hid P o) H := by
    funext a
    unfold hd
    split
    · rfl
    · rename_i hne
      exact upd_ne fun z => hne (by rw [z]; exact .inl hp)
  refine ⟨h.len, fun a q => ?_, h.inj, h.dis, fun i a q => ?_, fun i d q => ?_, h.ow⟩
  · by_cases ha : a = p
    · subst ha; exact ⟨u, upd_same⟩
    · obtain ⟨w, k⟩ := h.dom a q
      exact ⟨w, by rw [upd_ne ha]; exact k⟩
  · obtain ⟨s, h1, h2, h3⟩ := h.has i a q
    rw [e]
    exact ⟨s, h1, h2, h3.imp (Ex.refl _) fun w z => by rw [upd_ne fun q' => hn (by rw [← q']; exact ⟨i, q⟩)]; exact z⟩
  · rw [e]
    exact h.dat i d q
end

/-! ### comprehensions -/
/-- a clause's tests -/
def mYes : EM := retD (.bool true)
abbrev PDTs (X : Cx) (E : XK) (ifs : List Expr) (f : EM) : Prop := PTs X ifs (tT X.K X.mg E f)
theorem PTs.imp {X : Cx} {ifs : List Expr} {t t' : TT} (h : PTs X ifs t) (i : ∀ σ H Q, t' σ H Q → t σ H Q) : PTs X ifs t' := ⟨fun pins s σ H Q I q => h.run pins s σ H Q I (i σ H Q q)⟩
theorem pdts_nil {X : Cx} {E : XK} : PDTs X E [] mYes := PTs.imp pts_nil fun σ H Q h => by
  obtain ⟨P, o, ρ, res, a, e, p⟩ := h
  cases e
  exact p H .refl a
theorem pdts_one {X : Cx} {E : XK} {c : Expr} {f : EM} (h : PDT X E c f) : PDTs X E [c] f := pts_one h
def loopC (T : TgM) (ft fe : EM) (vs : List Nat) : List D → List D → Env → Option (List D × Env)
  | acc, [], ρ => if noOwn ρ vs = true then some (acc, ρ) else none
  | acc, d :: ds, ρ => match T d ρ with
    | none => none
    | some ρ1 => match ft ρ1 with
      | some (.ok (.dat (.bool true)), ρ2) => (match fe ρ2 with
        | some (.ok s, ρ3) => (match s.toD with
          | some x => if acc.length < big ∧ noOwn ρ3 vs = true then loopC T ft fe vs (acc ++ [x]) ds (wipeE ρ3 vs) else none
          | none => none)
        | _ => none)
      | some (.ok (.dat (.bool false)), ρ2) => if noOwn ρ2 vs = true then loopC T ft fe vs acc ds (wipeE ρ2 vs) else none
      | _ => none
def compE (ow : Bool) (fi : IM) (T : TgM) (ft fe : EM) (vs : List Nat) : EM := fun ρ => match fi ρ with
  | some (.inl ds, ρ1) => if noOwn ρ1 vs = true then (match loopC T ft fe vs [] ds (wipeE ρ1 vs) with
    | some (xs, ρ2) => some (.ok (if ow = true then .own xs else .dat (.list xs)), restE ρ1 ρ2 vs)
    | none => none) else none
  | some (.inr (c, p), ρ1) => some (.ex c p, ρ1)
  | none => none
theorem big_lt {n : Nat} (h : n < big) : n < sizeLine := Nat.lt_of_lt_of_le h (big_line (Nat.le_refl _))
/-- an object held by nobody is given out, as an own list or as data -/
theorem okP_list {K : PySem.W.Frag} {P : Addr → Prop} {o : Ow} {ρ : Env} {σ : St} {H0 H : Hp} {p : Addr} {ws : List V} {xs : List D} {ow : Bool} (hp : H0 p = none) (hn : ¬ hid P o p) (a : At K (plusA P p) o ρ σ H) (e : H p = some (.lst ws)) (k : DpAll K (hd (hid (plusA P p) o) H) ws xs) :
    OkP K P o ρ σ H0 H (.ref p) (if ow = true then .own xs else .dat (.list xs)) := by
  have q : OkP K P o ρ σ H0 H (.ref p) (.own xs) := ⟨p, rfl, hp, hn, a, ws, e, k⟩
  cases ow with
  | true => exact q
  | false => exact q.toD rfl
/-- the turns of a comprehension's loop -/
theorem lc_loop {K : PySem.W.Frag} {mg : Str → Option Value} {E : XK} {np : Nat} {T : TgM} {sl vs : List Nat} {ft fe : EM} (hsl : ∀ i ∈ sl, i ∈ vs) {J : It} {P : Addr → Prop} {o : Ow} {ρ1 : Env} {σ : St} {H1 : Hp} {p : Addr} {ds : List D} {fin : List D × Env} {Q : Hp → Prop}
    (a1 : At K P o ρ1 σ H1) (hn : noOwn ρ1 vs = true) (ij : ItD K (hd (hid P o) H1) H1 J ds) (hp : H1 p = none) (hr : loopC T ft fe vs [] ds (wipeE ρ1 vs) = some fin)
    (hq : ∀ H' ws, Chg o H1 H' → H' p = some (.lst ws) → At K (plusA P p) o fin.2 (wipe σ vs) H' → noOwn fin.2 vs = true → DpAll K (hd (hid (plusA P p) o) H') ws fin.1 → Q H') :
    ∃ W : Nat → Nat → Hp → Prop, (∃ m, W 0 m (upd H1 p (.lst []))) ∧ ∀ i m H, W i m H →
      (J.stop i H ∧ Q H) ∨ (J.go i H ∧ ∃ Nx : Hp → Prop, (∀ H', Nx H' → ∃ m', m' < m ∧ W (i + 1) m' H') ∧ ∀ x H', J.yld i H x H' → tG K np T sl x (wipe σ vs) H' fun σ2 H2 => wipe σ2 vs = wipe σ vs ∧ tT K mg E ft σ2 H2 fun b H3 =>
        if b = true then tE K mg E fe σ2 H3 fun y H4 => ∃ acc, H4 p = some (.lst acc) ∧ acc.length < sizeLine ∧ Nx (upd H4 p (.lst (acc ++ [y]))) else Nx H3) := by
  obtain ⟨Gp, Y, w, hG, hY⟩ := ij
  have nhp : ¬ hid P o p := fun z => by
    obtain ⟨u, k⟩ := a1.domH z
    rw [hp] at k
    cases k
  have nop : ¬ Own o p := fun z => nhp (.inr z)
  have hwl : ∀ σ2 : St, σ2.length = (wipe σ vs).length → (∀ (j : Nat), j ∉ sl → σ2[j]? = (wipe σ vs)[j]?) → wipe σ2 vs = wipe σ vs := fun σ2 hl ho => wipe_eq (by rw [hl, wipe_length]) fun j hj => by
    rw [ho j fun z => hj (hsl j z), wipe_out hj]
  -- the invariant
  refine lc_it w (fun i H => ∃ acc ws ρ, Chg o H1 H ∧ Ex (hd (hid P o) H1) (hd (hid (plusA P p) o) H) ∧ H p = some (.lst ws) ∧ DpAll K (hd (hid (plusA P p) o) H) ws acc ∧ At K (plusA P p) o ρ (wipe σ vs) H ∧ loopC T ft fe vs acc (ds.drop i) ρ = some fin)
    ⟨[], [], wipeE ρ1 vs, .of (Ex.new hp), ?_, upd_same, .nil, (a1.plus hp).wiped hn, by simpa using hr⟩ (fun i H _ ⟨acc, ws, ρ, c, ex, _⟩ => hG _ _ ex c.frz) (fun i x H H' hi h y => ?_) (fun H ⟨acc, ws, ρ, c, ex, e, k, a, hl⟩ => ?_)
  · intro a u q
    obtain ⟨n, q⟩ := hd_some.mp q
    have hne : a ≠ p := ne_of_none q hp
    refine hd_some.mpr ⟨fun z => ?_, by rw [upd_ne hne]; exact q⟩
    rcases z with (z | z) | z
    · exact n (.inl z)
    · exact hne z
    · exact n (.inr z)
  · obtain ⟨acc, ws, ρ, c, ex, e, k, a, hl⟩ := h
    obtain ⟨ex2, d, hd1, hd2⟩ := hY (hid (plusA P p) o) i H x H' hi (fun b q => a.domH q) ex y
    have hdrop : ds.drop i = d :: ds.drop (i + 1) := by
      obtain ⟨h1, h2⟩ := List.getElem?_eq_some_iff.mp hd1
      rw [List.drop_eq_getElem_cons h1, h2]
    rw [hdrop] at hl
    unfold loopC at hl
    cases hT : T d ρ with
    | none => simp only [hT] at hl; cases hl
    | some ρ2 =>
      simp only [hT] at hl
      refine ⟨plusA P p, o, ρ, d, ρ2, a.ext ex2, hd2, hT, fun o2 σ2 t2 a2 => ?_⟩
      have hw := hwl σ2 t2.len t2.off
      refine ⟨hw, ?_⟩
      -- the target has cleared no own slot: o2 holds what o holds
      have nov : ∀ j b, o j = some b → j ∉ vs := fun j b q z => by
        obtain ⟨s, h1, h2, h3⟩ := a.has j b q
        exact (wipe_some h2).2 z
      have oo : o2 = o := by
        funext j
        by_cases hj : j ∈ sl
        · have h1 : o j = none := by
            cases q : o j with
            | none => rfl
            | some b => exact (nov j b q (hsl j hj)).elim
          rw [h1]
          cases q : o2 j with
          | none => rfl
          | some b =>
            obtain ⟨i', hi'⟩ := t2.sub b ⟨j, q⟩
            have hns : i' ∉ sl := fun z => nov i' b hi' (hsl i' z)
            have h2 : o2 i' = some b := (t2.oth i' hns).trans hi'
            have e := a2.inj _ _ _ h2 q
            subst e
            exact (hns hj).elim
        · exact t2.oth j hj
      subst oo
      have cc : Chg o2 H1 H' := c.trans (.of ex2)
      have ep : H' p = some (.lst ws) := ex2 _ _ e
      have exx : Ex (hd (hid P o2) H1) (hd (hid (plusA P p) o2) H') := ex.trans (ex_hd_hd ex2)
      have kk : DpAll K (hd (hid (plusA P p) o2) H') ws acc := dps_mono (ex_hd_hd ex2) k
      -- a turn's end: the list as it is, the block's names wiped
      have fin1 : ∀ {acc' : List D} {ws' : List V} {ρ3 : Env} {H3 : Hp}, Chg o2 H1 H3 → Ex (hd (hid P o2) H1) (hd (hid (plusA P p) o2) H3) → H3 p = some (.lst ws') → DpAll K (hd (hid (plusA P p) o2) H3) ws' acc' → At K (plusA P p) o2 ρ3 σ2 H3 → noOwn ρ3 vs = true →
          loopC T ft fe vs acc' (ds.drop (i + 1)) (wipeE ρ3 vs) = some fin → ∃ acc ws ρ, Chg o2 H1 H3 ∧ Ex (hd (hid P o2) H1) (hd (hid (plusA P p) o2) H3) ∧ H3 p = some (.lst ws) ∧ DpAll K (hd (hid (plusA P p) o2) H3) ws acc ∧ At K (plusA P p) o2 ρ (wipe σ vs) H3 ∧ loopC T ft fe vs acc (ds.drop (i + 1)) ρ = some fin :=
        fun {acc' ws' ρ3 H3} q1 q2 q3 q4 q5 q6 q7 => by
          have q8 := q5.wiped q6
          have hw' : wipe σ2 vs = wipe σ vs := by
            rw [hwl σ2 t2.len t2.off]
          rw [hw'] at q8
          exact ⟨acc', ws', wipeE ρ3 vs, q1, q2, q3, q4, q8, q7⟩
      cases hft : ft ρ2 with
      | none => simp only [hft] at hl; cases hl
      | some r =>
        obtain ⟨r, ρ3⟩ := r
        simp only [hft] at hl
        refine ⟨plusA P p, o2, ρ2, _, a2, hft, ?_⟩
        cases r with
        | ex n pl => cases hl
        | ok s =>
          cases s with
          | dat d' =>
            cases d' with
            | bool b =>
              intro H3 c3 a3
              have ep3 : H3 p = some (.lst ws) := c3.keep _ _ ep nop
              cases b with
              | false =>
                simp only at hl
                split at hl
                · rename_i hno
                  exact fin1 (cc.trans c3) (exx.trans c3.ex) ep3 (dps_mono c3.ex kk) a3 hno hl
                · cases hl
              | true =>
                simp only at hl
                cases hfe : fe ρ3 with
                | none => simp only [hfe] at hl; cases hl
                | some r =>
                  obtain ⟨r, ρ4⟩ := r
                  simp only [hfe] at hl
                  refine ⟨plusA P p, o2, ρ3, _, a3, hfe, ?_⟩
                  cases r with
                  | ex n pl => cases hl
                  | ok s =>
                    intro yv H4 c4 ok4
                    cases hs : s.toD with
                    | none => simp only [hs] at hl; cases hl
                    | some xd =>
                      simp only [hs] at hl
                      split at hl
                      · rename_i hb
                        obtain ⟨a4, k4⟩ := ok4.toD hs
                        have ep4 : H4 p = some (.lst ws) := c4.keep _ _ ep3 nop
                        have kw := dps_mono c4.ex (dps_mono c3.ex kk)
                        refine ⟨ws, ep4, by rw [dps_len kw]; exact big_lt hb.1, ?_⟩
                        have eh : hd (hid (plusA P p) o2) (upd H4 p (.lst (ws ++ [yv]))) = hd (hid (plusA P p) o2) H4 := by
                          funext z
                          unfold hd
                          split
                          · rfl
                          · rename_i hne
                            exact upd_ne fun q => hne (by rw [q]; exact .inl (.inr rfl))
                        have c5 : Chg o2 H1 (upd H4 p (.lst (ws ++ [yv]))) := by
                          have c' := (cc.trans c3).trans c4
                          refine ⟨fun z u hz hno => ?_, fun z u hz => ?_, fun z od u hz => ?_⟩
                          · rw [upd_ne (ne_of_none hz hp)]
                            exact c'.keep z u hz hno
                          · obtain ⟨u', h'⟩ := c'.dom z u hz
                            exact ⟨u', by rw [upd_ne (ne_of_none hz hp)]; exact h'⟩
                          · rw [upd_ne (ne_of_none hz hp)]
                            exact c'.frz z od u hz
                        refine fin1 c5 ?_ upd_same ?_ (a4.updHid (.inr rfl) nop) hb.2 hl
                        · rw [eh]; exact exx.trans (c3.ex.trans c4.ex)
                        · rw [eh]; exact dps_append kw (.cons k4 .nil)
                      · cases hl
            | _ => cases hl
          | _ => cases hl
  · rw [List.drop_length] at hl
    unfold loopC at hl
    split at hl
    · rename_i hno
      cases hl
      exact hq H ws c e a hno k
    · cases hl
section
variable {X : Cx} {E : XK} {np : Nat} {elt tg it : Expr} {ifs : List Expr} {scope : Scope} {own : List (Str × Nat)} {fi : IM} {T : TgM} {sl : List Nat} {ft fe : EM} {ow : Bool} {pos : Pos}
theorem comp_imp {K : PySem.W.Frag} {mg : Str → Option Value} {E E2 : XK} {vs : List Nat} (hsl : ∀ i ∈ sl, i ∈ vs) {σ : St} {H : Hp} {Q : VK} (h : tE K mg E (compE ow fi T ft fe vs) σ H Q) : tLc (tI K mg E fi) (tG K np T sl) (tT K mg E2 ft) (tE K mg E2 fe) vs σ H Q := by
  obtain ⟨P, o, ρ, res, a, e, p⟩ := h
  unfold compE at e
  cases hf : fi ρ with
  | none => rw [hf] at e; cases e
  | some r1 =>
    obtain ⟨r, ρ1⟩ := r1
    rw [hf] at e
    refine ⟨P, o, ρ, _, _, a, hf, ?_⟩
    cases r with
    | inr x => cases e; exact p
    | inl ds =>
      intro J H1 c1 a1 ij q hq
      simp only at e
      split at e
      · rename_i hn
        cases hl : loopC T ft fe vs [] ds (wipeE ρ1 vs) with
        | none => simp only [hl] at e; cases e
        | some fin =>
          simp only [hl] at e
          cases e
          have nhp : ¬ hid P o q := fun z => by
            obtain ⟨u, k⟩ := a1.domH z
            rw [hq] at k
            cases k
          refine lc_loop (mg := mg) (E := E2) (np := np) hsl a1 hn ij hq hl fun H' ws c e a2 hn2 k => ?_
          have a1' : At K (plusA P q) o ρ1 σ (upd H1 q (.lst [])) := a1.plus hq
          refine p _ H' (c1.trans c) (okP_list (c1.back hq) nhp ?_ e k)
          -- ahead of the loop, with the new list hidden
          have ex : Ex (hd (hid (plusA P q) o) H1) (hd (hid (plusA P q) o) H') := fun b u z => by
            obtain ⟨n, z⟩ := hd_some.mp z
            exact hd_some.mpr ⟨n, c.keep b u z fun w => n (.inr w)⟩
          have ex1 : Ex (hd (hid (plusA P q) o) (upd H1 q (.lst []))) (hd (hid (plusA P q) o) H') := fun b u z => by
            obtain ⟨n, z⟩ := hd_some.mp z
            have hb : b ≠ q := fun w => n (.inl (.inr w))
            rw [upd_ne hb] at z
            exact hd_some.mpr ⟨n, c.keep b u z fun w => n (.inr w)⟩
          exact a1'.restored a2 hn hn2 ex1
      · cases e
theorem pd_comp (hc : X.calm = true) (hN : X.N.Nodup) (hi : PDI X E tg it fi) (ok : BlkOk X.N X.env.scope scope own) (hsl : ∀ i ∈ sl, i ∈ own.map (·.2))
    (hg : ∀ (s : Shared) (H : Hp) (C : Addr) (cl : List (Str × Addr)) (fp : List Addr), PDG (X.blk s H scope (compEnvC scope cl C X.env) fp) np tg T sl)
    (ht : ∀ (s : Shared) (H : Hp) (C : Addr) (cl : List (Str × Addr)) (fp : List Addr), PDTs (X.blk s H scope (compEnvC scope cl C X.env) fp) E0 ifs ft)
    (he : ∀ (s : Shared) (H : Hp) (C : Addr) (cl : List (Str × Addr)) (fp : List Addr), PD (X.blk s H scope (compEnvC scope cl C X.env) fp) E0 elt fe) (hs : ∀ x, foldedSetIterable it X.env x = pure x := by intro _; rfl) :
    PD X E (.ListComp elt [⟨tg, it, ifs, 0⟩] scope pos) (compE ow fi T ft fe (own.map (·.2))) :=
  PE.imp (pe_lc hc hN hi ok hg ht he hs) fun _ _ _ h => comp_imp hsl h
theorem pds_setComp {i : Nat} {y : Str} {py spos : Pos} (hc : X.calm = true) (hN : X.N.Nodup) (hy : X.N[i]? = some y) (hyl : X.env.scope.names.lookup y = some .local)
    (hsw : swapsWith (.ListComp elt [⟨tg, it, ifs, 0⟩] scope pos) (some (.Name y py)) spos.line X.env = pure true) (hi : PDI X E tg it fi) (ok : BlkOk X.N X.env.scope scope own) (hsl : ∀ i ∈ sl, i ∈ own.map (·.2))
    (hg : ∀ (s : Shared) (H : Hp) (C : Addr) (cl : List (Str × Addr)) (fp : List Addr), PDG (X.blk s H scope (compEnvC scope cl C X.env) fp) np tg T sl)
    (ht : ∀ (s : Shared) (H : Hp) (C : Addr) (cl : List (Str × Addr)) (fp : List Addr), PDTs (X.blk s H scope (compEnvC scope cl C X.env) fp) E0 ifs ft)
    (he : ∀ (s : Shared) (H : Hp) (C : Addr) (cl : List (Str × Addr)) (fp : List Addr), PD (X.blk s H scope (compEnvC scope cl C X.env) fp) E0 elt fe) (hs : ∀ x, foldedSetIterable it X.env x = pure x := by intro _; rfl) :
    PDS X E np (.Assign [.Name y py] (.ListComp elt [⟨tg, it, ifs, 0⟩] scope pos) spos) (asgN np i (compE ow fi T ft fe (own.map (·.2)))) :=
  PS.imp (ps_setLc hc hN hy hyl hsw hi ok hg ht he hs) fun _ _ _ h => comp_imp hsl (asgN_go h)
end
end DL

namespace DL
open PySem PySem.Spec L2
variable [TheW]

/-! ### defs -/
/-- the parameters behind a call: own objects as they are left, the others as they were -/
def restP : Env → Env → Env
  | a :: as, b :: bs => (match a with
    | some s => if s.isOwn = true then b else a
    | none => a) :: restP as bs
  | as, _ => as
omit [TheW] in
theorem restP_len : ∀ (a b : Env), (restP a b).length = a.length
  | [], _ => by simp [restP]
  | _ :: _, [] => by simp [restP]
  | a :: as, b :: bs => by simp [restP, restP_len as bs]
theorem restP_get : ∀ {a b : Env} {i : Nat} {x : Option S}, a.length ≤ b.length → (restP a b)[i]? = some x → (∃ s, a[i]? = some (some s) ∧ s.isOwn = true ∧ b[i]? = some x) ∨ (a[i]? = some x ∧ ∀ s, x = some s → s.isOwn = false)
  | [], b, i, x, _, h => by simp [restP] at h
  | a :: as, [], i, x, hl, _ => by simp at hl
  | a :: as, b :: bs, 0, x, hl, h => by
    cases a with
    | none => simp [restP] at h; subst h; exact .inr ⟨rfl, fun _ e => nomatch e⟩
    | some s =>
      by_cases hs : s.isOwn = true
      · simp [restP, hs] at h; subst h; exact .inl ⟨s, rfl, hs, rfl⟩
      · simp [restP, hs] at h; subst h; exact .inr ⟨rfl, fun t e => by cases e; simpa using hs⟩
  | a :: as, b :: bs, i + 1, x, hl, h => by
    have := restP_get (a := as) (b := bs) (i := i) (x := x) (by simpa using hl) (by simpa [restP] using h)
    simpa using this
theorem restP_own : ∀ {a b : Env} {i : Nat} {s : S}, a.length ≤ b.length → a[i]? = some (some s) → s.isOwn = true → (restP a b)[i]? = b[i]?
  | [], _, _, _, _, h, _ => by simp at h
  | a :: as, [], _, _, hl, _, _ => by simp at hl
  | a :: as, b :: bs, 0, s, hl, h, hs => by simp at h; subst h; simp [restP, hs]
  | a :: as, b :: bs, i + 1, s, hl, h, hs => by
    have := restP_own (a := as) (b := bs) (i := i) (s := s) (by simpa using hl) (by simpa using h) hs
    simpa [restP] using this
def runQ (np loc : Nat) (fb : SM) : EM := fun ρ => if ρ.length = np then (match fb (ρ ++ List.replicate loc none) with
  | some (.rt s ρ') => if np ≤ ρ'.length then some (.ok s, restP ρ ρ') else none
  | some (.nx ρ') => if np ≤ ρ'.length then some (.ok (.dat .none), restP ρ ρ') else none
  | _ => none) else none
def spF (K : PySem.W.Frag) (mg : Str → Option Value) (n : Nat) (F : EM) : Sp := fun vs H Q E => vs.length = n ∧ tE K mg E F (vs.map some) H Q
structure FnD (Pr : Program) (w : World) (K : PySem.W.Frag) (mg : Str → Option Value) (base : Heap) (x : Str) (k : Nat) (ps : List Str) (F : EM) : Prop where
  ex : ∃ f fd, mg x = some (.ref f) ∧ PySem.W.keepIn K (.ref f) = true ∧ Binds K fd ps [] ∧ FnOk Pr w K mg base (L2.CX Pr w) k f fd ps (spF K mg ps.length F)
theorem FnD.mono {Pr : Program} {w : World} {K : PySem.W.Frag} {mg : Str → Option Value} {base : Heap} {x : Str} {j k : Nat} {ps : List Str} {F : EM} (h : FnD Pr w K mg base x j ps F) (l : j ≤ k) : FnD Pr w K mg base x k ps F := by
  obtain ⟨f, fd, h1, h2, h3, h4⟩ := h.ex
  exact ⟨f, fd, h1, h2, h3, h4.mono l⟩
/-- less is told -/
theorem FnD.imp {Pr : Program} {w : World} {K : PySem.W.Frag} {mg : Str → Option Value} {base : Heap} {x : Str} {k : Nat} {ps : List Str} {F G : EM} (h : FnD Pr w K mg base x k ps F) (l : ∀ ρ r, G ρ = some r → F ρ = some r) : FnD Pr w K mg base x k ps G := by
  obtain ⟨f, fd, h1, h2, h3, h4⟩ := h.ex
  refine ⟨f, fd, h1, h2, h3, h4.imp fun vs H Q E q => ⟨q.1, ?_⟩⟩
  obtain ⟨_, P, o, ρ, res, a, e, p⟩ := q
  exact ⟨P, o, ρ, res, a, l _ _ e, p⟩
section
variable {K : PySem.W.Frag} {P P' : Addr → Prop} {o o' : Ow} {ρ ρ' : Env} {σ σ' : St} {H H' : Hp} {np : Nat}
theorem At.slots (h : At K P o ρ σ H) (n : Nat) : At K P o (ρ ++ List.replicate n none) (σ ++ List.replicate n none) H := by
  have low : ∀ (i : Nat) s, (ρ ++ List.replicate n none)[i]? = some (some s) → ρ[i]? = some (some s) := fun i s q => by
    by_cases hi : i < ρ.length
    · rwa [List.getElem?_append_left hi] at q
    · rw [List.getElem?_append_right (by omega), List.getElem?_replicate] at q
      split at q <;> cases q
  refine h.view (by simp [h.len]) (fun i s q => ?_) fun i s q _ => ?_
  · have q' := low i s q
    have hi : i < ρ.length := (List.getElem?_eq_some_iff.mp q').1
    exact ⟨q', List.getElem?_append_left (by rw [← h.len]; exact hi)⟩
  · have hi : i < ρ.length := (List.getElem?_eq_some_iff.mp q).1
    rw [List.getElem?_append_left hi]
    exact q
/-- a def is left -/
theorem At.leave (h0 : At K P o ρ σ H) (h : At K P' o' ρ' σ' H') (c : ChgS np o o' H H') (hn : ρ.length = np) (hl : np ≤ ρ'.length) (hP : ∀ b, P b → P' b) (hP' : ∀ b, P' b → P b ∨ Own o b ∨ H b = none) : At K P' o (restP ρ ρ') σ H' := by
  have lt : ∀ {i a}, o i = some a → i < np := fun {i a} q => by
    obtain ⟨s, h1, _⟩ := h0.has i a q
    rw [← hn]
    exact (List.getElem?_eq_some_iff.mp h1).1
  have sub : ∀ b, Own o b → Own o' b := fun b ⟨i, q⟩ => ⟨i, c.par i b (.inl (lt q)) q⟩
  have exA : Ex (hd (hid P' o') H') (hd (hid P' o) H') := ex_hd_le fun b z => z.elim .inl fun z => .inr (sub b z)
  have exB : Ex (hd (hid P o) H) (hd (hid P' o) H') := fun b u z => by
    obtain ⟨n, z⟩ := hd_some.mp z
    refine hd_some.mpr ⟨fun w => ?_, c.keep b u z fun w => n (.inr w)⟩
    rcases w with w | w
    · rcases hP' b w with w | w | w
      · exact n (.inl w)
      · exact n (.inr w)
      · rw [z] at w; cases w
    · exact n (.inr w)
  have hll : ρ.length ≤ ρ'.length := by rw [hn]; exact hl
  refine ⟨by rw [restP_len]; exact h0.len, h.dom, h0.inj, fun i a q => h.dis i a (c.par i a (.inl (lt q)) q), fun i a q => ?_, fun i d q hd' => ?_, fun i s q hs => ?_⟩
  · obtain ⟨s, h1, h2, h3⟩ := h0.has i a q
    obtain ⟨s', k1, k2, k3⟩ := h.has i a (c.par i a (.inl (lt q)) q)
    exact ⟨s', by rw [restP_own hll h1 h3.isOwn]; exact k1, h2, k3.imp exA fun _ z => z⟩
  · rcases restP_get hll q with ⟨s, h1, h2, h3⟩ | ⟨h1, _⟩
    · obtain ⟨a, ho⟩ := h0.ow i s h1 h2
      obtain ⟨s', k1, _, k3⟩ := h.has i a (c.par i a (.inl (lt ho)) ho)
      rw [h3] at k1
      cases k1
      rw [k3.isOwn] at hd'
      cases hd'
    · obtain ⟨v, k1, k2⟩ := h0.dat i d h1 hd'
      exact ⟨v, k1, dok_mono exB k2⟩
  · rcases restP_get hll q with ⟨s', h1, h2, h3⟩ | ⟨h1, h2⟩
    · exact h0.ow i s' h1 h2
    · rw [h2 s rfl] at hs
      cases hs
end
/-- a def that lets nothing out -/
theorem fndOk {Pr : Program} {w : World} {K : PySem.W.Frag} {mg : Str → Option Value} {base : Heap} {x : Str} {params : Arguments} {body : List Stmt} {scope : Scope} {f : Addr} {fd : FuncData} {N ps : List Str} {k : Nat} {fb : SM}
    (F : FunD K x x params body scope [] [] f fd) (hm : mg x = some (.ref f)) (hb : Binds K fd ps []) (Sc : FnScope N ps scope)
    (hbody : ∀ (cdv : Value) (A : Around) (outer : List PySem.Env) (s : Shared) (H : Hp) (E : XK), Room k (A.deeper (PyProof.Rows.envOfC x scope s.heap.objs.size f cdv)) → PDB (cxOf (L2.CX Pr w) Pr w K mg base N x scope f cdv A outer s H E).nox E0 ps.length body fb) :
    FnOk Pr w K mg base (L2.CX Pr w) (k + 1) f fd ps (spF K mg ps.length (runQ ps.length (N.length - ps.length) fb)) := by
  refine F.ok Sc (fun vs H Q E h => h.1) fun cdv A outer s H vs Q E hr h => ⟨_, PSs.nox (hbody cdv A outer s H E hr), ?_⟩
  obtain ⟨hv, P, o, ρ, res, a, e, p⟩ := h
  unfold runQ at e
  split at e
  · rename_i hl
    cases hf : fb (ρ ++ List.replicate (N.length - ps.length) none) with
    | none => simp only [hf] at e; cases e
    | some r =>
      simp only [hf] at e
      have a1 : At K P o (ρ ++ List.replicate (N.length - ps.length) none) (L2.start N vs) H := by
        unfold L2.start
        rw [hv]
        exact a.slots _
      refine ⟨P, o, _, r, a1, hf, ?_⟩
      have out : ∀ (o' : Ow) (ρ' : Env) (σ' : St) (s : S) (v : V) (H' : Hp), ps.length ≤ ρ'.length → res = (.ok s, restP ρ ρ') → ChgS ps.length o o' H H' → RtP K P o o' ρ' σ' H H' v s → Q v H' := by
        intro o' ρ' σ' s v H' hl' er c ok
        subst er
        have hc : Chg o H H' := ⟨c.keep, c.dom, c.frz⟩
        have own : (∃ b, v = .ref b ∧ (Own o b ∨ H b = none) ∧ ¬ Own o' b ∧ At K (plusA P b) o' ρ' σ' H' ∧ OwnOk K (hd (hid (plusA P b) o') H') H' b s) → ∃ b, v = .ref b ∧ H b = none ∧ ¬ hid P o b ∧ At K (plusA P b) o (restP ρ ρ') (vs.map some) H' ∧ OwnOk K (hd (hid (plusA P b) o) H') H' b s := by
          rintro ⟨b, rfl, h2, h3, h4, h5⟩
          have lt : ∀ {i a'}, o i = some a' → i < ps.length := fun {i a'} q => by
            obtain ⟨s, h1, _⟩ := a.has i a' q
            rw [← hl]
            exact (List.getElem?_eq_some_iff.mp h1).1
          have hbn : H b = none := by
            rcases h2 with ⟨i, q⟩ | q
            · exact (h3 ⟨i, c.par i b (.inl (lt q)) q⟩).elim
            · exact q
          refine ⟨b, rfl, hbn, fun z => ?_, a.leave h4 c hl hl' (fun _ z => .inl z) (fun z q => q.elim .inl fun q => .inr (.inr (by rw [q]; exact hbn))), h5.imp (ex_hd_le fun z q => ?_) fun _ z => z⟩
          · obtain ⟨u, q⟩ := a.domH z
            rw [hbn] at q
            cases q
          · rcases q with q | ⟨i, q⟩
            · exact .inl q
            · exact .inr ⟨i, c.par i z (.inl (lt q)) q⟩
        refine p v H' hc ?_
        cases s with
        | dat d =>
          obtain ⟨h1, h2⟩ := ok
          refine ⟨a.leave h1 c hl hl' (fun _ z => z) (fun _ z => .inl z), dp_mono (ex_hd_le fun z q => ?_) h2⟩
          rcases q with q | ⟨i, q⟩
          · exact .inl q
          · obtain ⟨s, k1, _⟩ := a.has i z q
            exact .inr ⟨i, c.par i z (.inl (by rw [← hl]; exact (List.getElem?_eq_some_iff.mp k1).1)) q⟩
        | own xs => exact own ok
        | odk xs => exact own ok
        | odt xs => exact own ok
        | odl xs => exact own ok
      cases r with
      | rt s ρ' =>
        simp only at e
        split at e
        · rename_i hl'
          exact fun o' σ' v H' c ok => out o' ρ' σ' s v H' hl' (by cases e; rfl) c ok
        · cases e
      | nx ρ' =>
        simp only at e
        split at e
        · rename_i hl'
          exact fun o' σ' H' c at' => out o' ρ' σ' (.dat .none) .non H' hl' (by cases e; rfl) c ⟨at', .non⟩
        · cases e
      | bk ρ' => cases e
      | ct ρ' => cases e
      | ex n pl ρ' => cases e
  · cases e

/-! ### calls -/
theorem fndQ {Pr : Program} {w : World} {K : PySem.W.Frag} {mg : Str → Option Value} {base : Heap} {x : Str} {params : Arguments} {body : List Stmt} {scope : Scope} {f : Addr} {fd : FuncData} {N ps : List Str} {k : Nat} {fb : SM}
    (F : FunD K x x params body scope [] [] f fd) (hm : mg x = some (.ref f)) (hb : Binds K fd ps []) (Sc : FnScope N ps scope)
    (hbody : ∀ (cdv : Value) (A : Around) (outer : List PySem.Env) (s : Shared) (H : Hp) (E : XK), Room k (A.deeper (PyProof.Rows.envOfC x scope s.heap.objs.size f cdv)) → PDB (cxOf (L2.CX Pr w) Pr w K mg base N x scope f cdv A outer s H E).nox E0 ps.length body fb) :
    FnD Pr w K mg base x (k + 1) ps (runQ ps.length (N.length - ps.length) fb) := ⟨f, fd, hm, F.kp, hb, fndOk F hm hb Sc hbody⟩
def argS (ρ : Env) : Arg → Option S
  | .dat d => some (.dat d)
  | .ref i => (ρ[i]?).join
def argEnv (as : List Arg) (ρ : Env) : Env := as.map (argS ρ)
def putBack : List Arg → Env → Env → Env
  | .ref i :: as, s :: ρc, ρ => putBack as ρc (ρ.set i s)
  | .dat _ :: as, _ :: ρc, ρ => putBack as ρc ρ
  | _, _, ρ => ρ
def refsOf : List Arg → List Nat
  | [] => []
  | .ref i :: as => i :: refsOf as
  | .dat _ :: as => refsOf as
def nodupN : List Nat → Bool
  | [] => true
  | i :: r => !r.contains i && nodupN r
def callM (F : EM) (fs : AM) : EM := fun ρ => match fs ρ with
  | some (.inl as, ρ1) => if nodupN (refsOf as) = true then (match F (argEnv as ρ1) with
    | some (r, ρc) => if ρc.length = as.length then some (r, putBack as ρc ρ1) else none
    | none => none) else none
  | some (.inr (c, p), ρ1) => some (.ex c p, ρ1)
  | none => none
theorem mem_refs : ∀ {as : List Arg} {j i : Nat}, as[j]? = some (.ref i) → i ∈ refsOf as
  | [], _, _, h => by simp at h
  | .ref i' :: as, 0, i, h => by simp at h; subst h; simp [refsOf]
  | .ref i' :: as, j + 1, i, h => by simp [refsOf]; exact .inr (mem_refs (by simpa using h))
  | .dat _ :: as, 0, i, h => by simp at h
  | .dat _ :: as, j + 1, i, h => by simp [refsOf]; exact mem_refs (by simpa using h)
theorem refs_inj : ∀ {as : List Arg} {j j' i : Nat}, nodupN (refsOf as) = true → as[j]? = some (.ref i) → as[j']? = some (.ref i) → j = j'
  | [], _, _, _, _, h, _ => by simp at h
  | .dat _ :: as, 0, _, _, _, h, _ => by simp at h
  | .dat _ :: as, _ + 1, 0, _, _, _, h => by simp at h
  | .dat _ :: as, j + 1, j' + 1, i, hn, h, h' => by
    have := refs_inj (as := as) (j := j) (j' := j') (i := i) (by simpa [refsOf] using hn) (by simpa using h) (by simpa using h')
    omega
  | .ref i' :: as, 0, 0, _, _, _, _ => rfl
  | .ref i' :: as, 0, j' + 1, i, hn, h, h' => by
    simp at h; subst h
    have hm := mem_refs (as := as) (j := j') (i := i') (by simpa using h')
    simp [refsOf, nodupN, hm] at hn
  | .ref i' :: as, j + 1, 0, i, hn, h, h' => by
    simp at h'; subst h'
    have hm := mem_refs (as := as) (j := j) (i := i') (by simpa using h)
    simp [refsOf, nodupN, hm] at hn
  | .ref i' :: as, j + 1, j' + 1, i, hn, h, h' => by
    have hn' : nodupN (refsOf as) = true := by
      simp [refsOf, nodupN] at hn
      exact hn.2
    have := refs_inj (as := as) (j := j) (j' := j') (i := i) hn' (by simpa using h) (by simpa using h')
    omega
theorem putBack_len : ∀ (as : List Arg) (ρc ρ : Env), (putBack as ρc ρ).length = ρ.length
  | [], _, _ => by simp [putBack]
  | .ref i :: as, [], _ => by simp [putBack]
  | .ref i :: as, s :: ρc, ρ => by simp [putBack, putBack_len as ρc]
  | .dat _ :: as, [], _ => by simp [putBack]
  | .dat _ :: as, s :: ρc, ρ => by simp [putBack, putBack_len as ρc]
theorem putBack_out : ∀ {as : List Arg} {ρc ρ : Env} {i : Nat}, i ∉ refsOf as → (putBack as ρc ρ)[i]? = ρ[i]?
  | [], _, _, _, _ => by simp [putBack]
  | .ref i :: as, [], _, _, _ => by simp [putBack]
  | .ref i' :: as, s :: ρc, ρ, i, h => by
    simp [refsOf] at h
    rw [putBack, putBack_out h.2, List.getElem?_set_ne (fun e => h.1 e.symm)]
  | .dat _ :: as, [], _, _, _ => by simp [putBack]
  | .dat _ :: as, s :: ρc, ρ, i, h => by
    simp [refsOf] at h
    rw [putBack, putBack_out h]
theorem putBack_in : ∀ {as : List Arg} {ρc ρ : Env} {i j : Nat} {s : Option S}, nodupN (refsOf as) = true → as[j]? = some (.ref i) → ρc[j]? = some s → i < ρ.length → (putBack as ρc ρ)[i]? = some s
  | [], _, _, _, _, _, _, h, _, _ => by simp at h
  | _ :: _, [], _, _, _, _, _, _, h, _ => by simp at h
  | .ref i' :: as, s' :: ρc, ρ, i, 0, s, hn, h, h2, hl => by
    simp at h h2
    subst h h2
    have hm : i' ∉ refsOf as := by
      intro z
      simp [refsOf, nodupN, z] at hn
    rw [putBack, putBack_out hm, List.getElem?_set_self hl]
  | .ref i' :: as, s' :: ρc, ρ, i, j + 1, s, hn, h, h2, hl => by
    have hn' : nodupN (refsOf as) = true := by
      simp [refsOf, nodupN] at hn
      exact hn.2
    rw [putBack]
    exact putBack_in hn' (by simpa using h) (by simpa using h2) (by simpa using hl)
  | .dat _ :: as, s' :: ρc, ρ, i, 0, s, hn, h, h2, hl => by simp at h
  | .dat _ :: as, s' :: ρc, ρ, i, j + 1, s, hn, h, h2, hl => by
    rw [putBack]
    exact putBack_in (by simpa [refsOf] using hn) (by simpa using h) (by simpa using h2) hl
theorem ref_mem : ∀ {as : List Arg} {i : Nat}, i ∈ refsOf as → ∃ j : Nat, as[j]? = some (.ref i)
  | .ref i' :: as, i, h => by
    simp [refsOf] at h
    rcases h with rfl | h
    · exact ⟨0, rfl⟩
    · obtain ⟨j, h⟩ := ref_mem h
      exact ⟨j + 1, by simpa using h⟩
  | .dat _ :: as, i, h => by
    obtain ⟨j, h⟩ := ref_mem (show i ∈ refsOf as by simpa [refsOf] using h)
    exact ⟨j + 1, by simpa using h⟩
theorem argOk_len {K : PySem.W.Frag} {G : Hp} {o : Ow} : ∀ {vs : List V} {as : List Arg}, ArgOk K G o vs as → vs.length = as.length
  | _, _, .nil => rfl
  | _, _, .dat _ r => by simp [argOk_len r]
  | _, _, .ref _ r => by simp [argOk_len r]
theorem argOk_get {K : PySem.W.Frag} {G : Hp} {o : Ow} : ∀ {vs : List V} {as : List Arg} {j : Nat}, ArgOk K G o vs as → (∀ d, as[j]? = some (.dat d) → ∃ v, vs[j]? = some v ∧ Dp K G v d) ∧ ∀ i, as[j]? = some (.ref i) → ∃ a, vs[j]? = some (V.ref a) ∧ o i = some a
  | _, _, _, .nil => ⟨fun _ e => by simp at e, fun _ e => by simp at e⟩
  | _, _, 0, .dat h r => ⟨fun d e => by simp at e; subst e; exact ⟨_, rfl, h⟩, fun _ e => by simp at e⟩
  | _, _, 0, .ref h r => ⟨fun d e => by simp at e, fun i e => by simp at e; subst e; exact ⟨_, rfl, h⟩⟩
  | _, _, j + 1, .dat _ r => by simpa using argOk_get (j := j) r
  | _, _, j + 1, .ref _ r => by simpa using argOk_get (j := j) r
def ocOf (o : Ow) (as : List Arg) : Ow := fun j => match as[j]? with
  | some (.ref i) => o i
  | _ => none
theorem ocOf_some {o : Ow} {as : List Arg} {j : Nat} {a : Addr} (h : ocOf o as j = some a) : ∃ i, as[j]? = some (.ref i) ∧ o i = some a := by
  unfold ocOf at h
  split at h
  · rename_i i hi
    exact ⟨i, hi, h⟩
  · cases h
section
variable {K : PySem.W.Frag} {P : Addr → Prop} {o : Ow} {ρ ρc : Env} {σ : St} {H H' : Hp} {as : List Arg} {vs : List V}
theorem own_oc {a : Addr} (h : Own (ocOf o as) a) : Own o a := by
  obtain ⟨j, h⟩ := h
  obtain ⟨i, _, h⟩ := ocOf_some h
  exact ⟨i, h⟩
/-- what a callee's caller hides beside what it hands on -/
def pcOf (P : Addr → Prop) (o : Ow) (as : List Arg) : Addr → Prop := fun a => hid P o a ∧ ¬ Own (ocOf o as) a
theorem hid_pc : hid (pcOf P o as) (ocOf o as) = hid P o := funext fun a => propext ⟨fun z => z.elim (fun z => z.1) fun z => .inr (own_oc z), fun z => by
  by_cases q : Own (ocOf o as) a
  · exact .inr q
  · exact .inl ⟨z, q⟩⟩
theorem hid_pc2 (b : Addr) : hid (plusA (pcOf P o as) b) (ocOf o as) = hid (plusA P b) o := by
  have e := hid_pc (P := P) (o := o) (as := as)
  funext z
  apply propext
  have ez : hid (pcOf P o as) (ocOf o as) z ↔ hid P o z := by rw [e]
  constructor
  · rintro ((w | w) | w)
    · rcases ez.mp (.inl w) with q | q
      · exact .inl (.inl q)
      · exact .inr q
    · exact .inl (.inr w)
    · rcases ez.mp (.inr w) with q | q
      · exact .inl (.inl q)
      · exact .inr q
  · rintro ((w | w) | w)
    · rcases ez.mpr (.inl w) with q | q
      · exact .inl (.inl q)
      · exact .inr q
    · exact .inl (.inr w)
    · rcases ez.mpr (.inr w) with q | q
      · exact .inl (.inl q)
      · exact .inr q
theorem hid_oc (Q : Addr → Prop) (hQ : ∀ a, Own o a → Q a) : hid Q (ocOf o as) = Q := funext fun a => propext ⟨fun z => z.elim id fun z => hQ a (own_oc z), .inl⟩
/-- a callee's entry -/
theorem At.enter (h : At K P o ρ σ H) (hn : nodupN (refsOf as) = true) (k : ArgOk K (hd (hid P o) H) o vs as) : At K (pcOf P o as) (ocOf o as) (argEnv as ρ) (vs.map some) H := by
  have eh : hid (pcOf P o as) (ocOf o as) = hid P o := hid_pc
  refine ⟨by simp [argEnv, argOk_len k], fun a z => h.domH z.1, fun j j' a q q' => ?_, fun j a q z => z.2 ⟨j, q⟩, fun j a q => ?_, fun j d q hd' => ?_, fun j s q hs => ?_⟩
  · obtain ⟨i, h1, h2⟩ := ocOf_some q
    obtain ⟨i', h1', h2'⟩ := ocOf_some q'
    have e := h.inj i i' a h2 h2'
    subst e
    exact refs_inj hn h1 h1'
  · obtain ⟨i, h1, h2⟩ := ocOf_some q
    obtain ⟨s, k1, k2, k3⟩ := h.has i a h2
    obtain ⟨a', k4, k5⟩ := (argOk_get (j := j) k).2 i h1
    rw [h2] at k5
    cases k5
    refine ⟨s, by simp [argEnv, h1, argS, k1], by simp [k4], by rw [eh]; exact k3⟩
  · rw [eh]
    unfold argEnv at q
    rw [List.getElem?_map] at q
    cases h1 : as[j]? with
    | none => rw [h1] at q; cases q
    | some x =>
      rw [h1] at q
      cases x with
      | dat d' =>
        simp [argS] at q
        subst q
        obtain ⟨v, k1, k2⟩ := (argOk_get (j := j) k).1 d' h1
        exact ⟨v, by simp [k1], k2⟩
      | ref i =>
        simp [argS] at q
        obtain ⟨a', k4, k5⟩ := (argOk_get (j := j) k).2 i h1
        obtain ⟨s, k1, k2, k3⟩ := h.has i a' k5
        rw [k1] at q
        simp at q
        subst q
        rw [k3.isOwn] at hd'
        cases hd'
  · unfold argEnv at q
    rw [List.getElem?_map] at q
    cases h1 : as[j]? with
    | none => rw [h1] at q; cases q
    | some x =>
      rw [h1] at q
      cases x with
      | dat d' =>
        simp [argS] at q
        subst q
        cases hs
      | ref i =>
        obtain ⟨a', k4, k5⟩ := (argOk_get (j := j) k).2 i h1
        exact ⟨a', by unfold ocOf; rw [h1]; exact k5⟩
/-- behind a call -/
theorem At.returned {Pq Pc : Addr → Prop} (h : At K P o ρ σ H) (hn : nodupN (refsOf as) = true) (hl : ρc.length = as.length) (h' : At K Pc (ocOf o as) ρc (vs.map some) H') (c : Chg (ocOf o as) H H') (eh : hid Pc (ocOf o as) = hid Pq o)
    (hq : ∀ b, Pq b → P b ∨ H b = none) (hr : ∀ i ∈ refsOf as, ∃ a, o i = some a) : At K Pq o (putBack as ρc ρ) σ H' := by
  have ex : Ex (hd (hid P o) H) (hd (hid Pq o) H') := fun b u z => by
    obtain ⟨n, z⟩ := hd_some.mp z
    refine hd_some.mpr ⟨fun w => ?_, c.keep b u z fun w => n (.inr (own_oc w))⟩
    rcases w with w | w
    · rcases hq b w with w | w
      · exact n (.inl w)
      · rw [z] at w; cases w
    · exact n (.inr w)
  -- what a slot holds behind the call
  have own_at : ∀ i a, o i = some a → i ∈ refsOf as → ∃ s, (putBack as ρc ρ)[i]? = some (some s) ∧ OwnOk K (hd (hid Pq o) H') H' a s := fun i a q hi => by
    obtain ⟨j, hj⟩ := ref_mem hi
    have hoc : ocOf o as j = some a := by unfold ocOf; rw [hj]; exact q
    obtain ⟨s, k1, _, k3⟩ := h'.has j a hoc
    obtain ⟨s0, q1, _⟩ := h.has i a q
    exact ⟨s, putBack_in hn hj k1 (List.getElem?_eq_some_iff.mp q1).1, by rw [← eh]; exact k3⟩
  refine ⟨by rw [putBack_len]; exact h.len, fun b z => ?_, h.inj, fun i a q z => (hq a z).elim (h.dis i a q) fun w => h.ownNe q w rfl, fun i a q => ?_, fun i d q hd' => ?_, fun i s q hs => ?_⟩
  · have : hid Pc (ocOf o as) b := by rw [eh]; exact .inl z
    exact h'.domH this
  · obtain ⟨s0, q1, q2, q3⟩ := h.has i a q
    by_cases hi : i ∈ refsOf as
    · obtain ⟨s, k1, k2⟩ := own_at i a q hi
      exact ⟨s, k1, q2, k2⟩
    · refine ⟨s0, by rw [putBack_out hi]; exact q1, q2, q3.imp ex fun u z => c.keep a u z fun ⟨j, w⟩ => ?_⟩
      obtain ⟨i', h1, h2⟩ := ocOf_some w
      have e := h.inj i' i a h2 q
      subst e
      exact hi (mem_refs h1)
  · by_cases hi : i ∈ refsOf as
    · obtain ⟨a, ho⟩ := hr i hi
      obtain ⟨s, k1, k2⟩ := own_at i a ho hi
      rw [k1] at q
      cases q
      rw [k2.isOwn] at hd'
      cases hd'
    · rw [putBack_out hi] at q
      obtain ⟨v, k1, k2⟩ := h.dat i d q hd'
      exact ⟨v, k1, dok_mono ex k2⟩
  · by_cases hi : i ∈ refsOf as
    · exact hr i hi
    · rw [putBack_out hi] at q
      exact h.ow i s q hs
theorem argOk_refs {G : Hp} : ∀ {vs : List V} {as : List Arg}, ArgOk K G o vs as → ∀ i ∈ refsOf as, ∃ a, o i = some a
  | _, _, .nil, i, h => by simp [refsOf] at h
  | _, _, .dat _ r, i, h => argOk_refs r i (by simpa [refsOf] using h)
  | _, _, .ref e r, i, h => by
    simp [refsOf] at h
    rcases h with rfl | h
    · exact ⟨_, e⟩
    · exact argOk_refs r i h
theorem call_imp {mg : Str → Option Value} {E : XK} {F : EM} {fs : AM} {n : Nat} {Q : VK} (hlen : ∀ vs H (Q : VK) (E : XK), vs.length ≠ n → ¬ spF K mg n F vs H Q E) (hn' : ∀ (as : List Arg) (ρ ρ1 : Env), fs ρ = some (.inl as, ρ1) → as.length = n) (h : tE K mg E (callM F fs) σ H Q) : tCall (spF K mg n F) [] E (tA K mg E fs) σ H Q := by
  obtain ⟨P, o, ρ, res, a, e, p⟩ := h
  unfold callM at e
  cases hf : fs ρ with
  | none => rw [hf] at e; cases e
  | some r1 =>
    obtain ⟨r, ρ1⟩ := r1
    rw [hf] at e
    refine ⟨P, o, ρ, _, a, hf, ?_⟩
    cases r with
    | inr x => cases e; exact p
    | inl as =>
      intro vs H1 c1 a1 k
      simp only at e
      split at e
      · rename_i hnd
        cases hF : F (argEnv as ρ1) with
        | none => simp only [hF] at e; cases e
        | some r2 =>
          obtain ⟨r, ρc⟩ := r2
          simp only [hF] at e
          split at e
          · rename_i hl
            cases e
            have kr := argOk_refs k
            have eh : hid (pcOf P o as) (ocOf o as) = hid P o := hid_pc
            have cO : ∀ {H2 : Hp}, Chg (ocOf o as) H1 H2 → Chg o H1 H2 := fun c => ⟨fun b u z w => c.keep b u z fun q => w (own_oc q), c.dom, c.frz⟩
            refine ⟨by rw [List.append_nil, argOk_len k, hn' as ρ ρ1 hf], pcOf P o as, ocOf o as, argEnv as ρ1, _, by rw [List.append_nil]; exact a1.enter hnd k, hF, ?_⟩
            rw [List.append_nil]
            have ret : ∀ {H2 : Hp}, Chg (ocOf o as) H1 H2 → At K (pcOf P o as) (ocOf o as) ρc (vs.map some) H2 → At K P o (putBack as ρc ρ1) σ H2 := fun c a2 => a1.returned hnd hl a2 c eh (fun b z => .inl z) kr
            cases r with
            | ex n pl =>
              intro cls dx H2 c2 a2 x
              rw [eh] at x
              exact p cls dx H2 (c1.trans (cO c2)) (ret c2 a2) x
            | ok s =>
              intro v H2 c2 ok
              refine p v H2 (c1.trans (cO c2)) ?_
              have own : (∃ b, v = .ref b ∧ H1 b = none ∧ ¬ hid (pcOf P o as) (ocOf o as) b ∧ At K (plusA (pcOf P o as) b) (ocOf o as) ρc (vs.map some) H2 ∧ OwnOk K (hd (hid (plusA (pcOf P o as) b) (ocOf o as)) H2) H2 b s) →
                  ∃ b, v = .ref b ∧ H b = none ∧ ¬ hid P o b ∧ At K (plusA P b) o (putBack as ρc ρ1) σ H2 ∧ OwnOk K (hd (hid (plusA P b) o) H2) H2 b s := by
                rintro ⟨b, rfl, h2, h3, h4, h5⟩
                have eh2 : hid (plusA (pcOf P o as) b) (ocOf o as) = hid (plusA P b) o := hid_pc2 b
                rw [eh] at h3
                rw [eh2] at h5
                exact ⟨b, rfl, c1.back h2, h3, a1.returned hnd hl h4 c2 eh2 (fun z w => w.elim .inl fun w => .inr (by rw [w]; exact h2)) kr, h5⟩
              cases s with
              | dat d =>
                obtain ⟨h1, h2⟩ := ok
                rw [eh] at h2
                exact ⟨ret c2 h1, h2⟩
              | own xs => exact own ok
              | odk xs => exact own ok
              | odt xs => exact own ok
              | odl xs => exact own ok
          · cases e
      · cases e
end
/-- how many arguments -/
def AmLen (n : Nat) (fs : AM) : Prop := ∀ (as : List Arg) (ρ ρ1 : Env), fs ρ = some (.inl as, ρ1) → as.length = n
theorem am0 : AmLen 0 mA0 := fun as ρ ρ1 e => by cases e; rfl
theorem amc {n : Nat} {f : EM} {fs : AM} (h : AmLen n fs) : AmLen (n + 1) (mAc f fs) := fun as ρ ρ1 e => by
  unfold mAc at e
  cases hf : f ρ with
  | none => rw [hf] at e; cases e
  | some r1 =>
    obtain ⟨r, ρ2⟩ := r1
    rw [hf] at e
    cases r with
    | ex n pl => cases e
    | ok s =>
      simp only at e
      cases hs : s.toD with
      | none => simp only [hs] at e; cases e
      | some d =>
        simp only [hs] at e
        rcases consA_inl e with ⟨as', ρ3, h2, h3⟩ | ⟨y, ρ3, h2, h3⟩
        · cases h3
          simp [h as' ρ2 ρ1 h2]
        · cases h3
theorem amr {n i : Nat} {fs : AM} (h : AmLen n fs) : AmLen (n + 1) (mAr i fs) := fun as ρ ρ1 e => by
  unfold mAr at e
  split at e
  · split at e
    · rcases consA_inl e with ⟨as', ρ3, h2, h3⟩ | ⟨y, ρ3, h2, h3⟩
      · cases h3
        simp [h as' ρ ρ1 h2]
      · cases h3
    · cases e
  · cases e
section
variable {X : Cx} {E : XK} {k : Nat} {x : Str} {ps : List Str} {F : EM} {e : Expr} {es : List Expr} {fs : AM} {p pos : Pos}
theorem pd_call (G : FnD X.prog X.w X.K X.mg X.base x k ps F) (hr : Room k X.A) (hg : Gl X x) (hx : Passes (L2.CX X.prog X.w) X E) (ha : PDA X E (e :: es) fs) (hn : AmLen ps.length fs)
    (hdb : (x == ("__debug__" : Str)) = false := by decide) (he : starEach (e :: es) X.env = (false, eval e X.env) :: starEach es X.env := by rfl) (hpl : (backTo pos (starEach es X.env)).any (·.1) = false := by rfl) :
    PD X E (.Call (.Name x p) (e :: es) [] pos) (callM F fs) := by
  obtain ⟨f, fd, hm, hk, hb, ok⟩ := G.ex
  exact PE.imp (pe_call ok hr hg hm hk hb .nil hx ha hdb he hpl) fun σ H Q h => call_imp (n := ps.length) (fun vs H Q E hl q => hl q.1) hn h
theorem pd_call0 (G : FnD X.prog X.w X.K X.mg X.base x k [] F) (hr : Room k X.A) (hg : Gl X x) (hx : Passes (L2.CX X.prog X.w) X E)
    (hdb : (x == ("__debug__" : Str)) = false := by decide) : PD X E (.Call (.Name x p) [] [] pos) (callM F mA0) := by
  obtain ⟨f, fd, hm, hk, hb, ok⟩ := G.ex
  refine PE.imp (pe_call0 ok hr hg hm hk hb .nil hx hdb) fun σ H Q h => ?_
  obtain ⟨P, o, ρ, res, a, e, p⟩ := call_imp (n := 0) (fun vs H Q E hl q => hl q.1) am0 h
  cases e
  exact p [] H .refl a .nil
end
end DL

namespace DL
open PySem PySem.Spec L2
variable [TheW]

/-! ### values of one kind -/
theorem dp_int {K : PySem.W.Frag} {H : Hp} {v : V} {i : Int} (h : Dp K H v (.int i)) : v = .int i := by cases h; rfl
theorem dp_str {K : PySem.W.Frag} {H : Hp} {v : V} {i : Str} (h : Dp K H v (.str i)) : v = .str i := by cases h; rfl
theorem dp_bl {K : PySem.W.Frag} {H : Hp} {v : V} {i : Bool} (h : Dp K H v (.bool i)) : v = .bl i := by cases h; rfl
theorem dp_tup {K : PySem.W.Frag} {H : Hp} {v : V} {xs : List D} (h : Dp K H v (.tuple xs)) : ∃ a vs, v = .ref a ∧ SqT K H a vs ∧ DpAll K H vs xs := by cases h; exact ⟨_, _, rfl, by assumption, by assumption⟩
theorem dp_lst {K : PySem.W.Frag} {H : Hp} {v : V} {xs : List D} (h : Dp K H v (.list xs)) : ∃ a vs, v = .ref a ∧ SqL K H a vs ∧ DpAll K H vs xs := by cases h; exact ⟨_, _, rfl, by assumption, by assumption⟩
theorem new_tup {K : PySem.W.Frag} {P : Addr → Prop} {H : Hp} {p : Addr} {vs : List V} {ds : List D} (hP : ∀ a, P a → ∃ u, H a = some u) (hp : H p = none) (h : DpAll K (hd P H) vs ds) : Dp K (hd P (upd H p (.tup vs))) (.ref p) (.tuple ds) := vok_tup hP hp h
theorem new_lst {K : PySem.W.Frag} {P : Addr → Prop} {H : Hp} {p : Addr} {vs : List V} {ds : List D} (hP : ∀ a, P a → ∃ u, H a = some u) (hp : H p = none) (h : DpAll K (hd P H) vs ds) : Dp K (hd P (upd H p (.lst vs))) (.ref p) (.list ds) := vok_lst hP hp h

/-! ### + -/
def rCatLs (K : PySem.W.Frag) : R2 := fun x y H Q => ∃ l b xs zs, x = .ref l ∧ y = .ref b ∧ SqL K H l xs ∧ SqL K H b zs ∧ xs.length + zs.length ≤ sizeLine ∧ ∀ p, H p = none → Q (.ref p) (upd H p (.lst (xs ++ zs)))
theorem op_catLs {X : Cx} : OpR X (binaryOp .Add) (rCatLs X.K) := by
  intro pins s σ H x y v u Q I rx ry h
  obtain ⟨l, b, xs, zs, rfl, rfl, hH, hB, hz, q⟩ := h
  cases rx
  cases ry
  obtain ⟨its, r, pl, hl⟩ := I.list hH
  obtain ⟨its2, r2, pl2, hl2⟩ := I.list hB
  obtain ⟨⟨cls, dd, data, sl⟩, n, ho, hc, hdn, hdt⟩ := pl
  obtain ⟨⟨cls2, dd2, data2, sl2⟩, n2, ho2, hc2, hdn2, hdt2⟩ := pl2
  simp only at hc hdn hdt hc2 hdn2 hdt2
  subst hc hdn hdt hc2 hdn2 hdt2
  have e1 := r.length
  have e2 := r2.length
  refine PySem.concat_meets ⟨_, ho, rfl⟩ ⟨_, ho2, rfl⟩ PySem.noFill_list_add PySem.seq_list_add PySem.F.slot_list_add PySem.F.entry_list_add (PySem.F.args_list_add_2 _ _)
    (PyProof.Rows.list_addW l b its.toArray its2.toArray n n2 none none sl sl2 (by rw [List.size_toArray, List.size_toArray]; omega)) ⟨ho, ho2, ?_⟩
  have ea : its.toArray ++ its2.toArray = (its ++ its2).toArray := by simp
  rw [ea]
  exact ⟨.ref _, _, I.lnew (t' := s.toks) (r.append r2) (by rw [List.length_append]; omega), rfl, q _ I.fresh⟩
def rAdd4 (K : PySem.W.Frag) : R2 := fun x y H Q => (rI0 (fun i j => .int (i + j)) x y H Q ∨ (∃ i j, x = .str i ∧ y = .str j ∧ i.length + j.length ≤ sizeLine ∧ Q (.str (i ++ j)) H)) ∨ (rCatA K x y H Q ∨ rCatLs K x y H Q)
theorem op_add4 {X : Cx} : OpR X (binaryOp .Add) (rAdd4 X.K) := (OpR.or op_add op_add_str).or (OpR.or op_catA op_catLs)
def gAdd : D → D → Option D
  | .int i, .int j => some (.int (i + j))
  | .str x, .str y => if x.length + y.length ≤ big then some (.str (x ++ y)) else none
  | .tuple xs, .tuple ys => if xs.length + ys.length ≤ big then some (.tuple (xs ++ ys)) else none
  | .list xs, .list ys => if xs.length + ys.length ≤ big then some (.list (xs ++ ys)) else none
  | _, _ => none
theorem add_ok {K : PySem.W.Frag} : OpD K (rAdd4 K) gAdd := by
  intro P H x y d e z hP hx hy hz Q q
  unfold gAdd at hz
  split at hz
  · cases hz
    cases dp_int hx
    cases dp_int hy
    exact .inl (.inl ⟨_, _, rfl, rfl, q _ H (.refl _) (.int _)⟩)
  · split at hz
    · rename_i hl
      cases hz
      cases dp_str hx
      cases dp_str hy
      exact .inl (.inr ⟨_, _, rfl, rfl, big_line hl, q _ H (.refl _) (.str _)⟩)
    · cases hz
  · split at hz
    · rename_i hl
      cases hz
      obtain ⟨a, vs, rfl, h1, h2⟩ := dp_tup hx
      obtain ⟨b, ws, rfl, h3, h4⟩ := dp_tup hy
      have l1 := dps_len h2
      have l2 := dps_len h4
      refine .inr (.inl ⟨a, b, vs, ws, rfl, rfl, ex_t ex_hd h1, ex_t ex_hd h3, by rw [l1, l2]; exact big_line hl, fun e => ?_, fun _ e => ?_, fun _ _ p hp => ?_⟩)
      · subst e
        cases h2
        exact q _ H (.refl _) hy
      · subst e
        cases h4
        rw [List.append_nil] at q
        exact q _ H (.refl _) hx
      · exact q _ _ (.new hp) (new_tup hP hp (dps_append h2 h4))
    · cases hz
  · split at hz
    · rename_i hl
      cases hz
      obtain ⟨a, vs, rfl, h1, h2⟩ := dp_lst hx
      obtain ⟨b, ws, rfl, h3, h4⟩ := dp_lst hy
      have l1 := dps_len h2
      have l2 := dps_len h4
      exact .inr (.inr ⟨a, b, vs, ws, rfl, rfl, ex_l ex_hd h1, ex_l ex_hd h3, by rw [l1, l2]; exact big_line hl, fun p hp => q _ _ (.new hp) (new_lst hP hp (dps_append h2 h4))⟩)
    · cases hz
  · cases hz

/-! ### other operations on ints -/
def gI (C : Int → Int → Prop) [∀ i j, Decidable (C i j)] (f : Int → Int → Int) : D → D → Option D
  | .int i, .int j => if C i j then some (.int (f i j)) else none
  | _, _ => none
theorem gI_ok {K : PySem.W.Frag} {C C' : Int → Int → Prop} [∀ i j, Decidable (C' i j)] {f : Int → Int → Int} (h : ∀ i j, C' i j → C i j) : OpD K (rI C fun i j => .int (f i j)) (gI C' f) := by
  intro P H x y d e z hP hx hy hz Q q
  unfold gI at hz
  split at hz
  · split at hz
    · rename_i hc
      cases hz
      cases dp_int hx
      cases dp_int hy
      exact ⟨_, _, rfl, rfl, h _ _ hc, q _ H (.refl _) (.int _)⟩
    · cases hz
  · cases hz
def gI0 (f : Int → Int → Int) : D → D → Option D
  | .int i, .int j => some (.int (f i j))
  | _, _ => none
theorem gI0_ok {K : PySem.W.Frag} {f : Int → Int → Int} : OpD K (rI0 fun i j => .int (f i j)) (gI0 f) := by
  intro P H x y d e z hP hx hy hz Q q
  unfold gI0 at hz
  split at hz
  · cases hz
    cases dp_int hx
    cases dp_int hy
    exact ⟨_, _, rfl, rfl, q _ H (.refl _) (.int _)⟩
  · cases hz
abbrev gSub : D → D → Option D := gI0 fun i j => i - j
/-- the left or the right factor below 2^64 -/
abbrev CMul' (i j : Int) : Prop := (-18446744073709551616 < i ∧ i < 18446744073709551616) ∨ (-18446744073709551616 < j ∧ j < 18446744073709551616)
abbrev gMul : D → D → Option D := gI CMul' fun i j => i * j
theorem cmul_ok : ∀ i j, CMul' i j → CMul i j := fun i j h => by
  unfold CMul
  have e : (2 : Int) ^ 64 = 18446744073709551616 := by decide
  rw [e]
  exact h
abbrev gFdiv : D → D → Option D := gI (fun _ j => j ≠ 0 ∧ j.natAbs < 1073741824) fun i j => i.fdiv j
abbrev gMod : D → D → Option D := gI (fun _ j => j ≠ 0) fun i j => i.fmod j
abbrev gPow : D → D → Option D := gI (fun i j => 0 ≤ j ∧ j ≤ 1000000 ∧ i.natAbs < 18446744073709551616) fun i j => i ^ j.toNat
theorem cpow_ok : ∀ i j : Int, (0 ≤ j ∧ j ≤ 1000000 ∧ i.natAbs < 18446744073709551616) → CPow i j := fun i j h => by
  unfold CPow
  have e : (2 : Nat) ^ 64 = 18446744073709551616 := by decide
  rw [e]
  exact h
theorem sub_ok {K : PySem.W.Frag} : OpD K (rI0 fun i j => .int (i - j)) gSub := gI0_ok
theorem mul_ok {K : PySem.W.Frag} : OpD K (rI CMul fun i j => .int (i * j)) gMul := gI_ok cmul_ok
theorem fdiv_ok {K : PySem.W.Frag} : OpD K (rI CDivN fun i j => .int (i.fdiv j)) gFdiv := gI_ok fun _ _ h => h
theorem mod_ok {K : PySem.W.Frag} : OpD K (rI (fun _ j => j ≠ 0) fun i j => .int (i.fmod j)) gMod := gI_ok fun _ _ h => h
theorem pow_ok {K : PySem.W.Frag} : OpD K (rI CPow fun i j => .int (i ^ j.toNat)) gPow := gI_ok cpow_ok
/-! ### order of ints -/
def gB (f : Int → Int → Bool) : D → D → Option D
  | .int i, .int j => some (.bool (f i j))
  | _, _ => none
theorem gB_ok {K : PySem.W.Frag} {f : Int → Int → Bool} : OpD K (rI0 fun i j => .bl (f i j)) (gB f) := by
  intro P H x y d e z hP hx hy hz Q q
  unfold gB at hz
  split at hz
  · cases hz
    cases dp_int hx
    cases dp_int hy
    exact ⟨_, _, rfl, rfl, q _ H (.refl _) (.bl _)⟩
  · cases hz
abbrev gLe : D → D → Option D := gB fun i j => decide (i ≤ j)
abbrev gGt : D → D → Option D := gB fun i j => decide (j < i)
abbrev gGe : D → D → Option D := gB fun i j => decide (j ≤ i)
abbrev gLtI : D → D → Option D := gB fun i j => decide (i < j)
/-! ### ==, in -/
/-- data whose == is known at once -/
def eqOk : D → D → Bool
  | .none, .none | .bool _, .bool _ | .int _, .int _ | .str _, .str _ => true
  | d, e => SeqAt.shaped d && SeqAt.shaped e
def gEq (d e : D) : Option D := if eqOk d e = true then some (.bool (PyData.eqv d e)) else none
def gNe (d e : D) : Option D := if eqOk d e = true then some (.bool (!PyData.eqv d e)) else none
theorem shaped_none : SeqAt.shaped .none = true := by decide
theorem shaped_bool (b : Bool) : SeqAt.shaped (.bool b) = true := by cases b <;> decide
theorem shaped_int (i : Int) : SeqAt.shaped (.int i) = true := by simp [SeqAt.shaped, PyData.canLay0, PyData.depth]
def rEq2 (K : PySem.W.Frag) : R2 := fun x y H Q => rEq x y H Q ∨ rEqD K x y H Q
def rNe2 (K : PySem.W.Frag) : R2 := fun x y H Q => rNe x y H Q ∨ rNeD K x y H Q
theorem op_eq2 {X : Cx} (hu : X.A.units + 64 < cLine) : OpR X (compareOp .Eq) (rEq2 X.K) := OpR.or op_eq (op_eqD hu)
theorem op_ne2 {X : Cx} (hu : X.A.units + 64 < cLine) : OpR X (compareOp .NotEq) (rNe2 X.K) := OpR.or op_ne (op_neD hu)
theorem eqOk_cases {d e : D} (h : eqOk d e = true) : (∃ x y, d = .str x ∧ e = .str y) ∨ (SeqAt.shaped d = true ∧ SeqAt.shaped e = true) := by
  unfold eqOk at h
  split at h
  · exact .inr ⟨shaped_none, shaped_none⟩
  · exact .inr ⟨shaped_bool _, shaped_bool _⟩
  · exact .inr ⟨shaped_int _, shaped_int _⟩
  · exact .inl ⟨_, _, rfl, rfl⟩
  · exact .inr (Bool.and_eq_true_iff.mp h)
theorem eq_ok {K : PySem.W.Frag} : OpD K (rEq2 K) gEq := by
  intro P H x y d e z hP hx hy hz Q q
  unfold gEq at hz
  split at hz
  · rename_i hk
    cases hz
    rcases eqOk_cases hk with ⟨a, b, rfl, rfl⟩ | ⟨h1, h2⟩
    · cases dp_str hx
      cases dp_str hy
      refine .inl ⟨rfl, ?_⟩
      have := q (.bl (PyData.eqv (.str a) (.str b))) H (.refl _) (.bl _)
      rw [dec_str]
      exact this
    · exact .inr ⟨d, e, dp_mono ex_hd hx, dp_mono ex_hd hy, h1, h2, q _ H (.refl _) (.bl _)⟩
  · cases hz
theorem ne_ok {K : PySem.W.Frag} : OpD K (rNe2 K) gNe := by
  intro P H x y d e z hP hx hy hz Q q
  unfold gNe at hz
  split at hz
  · rename_i hk
    cases hz
    rcases eqOk_cases hk with ⟨a, b, rfl, rfl⟩ | ⟨h1, h2⟩
    · cases dp_str hx
      cases dp_str hy
      refine .inl ⟨rfl, ?_⟩
      have := q (.bl (!PyData.eqv (.str a) (.str b))) H (.refl _) (.bl _)
      rw [dec_str]
      exact this
    · exact .inr ⟨d, e, dp_mono ex_hd hx, dp_mono ex_hd hy, h1, h2, q _ H (.refl _) (.bl _)⟩
  · cases hz
/-- is None -/
def isNone : D → Bool
  | .none => true
  | _ => false
def gIsN : D → D → Option D
  | d, .none => some (.bool (isNone d))
  | _, _ => none
def gIsNotN : D → D → Option D
  | d, .none => some (.bool (!isNone d))
  | _, _ => none
theorem isN_dec {K : PySem.W.Frag} {H : Hp} {v : V} {d : D} (h : Dp K H v d) : decide (v = .non) = isNone d := by
  cases h <;> simp [isNone]
theorem isN_ok {K : PySem.W.Frag} : OpD K (fun x y H Q => y = .non ∧ Q (.bl (decide (x = .non))) H) gIsN := by
  intro P H x y d e z hP hx hy hz Q q
  unfold gIsN at hz
  split at hz
  · cases hz
    cases hy
    rw [isN_dec hx]
    exact ⟨rfl, q _ H (.refl _) (.bl _)⟩
  · cases hz
theorem isNotN_ok {K : PySem.W.Frag} : OpD K (fun x y H Q => y = .non ∧ Q (.bl (!decide (x = .non))) H) gIsNotN := by
  intro P H x y d e z hP hx hy hz Q q
  unfold gIsNotN at hz
  split at hz
  · cases hz
    cases hy
    rw [isN_dec hx]
    exact ⟨rfl, q _ H (.refl _) (.bl _)⟩
  · cases hz
/-- in a list, in a tuple -/
def flatD : D → Bool
  | .none | .bool _ | .int _ | .str _ => true
  | _ => false
def memD (d : D) (ds : List D) : Bool := ds.any fun z => PyData.eqv z d
def inOk (d : D) (ds : List D) : Bool := (flatD d && ds.all flatD) || (SeqAt.shaped d && SeqAt.shaped (.list ds))
def gIn (neg : Bool) (d e : D) : Option D := match seqOf e with
  | some ds => if inOk d ds = true then some (.bool (if neg = true then !memD d ds else memD d ds)) else none
  | none => none
def rIn2 (K : PySem.W.Frag) (neg : Bool) : R2 := fun x y H Q => rIn K neg x y H Q ∨ ∃ d ds, Dp K H x d ∧ (Dp K H y (.list ds) ∨ Dp K H y (.tuple ds)) ∧ SeqAt.shaped d = true ∧ SeqAt.shaped (.list ds) = true ∧ Q (.bl (if neg = true then !memD d ds else memD d ds)) H
theorem op_in2 {X : Cx} (hu : X.A.units + 65 < cLine) : OpR X (compareOp .In) (rIn2 X.K false) := by
  refine OpR.or op_in_seq ?_
  intro pins s σ H x y v u Q I rx ry h
  obtain ⟨d, ds, hd, he, sd, se, q⟩ := h
  obtain ⟨as, r1⟩ := Dp.reads I d x v hd rx
  rcases he with he | he
  · obtain ⟨bs, r2⟩ := Dp.reads I (.list ds) y u he ry
    exact SeqAt.in_list_reads r2 r1 (SeqAt.canLay_of_shaped se) (SeqAt.canLay_of_shaped sd) (PyProof.Rows.room_in_shaped sd hu) ⟨.bl _, H, I, rfl, q⟩
  · obtain ⟨bs, r2⟩ := Dp.reads I (.tuple ds) y u he ry
    exact SeqAt.in_tuple_reads r2 r1 (SeqAt.canLay_of_shaped se) (SeqAt.canLay_of_shaped sd) (PyProof.Rows.room_in_shaped sd hu) ⟨.bl _, H, I, rfl, q⟩
theorem op_notIn2 {X : Cx} (hu : X.A.units + 65 < cLine) : OpR X (compareOp .NotIn) (rIn2 X.K true) := by
  refine OpR.or op_notIn_seq ?_
  intro pins s σ H x y v u Q I rx ry h
  obtain ⟨d, ds, hd, he, sd, se, q⟩ := h
  obtain ⟨as, r1⟩ := Dp.reads I d x v hd rx
  rcases he with he | he
  · obtain ⟨bs, r2⟩ := Dp.reads I (.list ds) y u he ry
    exact SeqAt.notIn_list_reads r2 r1 (SeqAt.canLay_of_shaped se) (SeqAt.canLay_of_shaped sd) (PyProof.Rows.room_in_shaped sd hu) ⟨.bl _, H, I, rfl, q⟩
  · obtain ⟨bs, r2⟩ := Dp.reads I (.tuple ds) y u he ry
    exact SeqAt.notIn_tuple_reads r2 r1 (SeqAt.canLay_of_shaped se) (SeqAt.canLay_of_shaped sd) (PyProof.Rows.room_in_shaped sd hu) ⟨.bl _, H, I, rfl, q⟩
theorem flat_dp {K : PySem.W.Frag} {H : Hp} {v : V} {d : D} (h : Dp K H v d) (f : flatD d = true) : flatV v = true := by
  cases h <;> first | rfl | cases f
theorem flat_dps {K : PySem.W.Frag} {H : Hp} : ∀ {vs : List V} {ds : List D}, DpAll K H vs ds → ds.all flatD = true → vs.all flatV = true
  | _, _, .nil, _ => rfl
  | _, _, .cons h hs, f => by
    simp only [List.all_cons, Bool.and_eq_true] at f ⊢
    exact ⟨flat_dp h f.1, flat_dps hs f.2⟩
theorem eqV_dp {K : PySem.W.Frag} {H : Hp} {v w : V} {d e : D} (h : Dp K H v d) (h' : Dp K H w e) (f : flatD d = true) (f' : flatD e = true) : eqV v w = PyData.eqv d e := by
  cases h with
  | lst _ _ => cases f
  | tup _ _ => cases f
  | non => cases h' <;> first | rfl | cases f'
  | bl b => cases h' <;> first | rfl | cases f'
  | int i => cases h' <;> first | rfl | cases f'
  | str x => cases h' <;> first | rfl | cases f'
theorem inV_dp {K : PySem.W.Frag} {H : Hp} {v : V} {d : D} (h : Dp K H v d) (f : flatD d = true) : ∀ {vs : List V} {ds : List D}, DpAll K H vs ds → ds.all flatD = true → inV v vs = memD d ds
  | _, _, .nil, _ => rfl
  | _, _, .cons h' hs, f' => by
    simp only [List.all_cons, Bool.and_eq_true] at f'
    have := inV_dp h f hs f'.2
    unfold inV memD at this ⊢
    rw [List.any_cons, List.any_cons, this, eqV_dp h' h f'.1 f]
theorem in_ok {K : PySem.W.Frag} (neg : Bool) : OpD K (rIn2 K neg) (gIn neg) := by
  intro P H x y d e z hP hx hy hz Q q
  unfold gIn at hz
  cases hs : seqOf e with
  | none => simp only [hs] at hz; cases hz
  | some ds =>
    simp only [hs] at hz
    split at hz
    · rename_i hk
      cases hz
      have hx' := dp_mono ex_hd hx
      have hy' := dp_mono ex_hd hy
      have hdl : (Dp K H y (.list ds) ∨ Dp K H y (.tuple ds)) := by
        cases e <;> first | (cases hs; exact .inl hy') | (cases hs; exact .inr hy') | cases hs
      unfold inOk at hk
      rw [Bool.or_eq_true] at hk
      rcases hk with hk | hk
      · rw [Bool.and_eq_true] at hk
        refine .inl ?_
        rcases hdl with k | k
        · obtain ⟨a, vs, rfl, h1, h2⟩ := dp_lst k
          refine ⟨a, vs, rfl, .inl h1, flat_dp hx' hk.1, flat_dps h2 hk.2, ?_⟩
          rw [inV_dp hx' hk.1 h2 hk.2]
          exact q _ H (.refl _) (.bl _)
        · obtain ⟨a, vs, rfl, h1, h2⟩ := dp_tup k
          refine ⟨a, vs, rfl, .inr h1, flat_dp hx' hk.1, flat_dps h2 hk.2, ?_⟩
          rw [inV_dp hx' hk.1 h2 hk.2]
          exact q _ H (.refl _) (.bl _)
      · rw [Bool.and_eq_true] at hk
        exact .inr ⟨d, ds, hx', hdl, hk.1, hk.2, q _ H (.refl _) (.bl _)⟩
    · cases hz
/-! ### items, slices -/
def gIx : D → D → Option D
  | .list xs, .int i => atI xs i
  | .tuple xs, .int i => atI xs i
  | _, _ => none
def rIx2 (K : PySem.W.Frag) : R2 := fun x y H Q => rIxL K x y H Q ∨ rIxT K x y H Q
theorem ix2 {X : Cx} : IxR X (rIx2 X.K) := ix_list.or ix_tup
theorem atI_dps {K : PySem.W.Frag} {H : Hp} {vs : List V} {ds : List D} {i : Int} {d : D} (h : DpAll K H vs ds) (e : atI ds i = some d) : ∃ v, atI vs i = some v ∧ Dp K H v d := by
  unfold atI at e ⊢
  rw [dps_len h]
  cases hx : ixN ds.length i with
  | none => rw [hx] at e; cases e
  | some j =>
    rw [hx] at e
    exact dps_get' h e
theorem ix_ok {K : PySem.W.Frag} : OpD K (rIx2 K) gIx := by
  intro P H x y d e z hP hx hy hz Q q
  unfold gIx at hz
  split at hz
  · obtain ⟨a, vs, rfl, h1, h2⟩ := dp_lst hx
    cases dp_int hy
    obtain ⟨v, k1, k2⟩ := atI_dps h2 hz
    exact .inl ⟨a, vs, _, v, rfl, rfl, ex_l ex_hd h1, k1, q _ H (.refl _) k2⟩
  · obtain ⟨a, vs, rfl, h1, h2⟩ := dp_tup hx
    cases dp_int hy
    obtain ⟨v, k1, k2⟩ := atI_dps h2 hz
    exact .inr ⟨a, vs, _, v, rfl, rfl, ex_t ex_hd h1, k1, q _ H (.refl _) k2⟩
  · cases hz
def cutD (xs : List D) (lo hi : Option Int) : List D := (xs.drop (HT.sIx xs.length 0 lo)).take (HT.sIx xs.length xs.length hi - HT.sIx xs.length 0 lo)
def gSl : D → Option Int → Option Int → Option D
  | .list xs, lo, hi => some (.list (cutD xs lo hi))
  | .tuple xs, lo, hi => some (.tuple (cutD xs lo hi))
  | _, _, _ => none
def rSl2 (K : PySem.W.Frag) : V → Option Int → Option Int → Hp → VK → Prop := fun x lo hi H Q => rSlL K x lo hi H Q ∨ rSlA K x lo hi H Q
theorem sl2 {X : Cx} : SlR X (rSl2 X.K) := SlR.or sl_list sl_tupA
theorem cut_dps {K : PySem.W.Frag} {H : Hp} {vs : List V} {ds : List D} {lo hi : Option Int} (h : DpAll K H vs ds) : DpAll K H (cutV vs lo hi) (cutD ds lo hi) := by
  unfold cutV cutD
  rw [dps_len h]
  exact dps_take _ (dps_drop _ h)
theorem sl_ok {K : PySem.W.Frag} : SlD K (rSl2 K) gSl := by
  intro P H x d z lo hi hP hx hz Q q
  unfold gSl at hz
  split at hz
  · cases hz
    obtain ⟨a, vs, rfl, h1, h2⟩ := dp_lst hx
    exact .inl ⟨a, vs, rfl, ex_l ex_hd h1, fun p hp => q _ _ (.new hp) (new_lst hP hp (cut_dps h2))⟩
  · rename_i xs
    cases hz
    obtain ⟨a, vs, rfl, h1, h2⟩ := dp_tup hx
    refine .inr ⟨a, vs, rfl, ex_t ex_hd h1, fun e => ?_, fun _ p hp => q _ _ (.new hp) (new_tup hP hp (cut_dps h2))⟩
    have hl := dps_len h2
    rw [hl] at e
    have : cutD xs lo hi = xs := by
      unfold cutD
      rw [e.1, e.2]
      simp
    rw [this] at q
    exact q _ H (.refl _) hx
  · cases hz
end DL

namespace DLs
open PySem PySem.Calls PyProof.Rows PySem.W
section
variable {prog : Program} {w : World} {A : Around} {E : Value → Shared → Prop} {s : Shared}
theorem collect_tup {l : Addr} {vs : List Value} {Q : List Value → Shared → Prop} (hl : s.heap.IsTuple l vs.toArray)
    (h : Q vs { s with heap := (s.heap.push (seqObj "list" #[] 0)).update s.heap.objs.size (Obj.mapSeq (· ++ vs.toArray)) }) (hsz : vs.length ≤ sizeLine) :
    wpAny (model prog w) A (collect (.ref l)) Q E s := by
  obtain ⟨o, ho, hc, n, hd⟩ := id hl
  unfold collect
  refine wpAny_bind (wpAny_runValue (codeAny_builtin entry_proto_collect' ?_))
  show wpAny _ _ (do again (.builtin "list.__iadd__" ⟨[← newList [], .ref l], []⟩)) _ _ s
  refine wpAny_bind (wpAny_newList (wpAny_pure ⟨Code.quiet_builtin _ (by decide +kernel), codeAny_builtin entry_list_iadd' ?_⟩))
  show wpAny _ _ (Builtin.List.listExtendWith (.ref s.heap.objs.size) (.ref l) (.ref s.heap.objs.size)) _ _ { s with heap := s.heap.push (seqObj "list" #[] 0) }
  unfold Builtin.List.listExtendWith
  have ho' : (s.heap.push (seqObj "list" #[] 0)).get? l = some o := Heap.get?_push_of_some _ ho
  refine wpAny_bind (wpAny_typeOf (T := "tuple") ⟨o, ho', hc⟩ ?_)
  have ht : (Value.type "tuple" == Value.type "tuple") = true := by rfl
  rw [if_pos (by rw [ht]; simp)]
  refine wpAny_bind (listItems_at ho' hd ?_)
  refine wpAny_bind (listItems_at (xs := #[]) (n := 0) (Heap.get?_push_size _ rfl) rfl ?_)
  rw [if_neg (by simp)]
  refine wpAny_bind (listUpdate_at (xs := #[]) (n := 0) (Heap.get?_push_size _ rfl) rfl ?_ (Nat.zero_le _) (by show (#[] ++ vs.toArray).size ≤ sizeLine + 1; simp only [Array.size_append, List.size_toArray, List.length_nil]; omega))
  refine wpAny_pure ?_
  show wpAny (model prog w) A (do
      let o ← load s.heap.objs.size
      match o.data with
      | .seq xs _ => pure xs.toList
      | _ => unsupported "internal:collect") Q E { s with heap := (s.heap.push (seqObj "list" #[] 0)).update s.heap.objs.size (Obj.mapSeq (· ++ vs.toArray)) }
  refine wpAny_bind (wpAny_load (get?_update_seq (Heap.get?_push_size _ rfl) _) ?_)
  show wpAny _ _ (pure ((#[] : Array Value) ++ vs.toArray).toList) Q E _
  rw [show ((#[] : Array Value) ++ vs.toArray).toList = vs by simp]
  exact wpAny_pure h
theorem sorted_of_sortT {l : Addr} {vs : List Value} {kw : List (Str × Value)} {Q : Value → Shared → Prop} (hl : s.heap.IsTuple l vs.toArray) (hL : vs.length ≤ sizeLine) (ha1 : argsOk "sorted" ⟨[.ref l], kw⟩) (ha2 : ∀ x, argsOk "list.sort" ⟨[.ref x], kw⟩)
    (body : ∀ E' : Value → Shared → Prop, wpAny (model prog w) A.in1.in1 (Builtin.«list.sort» ⟨[.ref (s.heap.objs.size + 1)], kw⟩) (fun f s' => f = .done (.ret .none) ∧ Q (.ref (s.heap.objs.size + 1)) s') E' { s with heap := copyHeap s.heap vs }) :
    wpAny (model prog w) A (call (.builtin "sorted") [.ref l] kw) Q E s := by
  refine call_function_entry_kw kind_sorted plain_sorted entry_sorted ha1 ?_
  unfold Builtin.«sorted»
  refine wpAny_bind (m := checkCount "sorted" 1 1 _) (wpAny_pure ?_)
  refine wpAny_bind (collect_tup hl ?_ hL)
  refine wpAny_bind (wpAny_newList ?_ hL)
  have hsz : ((s.heap.push (seqObj "list" #[] 0)).update s.heap.objs.size (Obj.mapSeq (· ++ vs.toArray))).objs.size = s.heap.objs.size + 1 := by
    rw [Heap.size_update, size_push']
  show wpAny _ _ _ _ _ { s with heap := copyHeap s.heap vs }
  rw [hsz]
  refine wpAny_bind (wpAny_holding (wpAny_call_entry_kw slot_list_sort ⟨_, copyHeap_at s.heap vs, rfl⟩ entry_list_sort ?body (ha2 _)))
  case body =>
    show wpAny (model prog w) A.in1.in1 (Builtin.«list.sort» ⟨[.ref (s.heap.objs.size + 1)], kw⟩) _ _ _
    refine wpAny_mono (body _) (fun f s' hf => ?_) fun _ _ e => e
    obtain ⟨rfl, hq⟩ := hf
    exact ⟨_, rfl, wpAny_pure ⟨_, rfl, hq⟩⟩
variable {β : Type} {vs : List Value} {bs : List β} {enc : β → PyData} {R : Value → β → Prop}
theorem sorted_dataT {l : Addr} {Q : Value → Shared → Prop} (hl : s.heap.IsTuple l vs.toArray) (e : EachIs R vs bs) (er : EachIs (fun v b => ∃ as, Reads s.heap v (enc b) as) vs bs) (hal : AllAlike (bs.map enc)) (hk : Sortable (bs.map enc)) (hL : bs.length ≤ sizeLine)
    (hu : ∀ b, b ∈ bs → A.units + 2 + (enc b).depth < cLine) (h : ∀ out, out.length = bs.length → EachIs R out (bs.mergeSort (dataLe false enc)) → Q (.ref (s.heap.objs.size + 1)) { s with heap := sortedAll s.heap vs (List.toArray out) }) :
    wpAny (model prog w) A (call (.builtin "sorted") [.ref l]) Q E s := by
  have er' : EachIs (fun v b => ∃ as, Reads (sortingHeap (copyHeap s.heap vs) (s.heap.objs.size + 1) vs) v (enc b) as) vs bs := er.mono fun _ _ ⟨as, r⟩ => ⟨as, PyProof.Rows.Reads.keeps (fun _ _ => sorting_copy_old) r⟩
  have S := SortsAt.data (prog := prog) (w := w) (A := A.in1.in1) (s := { s with heap := sortingHeap (copyHeap s.heap vs) (s.heap.objs.size + 1) vs }) (each_map (R := fun v d => ∃ as, Reads (sortingHeap (copyHeap s.heap vs) (s.heap.objs.size + 1) vs) v d as) enc er') hal hk (bound_map hu)
  have hL' : vs.length ≤ sizeLine := by rw [e.length]; exact hL
  exact sorted_of_sortT hl hL' (args_sorted1 _) (fun _ => args_list_sort _) fun _ => list_sort_vals (s := { s with heap := copyHeap s.heap vs }) (copyHeap_at s.heap vs) S hL'
    ⟨rfl, h _ (by rw [sortVals_length false rfl]; exact e.length) (sortVals_data false e er' hal)⟩
end
end DLs

namespace DL
open PySem PySem.Spec L2
variable [TheW]
/-! ### sorted -/
/-- the order of alike data, as a function to sort by -/
def leD (a b : D) : Bool := !PySem.W.dataLt b a
def allAlike (ds : List D) : Bool := ds.all fun d => ds.all fun d' => PySem.W.alike d d'
def headed : D → Bool
  | .tuple (_ :: _) => true
  | _ => false
def bare : D → Bool
  | .none => false
  | .tuple _ => false
  | _ => true
def sortable (ds : List D) : Bool := allAlike ds && (ds.all headed || ds.all bare) && ds.all (fun d => decide (d.depth ≤ 100)) && decide (ds.length ≤ big)
/-- sorted, so that the kernel can reckon it -/
def insL {α : Type} (le : α → α → Bool) (a : α) : List α → List α
  | [] => [a]
  | b :: bs => if le a b = true then a :: b :: bs else b :: insL le a bs
def isort {α : Type} (le : α → α → Bool) (l : List α) : List α := l.foldr (insL le) []
omit [TheW] in
theorem insL_at {α : Type} {le : α → α → Bool} {a : α} : ∀ {l₁ l₂ : List α}, (∀ b, b ∈ l₁ → le a b = false) → (∀ b, b ∈ l₂ → le a b = true) → insL le a (l₁ ++ l₂) = l₁ ++ a :: l₂
  | [], [], _, _ => rfl
  | [], b :: l₂, _, h => by simp [insL, h b (by simp)]
  | c :: l₁, l₂, h1, h2 => by
    have := h1 c (by simp)
    simp [insL, this, insL_at (l₁ := l₁) (l₂ := l₂) (fun b hb => h1 b (by simp [hb])) h2]
omit [TheW] in
theorem isort_eq {α : Type} {le : α → α → Bool} (tr : ∀ a b c : α, le a b = true → le b c = true → le a c = true) (to : ∀ a b : α, (le a b || le b a) = true) : ∀ l : List α, isort le l = l.mergeSort le
  | [] => by simp [isort]
  | a :: l => by
    obtain ⟨l₁, l₂, h1, h2, h3⟩ := List.mergeSort_cons tr to a l
    have ih := isort_eq tr to l
    have hs := List.pairwise_mergeSort tr to (a :: l)
    rw [h1] at hs
    have h4 : ∀ b ∈ l₂, le a b = true := fun b hb => by
      have := (List.pairwise_append.mp hs).2.1
      exact (List.pairwise_cons.mp this).1 b hb
    show insL le a (isort le l) = _
    rw [ih, h2, h1]
    exact insL_at (fun b hb => by simpa using h3 b hb) h4
omit [TheW] in
theorem leD_total : PySem.W.TotalLe leD := by
  have e : PySem.W.dataLe false (id : D → D) = leD := by
    rw [PySem.W.dataLe_eq]
    rfl
  rw [← e]
  exact PySem.W.sortLe_total _ _ _
def sortD (ds : List D) : List D := isort leD ds
omit [TheW] in
theorem sortD_eq (ds : List D) : sortD ds = ds.mergeSort leD := isort_eq (fun a b c => leD_total.trans a b c) (fun a b => by have := leD_total.total a b; simpa using this) ds
def gSorted : List D → Option S
  | [d] => match seqOf d with
    | some ds => if sortable ds = true then some (.dat (.list (sortD ds))) else none
    | none => none
  | _ => none
theorem dataLe_id : PySem.W.dataLe false (id : D → D) = leD := by
  rw [PySem.W.dataLe_eq]
  rfl
theorem allAlike_ok {ds : List D} (h : allAlike ds = true) : PySem.W.AllAlike (ds.map id) := by
  intro d hd d' hd'
  rw [List.map_id] at hd hd'
  have h1 := List.all_eq_true.mp h d hd
  exact List.all_eq_true.mp h1 d' hd'
theorem sortable_ok {ds : List D} (h : (ds.all headed || ds.all bare) = true) : PySem.W.Sortable (ds.map id) := by
  rw [List.map_id]
  rw [Bool.or_eq_true] at h
  rcases h with h | h
  · refine .inl fun d hd => ?_
    have := List.all_eq_true.mp h d hd
    unfold headed at this
    split at this
    · exact ⟨_, _, rfl⟩
    · cases this
  · refine .inr fun d hd => ?_
    have := List.all_eq_true.mp h d hd
    unfold bare at this
    split at this
    · cases this
    · cases this
    · rename_i h1 h2
      exact ⟨h1, h2⟩
/-- what a value of the list stands for -/
def RD (K : PySem.W.Frag) (G : Hp) (v : Value) (d : D) : Prop := ∃ x, RelV x v ∧ Dp K G x d
theorem each_RD {K : PySem.W.Frag} {G : Hp} : ∀ {xs : List V} {us : List Value} {ds : List D}, Vals xs us → DpAll K G xs ds → PySem.W.EachIs (RD K G) us ds
  | _, _, _, .nil, .nil => .nil
  | _, _, _, .cons r rs, .cons h hs => .cons ⟨_, r, h⟩ (each_RD rs hs)
theorem each_back {K : PySem.W.Frag} {G : Hp} : ∀ {us : List Value} {ds : List D}, PySem.W.EachIs (RD K G) us ds → ∃ xs, Vals xs us ∧ DpAll K G xs ds
  | _, _, .nil => ⟨[], .nil, .nil⟩
  | _, _, .cons ⟨x, r, h⟩ t => by
    obtain ⟨xs, h1, h2⟩ := each_back t
    exact ⟨x :: xs, .cons r h1, .cons h h2⟩
def rSortedD (K : PySem.W.Frag) : List V → Hp → VK → Prop := fun xs H Q => ∃ (P : Addr → Prop) (x : V) (ds : List D), xs = [x] ∧ (Dp K (hd P H) x (.list ds) ∨ Dp K (hd P H) x (.tuple ds)) ∧ sortable ds = true ∧
  ∀ p vs, H p = none → DpAll K (hd P H) vs (sortD ds) → Q (.ref p) (upd H p (.lst vs))
theorem cr_sortedD {X : Cx} (hu : X.A.units + 110 < cLine) : CallR X (.builtin "sorted") (rSortedD X.K) := by
  intro pins s σ H xs us Q I r h
  obtain ⟨P, x, ds, rfl, hx, hs, q⟩ := h
  unfold sortable at hs
  simp only [Bool.and_eq_true] at hs
  obtain ⟨⟨⟨h1, h2⟩, h3⟩, h4⟩ := hs
  have h4 : ds.length ≤ big := of_decide_eq_true h4
  obtain ⟨u, rfl, rx⟩ := vals1 r
  -- what is common to lists and tuples
  have fin : ∀ (vs : List Value) (out : List Value), out.length = ds.length → PySem.W.EachIs (RD X.K (hd P H)) out (ds.mergeSort (PySem.W.dataLe false id)) → EP X pins σ Q (.ref (s.heap.objs.size + 1)) { s with heap := PyProof.Rows.sortedAll s.heap vs out.toArray } := by
    intro vs out ho eo
    rw [dataLe_id, ← sortD_eq] at eo
    obtain ⟨ws, k1, k2⟩ := each_back eo
    obtain ⟨c, hc⟩ := PyProof.Rows.sortedAll_at s.heap vs out.toArray
    have hz : ws.length ≤ sizeLine := by rw [k1.length, ho]; exact big_line h4
    exact ⟨.ref (s.heap.objs.size + 1), _, I.laid (t' := s.toks) (a := s.heap.objs.size + 1) (o := .lst ws) (fun b o e => PyProof.Rows.sortedAll_old e) (Nat.le_succ _) ⟨hz, out, c, k1, hc⟩, rfl, q _ ws (I.hok.fresh (Nat.le_succ _)) k2⟩
  have hud : ∀ b, b ∈ ds → X.A.units + 2 + (id b : D).depth < cLine := fun b hb => by
    have := of_decide_eq_true (List.all_eq_true.mp h3 b hb)
    show X.A.units + 2 + b.depth < cLine
    omega
  have reads : ∀ {a : Addr} {xs : List V} {its : List Value}, Vals xs its → DpAll X.K (hd P H) xs ds → PySem.W.EachIs (fun v b => ∃ as, Reads s.heap v (id b) as) its ds := fun rv k => by
    obtain ⟨as, ra⟩ := Dp.readsAll I ds _ _ (dps_mono ex_hd k) rv
    exact PySem.W.readsAll_each id (by rw [List.map_id]; exact ra)
  rcases hx with hx | hx
  · obtain ⟨a, xs, rfl, k1, k2⟩ := dp_lst hx
    cases rx
    obtain ⟨its, rv, pl, hz⟩ := I.list (ex_l ex_hd k1)
    exact PySem.W.sorted_data (enc := id) (R := RD X.K (hd P H)) pl.isList (each_RD rv k2) (reads (a := a) rv k2) (allAlike_ok h1) (sortable_ok h2) (big_line h4) hud (fin its)
  · obtain ⟨a, xs, rfl, k1, k2⟩ := dp_tup hx
    cases rx
    obtain ⟨its, rv, pl, hz⟩ := I.tuple (ex_t ex_hd k1)
    exact DLs.sorted_dataT (enc := id) (R := RD X.K (hd P H)) (show s.heap.IsTuple a its.toArray from pl) (each_RD rv k2) (reads (a := a) rv k2) (allAlike_ok h1) (sortable_ok h2) (big_line h4) hud (fin its)
theorem sorted_ok {K : PySem.W.Frag} : CallD K (rSortedD K) gSorted := by
  intro P H vs ds z hP hx hz Q q
  unfold gSorted at hz
  split at hz
  · rename_i d
    cases hs : seqOf d with
    | none => simp only [hs] at hz; cases hz
    | some es =>
      simp only [hs] at hz
      split at hz
      · rename_i hk
        cases hz
        cases hx with
        | cons h1 h2 =>
          cases h2
          refine ⟨P, _, es, rfl, ?_, hk, fun p vs hp k => q _ _ (.new hp) (vok_lst hP hp k)⟩
          cases d <;> first | (cases hs; exact .inl h1) | (cases hs; exact .inr h1) | cases hs
      · cases hz
  · cases hz
end DL

namespace DL
open PySem PySem.Spec L2
variable [TheW]

/-! ### isinstance(x, T) -/
def tyName : D → String
  | .none => "NoneType"
  | .bool _ => "bool"
  | .int _ => "int"
  | .str _ => "str"
  | .list _ => "list"
  | .tuple _ => "tuple"
  | .dict _ => "dict"
def isiT (T : String) (d : D) : Bool := tyName d == T || (T == "int" && tyName d == "bool")
def gIsi (T : String) (d : D) : Option D := some (.bool (isiT T d))
theorem tyx_dp {K : PySem.W.Frag} {H : Hp} {v : V} {d : D} (h : Dp K H v d) : TyX K H v (.type (tyName d)) := by
  cases h with
  | non => exact .base .non
  | bl b => exact .base (.bl b)
  | int i => exact .base (.int i)
  | str x => exact .base (.str x)
  | lst h _ =>
    rcases h with (h | ⟨o, h⟩) | ⟨o, its, n, h, c, _⟩
    · exact .base (.lst h)
    · exact .base (.frz h)
    · exact .kList h c
  | tup h _ =>
    rcases h with (h | ⟨o, h⟩) | ⟨o, its, n, h, c, _⟩
    · exact .base (.tup h)
    · exact .fTuple h
    · exact .kTuple h c
def kitsOk (T : String) : Bool := ["NoneType", "bool", "int", "str", "list", "tuple"].all fun n => kitB n T == some (n == T || (T == "int" && n == "bool"))
theorem kits_int : kitsOk "int" = true := by decide +kernel
theorem kits_bool : kitsOk "bool" = true := by decide +kernel
theorem kits_str : kitsOk "str" = true := by decide +kernel
theorem kits_list : kitsOk "list" = true := by decide +kernel
theorem kits_tuple : kitsOk "tuple" = true := by decide +kernel
theorem kit_dp {K : PySem.W.Frag} {H : Hp} {v : V} {d : D} {T : String} (hk : kitsOk T = true) (h : Dp K H v d) : PySem.W.kitOne K (.type (tyName d)) (.type T) = some (isiT T d) := by
  refine kit_ty ?_
  have all := List.all_eq_true.mp hk
  have go : ∀ n, n ∈ ["NoneType", "bool", "int", "str", "list", "tuple"] → kitB n T = some (n == T || (T == "int" && n == "bool")) := fun n hn => by simpa using all n hn
  cases h <;> exact go _ (by simp [tyName])
section
variable {X : Cx} {E : XK} {e : Expr} {fe : EM}
theorem pd_isi {T : String} {Tn : Str} {p p2 pos : Pos} (hk : kitsOk T = true) (hg : Gl X "isinstance") (hm : X.mg "isinstance" = none) (hgT : Gl X Tn) (hmT : X.mg Tn = none) (hT : bootBuiltins Tn = some (.type T)) (he : PD X E e fe)
    (hnT : Tn ≠ "__name__" := by decide) (hdT : (Tn == ("__debug__" : Str)) = false := by decide)
    (hs : starEach (.Name Tn p2 :: []) X.env = (false, eval (.Name Tn p2) X.env) :: starEach [] X.env := by rfl)
    (hse : starEach [e, .Name Tn p2] X.env = (false, eval e X.env) :: starEach [.Name Tn p2] X.env := by rfl) (hpl : (backTo pos (starEach [.Name Tn p2] X.env)).any (·.1) = false := by rfl)
    (hb : bootBuiltins ("isinstance" : Str) = some (.builtin "isinstance") := by decide +kernel) :
    PD X E (.Call (.Name "isinstance" p) [e, .Name Tn p2] [] pos) (op1 (gIsi T) fe) := by
  refine PE.imp (pe_callB call_isi hg hm hb (pa_cons he (pa_cons (pe_bltn hgT hmT hT (v := .ty T) rfl hnT hdT) pa_nil hs) hse) (he := hse) (hpl := hpl)) fun σ H Q h => ?_
  obtain ⟨P, o, ρ, res, a, e', p⟩ := h
  refine tE_mono (fun x H1 h => ?_) (bindD_go a .refl e' p)
  obtain ⟨ρ1, d, c1, c2, a1, dx, e'⟩ := h
  obtain ⟨z, hz, rfl⟩ := optD_some e'
  cases hz
  exact ⟨x, .ty T, .type (tyName d), .type T, isiT T d, rfl, .ty T, tyx_dp (dp_mono ex_hd dx), kit_dp hk dx, p (.bl _) H1 c1 ⟨a1, .bl _⟩⟩
end
/-! ### built-ins of data -/
def gLen : List D → Option S
  | [.list xs] => some (.dat (.int xs.length))
  | [.tuple xs] => some (.dat (.int xs.length))
  | [.str x] => if x.length ≤ big then some (.dat (.int x.length)) else none
  | _ => none
def rLen2 (K : PySem.W.Frag) : List V → Hp → VK → Prop := fun xs H Q => (∃ p ys, xs = [.ref p] ∧ (SqL K H p ys ∨ SqT K H p ys) ∧ Q (.int ys.length) H) ∨ ∃ z, xs = [.str z] ∧ z.length ≤ sizeLine ∧ Q (.int z.length) H
theorem cr_len2 {X : Cx} : CallR X (.builtin "len") (rLen2 X.K) := CallR.or call_len_seq call_len_str
theorem len_ok {K : PySem.W.Frag} : CallD K (rLen2 K) gLen := by
  intro P H vs ds z hP hx hz Q q
  unfold gLen at hz
  split at hz
  · cases hz
    cases hx with
    | cons h1 h2 =>
      cases h2
      obtain ⟨a, ws, rfl, k1, k2⟩ := dp_lst h1
      refine .inl ⟨a, ws, rfl, .inl (ex_l ex_hd k1), ?_⟩
      rw [dps_len k2]
      exact q _ H (.refl _) (.int _)
  · cases hz
    cases hx with
    | cons h1 h2 =>
      cases h2
      obtain ⟨a, ws, rfl, k1, k2⟩ := dp_tup h1
      refine .inl ⟨a, ws, rfl, .inr (ex_t ex_hd k1), ?_⟩
      rw [dps_len k2]
      exact q _ H (.refl _) (.int _)
  · split at hz
    · rename_i hl
      cases hz
      cases hx with
      | cons h1 h2 =>
        cases h2
        cases dp_str h1
        exact .inr ⟨_, rfl, big_line hl, q _ H (.refl _) (.int _)⟩
    · cases hz
  · cases hz
def boolsOf : List D → Option (List Bool)
  | [] => some []
  | .bool b :: r => (boolsOf r).map (b :: ·)
  | _ :: _ => none
theorem bools_dps {K : PySem.W.Frag} {H : Hp} : ∀ {vs : List V} {ds : List D} {bs : List Bool}, DpAll K H vs ds → boolsOf ds = some bs → vs = bs.map V.bl
  | _, _, _, .nil, e => by cases e; rfl
  | _, _, _, .cons (ds := ds) h hs, e => by
    unfold boolsOf at e
    split at e
    · cases e
      rename_i hh
      cases hh
    · rename_i b r hh
      cases hh
      cases hb : boolsOf ds with
      | none => rw [hb] at e; cases e
      | some bs =>
        rw [hb] at e
        cases e
        rw [dp_bl h, bools_dps hs hb]
        rfl
    · cases e
def gAll : List D → Option S
  | [.list xs] => (boolsOf xs).map fun bs => .dat (.bool (bs.all id))
  | _ => none
def gAny : List D → Option S
  | [.list xs] => (boolsOf xs).map fun bs => .dat (.bool (bs.any id))
  | _ => none
theorem all_ok {K : PySem.W.Frag} : CallD K (rAll K) gAll := by
  intro P H vs ds z hP hx hz Q q
  unfold gAll at hz
  split at hz
  · rename_i xs
    cases hb : boolsOf xs with
    | none => rw [hb] at hz; cases hz
    | some bs =>
      rw [hb] at hz
      cases hz
      cases hx with
      | cons h1 h2 =>
        cases h2
        obtain ⟨a, ws, rfl, k1, k2⟩ := dp_lst h1
        have e := bools_dps k2 hb
        subst e
        exact ⟨a, bs, rfl, ex_l ex_hd k1, q _ H (.refl _) (.bl _)⟩
  · cases hz
theorem any_ok {K : PySem.W.Frag} : CallD K (rAny K) gAny := by
  intro P H vs ds z hP hx hz Q q
  unfold gAny at hz
  split at hz
  · rename_i xs
    cases hb : boolsOf xs with
    | none => rw [hb] at hz; cases hz
    | some bs =>
      rw [hb] at hz
      cases hz
      cases hx with
      | cons h1 h2 =>
        cases h2
        obtain ⟨a, ws, rfl, k1, k2⟩ := dp_lst h1
        have e := bools_dps k2 hb
        subst e
        exact ⟨a, bs, rfl, ex_l ex_hd k1, q _ H (.refl _) (.bl _)⟩
  · cases hz
/-- list(..), tuple(..) of a list, a tuple -/
def gList : List D → Option S
  | [d] => (seqOf d).map fun xs => .dat (.list xs)
  | _ => none
def gListO : List D → Option S
  | [d] => (seqOf d).map fun xs => .own xs
  | _ => none
def gTuple : List D → Option S
  | [d] => (seqOf d).map fun xs => .dat (.tuple xs)
  | _ => none
abbrev rListOf (K : PySem.W.Frag) : List V → Hp → VK → Prop := fun xs H Q => ∃ p ys, xs = [.ref p] ∧ (SqL K H p ys ∨ SqT K H p ys) ∧ ∀ l, H l = none → Q (.ref l) (upd H l (.lst ys))
abbrev rTupOf (K : PySem.W.Frag) : List V → Hp → VK → Prop := fun xs H Q => ∃ p ys, xs = [.ref p] ∧ ((SqL K H p ys ∧ ∀ l, H l = none → Q (.ref l) (upd H l (.tup ys))) ∨ (SqT K H p ys ∧ Q (.ref p) H))
theorem seq_dp {K : PySem.W.Frag} {H : Hp} {v : V} {d : D} {xs : List D} (h : Dp K H v d) (e : seqOf d = some xs) : ∃ a vs, v = .ref a ∧ (SqL K H a vs ∨ SqT K H a vs) ∧ DpAll K H vs xs := by
  cases h <;> first | (cases e; exact ⟨_, _, rfl, .inl (by assumption), by assumption⟩) | (cases e; exact ⟨_, _, rfl, .inr (by assumption), by assumption⟩) | cases e
theorem list_ok {K : PySem.W.Frag} : CallD K (rListOf K) gList := by
  intro P H vs ds z hP hx hz Q q
  unfold gList at hz
  split at hz
  · rename_i d
    cases hs : seqOf d with
    | none => rw [hs] at hz; cases hz
    | some xs =>
      rw [hs] at hz
      cases hz
      cases hx with
      | cons h1 h2 =>
        cases h2
        obtain ⟨a, ws, rfl, k1, k2⟩ := seq_dp h1 hs
        exact ⟨a, ws, rfl, k1.elim (fun k => .inl (ex_l ex_hd k)) fun k => .inr (ex_t ex_hd k), fun l hl => q _ _ (.new hl) (vok_lst hP hl k2)⟩
  · cases hz
theorem listO_ok {K : PySem.W.Frag} : CallD K (rListOf K) gListO := by
  intro P H vs ds z hP hx hz Q q
  unfold gListO at hz
  split at hz
  · rename_i d
    cases hs : seqOf d with
    | none => rw [hs] at hz; cases hz
    | some xs =>
      rw [hs] at hz
      cases hz
      cases hx with
      | cons h1 h2 =>
        cases h2
        obtain ⟨a, ws, rfl, k1, k2⟩ := seq_dp h1 hs
        exact ⟨a, ws, rfl, k1.elim (fun k => .inl (ex_l ex_hd k)) fun k => .inr (ex_t ex_hd k), fun l hl => q _ _ (.new hl) (vok_own hl k2)⟩
  · cases hz
theorem tuple_ok {K : PySem.W.Frag} : CallD K (rTupOf K) gTuple := by
  intro P H vs ds z hP hx hz Q q
  unfold gTuple at hz
  split at hz
  · rename_i d
    cases hs : seqOf d with
    | none => rw [hs] at hz; cases hz
    | some xs =>
      rw [hs] at hz
      cases hz
      cases hx with
      | cons h1 h2 =>
        cases h2
        cases h1 with
        | @lst a ws xs' k1 k2 =>
          cases hs
          exact ⟨a, ws, rfl, .inl ⟨ex_l ex_hd k1, fun l hl => q _ _ (.new hl) (vok_tup hP hl k2)⟩⟩
        | @tup a ws xs' k1 k2 =>
          cases hs
          exact ⟨a, ws, rfl, .inr ⟨ex_t ex_hd k1, q _ H (.refl _) (.tup k1 k2)⟩⟩
        | _ => cases hs
  · cases hz
/-- int(..) of an int, of a bool -/
def gInt : List D → Option S
  | [.int i] => some (.dat (.int i))
  | [.bool b] => some (.dat (.int (if b then 1 else 0)))
  | _ => none
abbrev rInt1 : List V → Hp → VK → Prop := fun xs H Q => (∃ i, xs = [.int i] ∧ Q (.int i) H) ∨ ∃ k, xs = [.bl k] ∧ Q (.int (if k then 1 else 0)) H
theorem int_ok {K : PySem.W.Frag} : CallD K rInt1 gInt := by
  intro P H vs ds z hP hx hz Q q
  unfold gInt at hz
  split at hz
  · cases hz
    cases hx with
    | cons h1 h2 =>
      cases h2
      cases dp_int h1
      exact .inl ⟨_, rfl, q _ H (.refl _) (.int _)⟩
  · cases hz
    cases hx with
    | cons h1 h2 =>
      cases h2
      cases dp_bl h1
      exact .inr ⟨_, rfl, q _ H (.refl _) (.int _)⟩
  · cases hz
end DL

namespace DL
open PySem PySem.Spec L2
variable [TheW]

/-! ### own lists: items, length, stores -/
def mOix (i : Nat) (f : EM) : EM := fun ρ => match ρ[i]? with
  | some (some (.own _)) => bindD f (fun d ρ1 => match d with
    | .int k => (match ρ1[i]? with
      | some (some (.own xs)) => optD (atI xs k) ρ1
      | _ => none)
    | _ => none) ρ
  | _ => none
def mOlen (i : Nat) : EM := fun ρ => match ρ[i]? with
  | some (some (.own xs)) => some (.ok (.dat (.int xs.length)), ρ)
  | _ => none
def setO (i : Nat) (fv fi : EM) : SM := bindS fv fun s ρ => match s.toD, ρ[i]? with
  | some d, some (some (.own _)) => bindS fi (fun t ρ1 => match t, ρ1[i]? with
    | .dat (.int k), some (some (.own xs)) => (match ixN xs.length k with
      | some j => some (.nx (ρ1.set i (some (.own (xs.set j d)))))
      | none => none)
    | _, _ => none) ρ
  | _, _ => none
def appO (i : Nat) (f : EM) : SM := fun ρ => match ρ[i]? with
  | some (some (.own _)) => bindS f (fun s ρ1 => match s.toD, ρ1[i]? with
    | some d, some (some (.own xs)) => if xs.length < big then some (.nx (ρ1.set i (some (.own (xs ++ [d]))))) else none
    | _, _ => none) ρ
  | _ => none
def iaddO (i : Nat) (f : EM) : SM := fun ρ => match ρ[i]? with
  | some (some (.own _)) => bindS f (fun s ρ1 => match s, ρ1[i]? with
    | .own zs, some (some (.own xs)) => if xs.length + zs.length ≤ big then some (.nx (ρ1.set i (some (.own (xs ++ zs))))) else none
    | _, _ => none) ρ
  | _ => none
section
variable {K : PySem.W.Frag} {P : Addr → Prop} {o : Ow} {ρ : Env} {σ : St} {H : Hp} {i : Nat} {a : Addr} {xs ys : List D} {ws : List V}
theorem At.ownAt (h : At K P o ρ σ H) (e : ρ[i]? = some (some (.own xs))) : ∃ a vs, o i = some a ∧ σ[i]? = some (some (V.ref a)) ∧ H a = some (.lst vs) ∧ DpAll K (hd (hid P o) H) vs xs := by
  obtain ⟨a, ho⟩ := h.ow i _ e rfl
  obtain ⟨s, h1, h2, h3⟩ := h.has i a ho
  rw [e] at h1
  cases h1
  obtain ⟨vs, h4, h5⟩ := h3
  exact ⟨a, vs, ho, h2, h4, h5⟩
/-- an own object is written -/
theorem At.putS {s : S} {w : HO} (h : At K P o ρ σ H) (ho : o i = some a) (k : OwnOk K (hd (hid P o) H) (upd H a w) a s) : At K P o (ρ.set i (some s)) σ (upd H a w) := by
  have eh : hd (hid P o) (upd H a w) = hd (hid P o) H := by
    funext b
    unfold hd
    split
    · rfl
    · rename_i hne
      exact upd_ne fun z => hne (by rw [z]; exact .inr ⟨i, ho⟩)
  obtain ⟨s0, q1, q2, q3⟩ := h.has i a ho
  have hi : i < ρ.length := (List.getElem?_eq_some_iff.mp q1).1
  refine ⟨by simp [h.len], fun b z => ?_, h.inj, h.dis, fun j b q => ?_, fun j d q hd' => ?_, fun j s q hs => ?_⟩
  · by_cases hb : b = a
    · subst hb; exact ⟨_, upd_same⟩
    · obtain ⟨u, z⟩ := h.dom b z
      exact ⟨u, by rw [upd_ne hb]; exact z⟩
  · rw [eh]
    by_cases hj : j = i
    · subst hj
      rw [ho] at q
      cases q
      exact ⟨s, List.getElem?_set_self hi, q2, k⟩
    · obtain ⟨s, h1, h2, h3⟩ := h.has j b q
      have hb : b ≠ a := fun z => hj (h.inj j i a (by rw [← z]; exact q) ho)
      exact ⟨s, by rw [List.getElem?_set_ne (Ne.symm hj)]; exact h1, h2, h3.imp (Ex.refl _) fun u z => by rw [upd_ne hb]; exact z⟩
  · rw [eh]
    by_cases hj : j = i
    · subst hj
      rw [List.getElem?_set_self hi] at q
      cases q
      rw [k.isOwn] at hd'
      cases hd'
    · rw [List.getElem?_set_ne (Ne.symm hj)] at q
      exact h.dat j d q hd'
  · by_cases hj : j = i
    · subst hj; exact ⟨a, ho⟩
    · rw [List.getElem?_set_ne (Ne.symm hj)] at q
      exact h.ow j s q hs
/-- an own list is written -/
theorem At.putOwn (h : At K P o ρ σ H) (ho : o i = some a) (k : DpAll K (hd (hid P o) H) ws ys) : At K P o (ρ.set i (some (.own ys))) σ (upd H a (.lst ws)) := h.putS (s := .own ys) ho ⟨ws, upd_same, k⟩
theorem chgS_put {np : Nat} {u u' : HO} (ho : o i = some a) (h : H a = some u') (hn : ∀ od w, u' ≠ .frz od w := by intro _ _ z; cases z) : ChgS np o o H (upd H a u) := by
  refine ⟨fun b w q n => ?_, fun b w q => ?_, fun _ z => .inl z, fun _ _ _ z => z, fun b od w q => ?_⟩
  · rw [upd_ne fun z => n (by rw [z]; exact ⟨i, ho⟩)]
    exact q
  · by_cases hb : b = a
    · subst hb; exact ⟨_, upd_same⟩
    · exact ⟨w, by rw [upd_ne hb]; exact q⟩
  · by_cases hb : b = a
    · subst hb; rw [h] at q; exact (hn _ _ (Option.some.inj q)).elim
    · rw [upd_ne hb]; exact q
end
section
variable {X : Cx} {E : XK} {np i : Nat} {x : Str} {e ei : Expr} {fe fi : EM} {pos p : Pos}
theorem pd_oix (hN : X.N[i]? = some x) (hv : Vis X.env.scope x) (he : PD X E ei fi) (hs : PlainIx ei) (hd : (x == ("__debug__" : Str)) = false := by decide) (hcd : (x == ("__classdict__" : Str)) = false := by decide) : PD X E (.Subscript (.Name x p) ei pos) (mOix i fi) := by
  refine PE.imp (pe_ix ix_list (pe_var hN hv hd hcd) he hs) fun σ H Q h => ?_
  obtain ⟨P, o, ρ, res, a, e, q⟩ := h
  unfold mOix at e
  split at e
  · rename_i xs0 h0
    obtain ⟨ad, vs0, ho, hσ, _, _⟩ := a.ownAt h0
    refine ⟨.ref ad, hσ, tE_mono (fun y H1 h => ?_) (bindD_go a .refl e q)⟩
    obtain ⟨ρ1, d, c1, c2, a1, dy, e⟩ := h
    split at e
    · rename_i k
      split at e
      · rename_i xs h1
        obtain ⟨z, hz, rfl⟩ := optD_some e
        cases dp_int dy
        obtain ⟨ad', vs, ho', _, hH, hk⟩ := a1.ownAt h1
        rw [ho] at ho'
        cases ho'
        obtain ⟨v, k1, k2⟩ := atI_dps hk hz
        exact ⟨ad, vs, k, v, rfl, rfl, SqL.of hH, k1, q v H1 c1 ⟨a1, k2⟩⟩
      · cases e
    · cases e
  · cases e
theorem pd_olen {x2 : Str} {p2 : Pos} (hN : X.N[i]? = some x) (hv : Vis X.env.scope x) (hg : Gl X "len") (hm : X.mg "len" = none)
    (he : starEach [.Name x p] X.env = (false, eval (.Name x p) X.env) :: starEach [] X.env := by rfl) (hpl : (backTo pos (starEach [] X.env)).any (·.1) = false := by rfl) (hd : (x == ("__debug__" : Str)) = false := by decide) (hcd : (x == ("__classdict__" : Str)) = false := by decide)
    (hb : bootBuiltins ("len" : Str) = some (.builtin "len") := by decide +kernel) : PD X E (.Call (.Name "len" p2) [.Name x p] [] pos) (mOlen i) := by
  refine PE.imp (pe_callB call_len_seq hg hm hb (pa_cons (pe_var hN hv hd hcd) pa_nil he) (he := he) (hpl := hpl)) fun σ H Q h => ?_
  obtain ⟨P, o, ρ, res, a, e, q⟩ := h
  unfold mOlen at e
  split at e
  · rename_i xs h0
    cases e
    obtain ⟨ad, vs, ho, hσ, hH, hk⟩ := a.ownAt h0
    refine ⟨.ref ad, hσ, ad, vs, rfl, .inl (SqL.of hH), ?_⟩
    rw [dps_len hk]
    exact q _ H .refl ⟨a, .int _⟩
  · cases e
theorem pds_oset {pos' : Pos} (hN : X.N[i]? = some x) (hv : Vis X.env.scope x) (he : PD X E e fe) (hi : PD X E ei fi)
    (hs : swapsWithSole [.Subscript (.Name x p) ei pos'] e pos.line X.env = pure false := by rfl) (hw : swappedStores [.Subscript (.Name x p) ei pos'] e X.env = pure none := by rfl)
    (h1 : (assignEach [.Subscript (.Name x p) ei pos'] X.env).map (·.2) = [assign (.Subscript (.Name x p) ei pos') X.env] := by rfl)
    (ha : ∀ v, assign (.Subscript (.Name x p) ei pos') X.env v = (do
      let ov ← holding [v] (eval (.Name x p) X.env)
      let iv ← holding [v, ov] (eval ei X.env)
      standAt pos'
      holding [v, ov, iv] (setItem ov iv v)
      release [v, ov, iv] []) := by intro _; rfl) (hd : (x == ("__debug__" : Str)) = false := by decide) (hcd : (x == ("__classdict__" : Str)) = false := by decide) :
    PDS X E np (.Assign [.Subscript (.Name x p) ei pos'] e pos) (setO i fe fi) := by
  refine PS.imp (ps_asg he (pg_sub (pe_var hN hv hd hcd) hi set_list ha) hs hw h1) fun D σ H h => ?_
  obtain ⟨P, o, ρ, fl, a, e, q⟩ := h
  refine tE_mono (fun y H1 h => ?_) (bindS_go a e q)
  obtain ⟨ρ1, s, c, ok, e⟩ := h
  cases hs : s.toD with
  | none => simp only [hs] at e; cases e
  | some d =>
    obtain ⟨a1, dy⟩ := ok.toD hs
    simp only [hs] at e
    split at e
    · rename_i d' xs0 heq h0
      have q1 := q.later (ChgS.of c)
      cases heq
      obtain ⟨ad, vs0, ho, hσ, _, _⟩ := a1.ownAt h0
      refine ⟨.ref ad, hσ, tE_mono (fun z H2 h => ?_) (bindS_go a1 e q1)⟩
      obtain ⟨ρ2, t, c2, ok2, e⟩ := h
      split at e
      · rename_i k xs h2
        split at e
        · rename_i j hj
          cases e
          obtain ⟨a2, dz⟩ := ok2
          cases dp_int dz
          obtain ⟨ad', vs, ho', _, hH, hk⟩ := a2.ownAt h2
          rw [ho] at ho'
          cases ho'
          have hl := dps_len hk
          refine ⟨ad, vs, k, j, rfl, rfl, hH, by rw [hl]; exact hj, ?_⟩
          exact q1 o σ _ ((ChgS.of c2).trans (chgS_put ho hH)) (a2.putOwn ho (dps_set (dp_mono c2.ex dy) j hk))
        · cases e
      · cases e
    · cases e
theorem pds_app {apos cpos : Pos} (hN : X.N[i]? = some x) (hv : Vis X.env.scope x) (he : PD X E e fe)
    (hbase : attributeBase (.Name x p) "append" X.env (eval (.Name x p) X.env) = eval (.Name x p) X.env := by rfl)
    (hfew : ((backTo cpos (starEach [e] X.env)).all (fun x => !x.1) && (backToKw cpos (keywordEach [] X.env)).all (fun x => x.1.isSome)
      && decide ([e].length + ([] : List Keyword).length + (if ([] : List Keyword).isEmpty then 0 else 1) < 30)) = true := by rfl)
    (hline : (apos.endLine == cpos.line) = true := by rfl) (hs : starEach [e] X.env = (false, eval e X.env) :: starEach [] X.env := by rfl) (hplain : (backTo cpos (starEach [] X.env)).any (·.1) = false := by rfl)
    (hsw : swapsWith (.Call (.Attribute (.Name x p) "append" apos) [e] [] cpos) none pos.line X.env = pure false := by rfl) (hd : (x == ("__debug__" : Str)) = false := by decide) (hcd : (x == ("__classdict__" : Str)) = false := by decide) :
    PDS X E np (.Expr (.Call (.Attribute (.Name x p) "append" apos) [e] [] cpos) pos) (appO i fe) := by
  refine PS.imp (ps_expr (pe_bm PySem.F.plainAttrs_list PySem.F.slot_list_append PySem.F.type_list_append mt_append (pe_var hN hv hd hcd) (pa_cons he pa_nil hs) hbase hfew hline hs hplain) hsw) fun D σ H h => ?_
  obtain ⟨P, o, ρ, fl, a, e, q⟩ := h
  unfold appO at e
  split at e
  · rename_i xs0 h0
    obtain ⟨ad, vs0, ho, hσ, hH0, _⟩ := a.ownAt h0
    refine ⟨.ref ad, hσ, .inl ⟨rfl, vs0, SqL.of hH0⟩, tE_mono (fun y H1 h => ?_) (bindS_go a e q)⟩
    obtain ⟨ρ1, s, c, ok, e⟩ := h
    cases hs : s.toD with
    | none => simp only [hs] at e; cases e
    | some d =>
      obtain ⟨a1, dy⟩ := ok.toD hs
      simp only [hs] at e
      split at e
      · rename_i xs heq h1
        cases heq
        split at e
        · rename_i hl
          cases e
          obtain ⟨ad', vs, ho', _, hH, hk⟩ := a1.ownAt h1
          rw [ho] at ho'
          cases ho'
          exact ⟨ad, vs, y, rfl, rfl, hH, by rw [dps_len hk]; exact big_lt hl, q o σ _ ((ChgS.of c).trans (chgS_put ho hH)) (a1.putOwn ho (dps_append hk (.cons dy .nil)))⟩
        · cases e
      · cases e
  · cases e
theorem pds_iadd {pos' : Pos} (hN : X.N.Nodup) (hi : X.N[i]? = some x) (hx : Loc X.env.scope x) (he : PD X E e fe) (hf : X.fn x = true ∨ X.env.scope.names.lookup x = some .local := by first | exact .inl rfl | exact .inr rfl | assumption) :
    PDS X E np (.AugAssign (.Name x pos') .Add e pos) (iaddO i fe) := by
  refine PS.imp (ps_aug (ti := rExt2) hN hi hx he (fun pins s σ H x y v u Q I r1 r2 h => iop_ext pins s σ H x y v u Q I r1 r2 h) hf) fun D σ H h => ?_
  obtain ⟨P, o, ρ, fl, a, e, q⟩ := h
  unfold iaddO at e
  split at e
  · rename_i xs0 h0
    obtain ⟨ad, vs0, ho, hσ, hH0, _⟩ := a.ownAt h0
    refine ⟨.ref ad, hσ, tE_mono (fun y H1 h => ?_) (bindS_go a e q)⟩
    obtain ⟨ρ1, s, c, ok, e⟩ := h
    cases s with
    | own zs =>
      split at e
      · rename_i zs' xs heq h1
        cases heq
        split at e
        · rename_i hl
          cases e
          obtain ⟨b, rfl, hb0, hbn, a1, ws, hb, kb⟩ := ok
          have a2 : At X.K P o ρ1 σ H1 := a1.less fun _ z => .inl z
          obtain ⟨ad', vs, ho', _, hH, hk⟩ := a2.ownAt h1
          rw [ho] at ho'
          cases ho'
          have kb' : DpAll X.K (hd (hid P o) H1) ws zs := dps_mono (ex_hd_le fun z w => w.elim (fun w => .inl (.inl w)) .inr) kb
          refine ⟨ad, b, vs, ws, rfl, rfl, hH, hb, by rw [dps_len hk, dps_len kb']; exact big_line hl, ?_⟩
          -- the name is stored again: the very same object
          have hset : σ.set i (some (V.ref ad)) = σ := by
            apply List.ext_getElem?
            intro j
            by_cases hj : j = i
            · subst hj
              rw [List.getElem?_set_self (List.getElem?_eq_some_iff.mp hσ).1, hσ]
            · rw [List.getElem?_set_ne (Ne.symm hj)]
          show D.nx (σ.set i (some (V.ref ad))) _
          rw [hset]
          exact q o σ _ ((ChgS.of c).trans (chgS_put ho hH)) (a2.putOwn ho (dps_append hk kb'))
        · cases e
      · cases e
    | dat _ => cases e
    | odk _ => cases e
    | odt _ => cases e
    | odl _ => cases e
  · cases e
end
/-! ### an own list becomes data -/
def frzE (np i : Nat) (ρ : Env) : Env := if np ≤ i then (match ρ[i]? with
  | some (some (.own xs)) => ρ.set i (some (.dat (.list xs)))
  | _ => ρ) else ρ
def frzS (np i : Nat) (f : SM) : SM := fun ρ => f (frzE np i ρ)
theorem At.frz {K : PySem.W.Frag} {P : Addr → Prop} {o : Ow} {ρ : Env} {σ : St} {H : Hp} {i : Nat} {xs : List D} (h : At K P o ρ σ H) (e : ρ[i]? = some (some (.own xs))) : At K P (clr o i) (ρ.set i (some (.dat (.list xs)))) σ H := by
  obtain ⟨a, vs, ho, hσ, hH, hk⟩ := h.ownAt e
  have hi : i < ρ.length := (List.getElem?_eq_some_iff.mp e).1
  have ex : Ex (hd (hid P o) H) (hd (hid P (clr o i)) H) := ex_hd_le fun a z => z.elim .inl fun z => .inr (own_clr z)
  have cl : ∀ j a, clr o i j = some a → j ≠ i ∧ o j = some a := fun j a q => by
    unfold clr at q
    split at q
    · cases q
    · rename_i hne
      exact ⟨hne, q⟩
  have vis : ¬ hid P (clr o i) a := fun z => by
    rcases z with z | ⟨j, z⟩
    · exact h.dis i a ho z
    · obtain ⟨hne, z⟩ := cl j a z
      exact hne (h.inj j i a z ho)
  refine ⟨by simp [h.len], h.dom, fun j j' a q q' => h.inj j j' a (cl j a q).2 (cl j' a q').2, fun j a q => h.dis j a (cl j a q).2, fun j b q => ?_, fun j d q hd' => ?_, fun j t q hs => ?_⟩
  · obtain ⟨hne, q⟩ := cl j b q
    obtain ⟨t, h1, h2, h3⟩ := h.has j b q
    exact ⟨t, by rw [List.getElem?_set_ne (Ne.symm hne)]; exact h1, h2, h3.imp ex fun _ z => z⟩
  · by_cases hj : j = i
    · subst hj
      rw [List.getElem?_set_self hi] at q
      cases q
      exact ⟨.ref a, hσ, .lst (.inl (.inl (hd_some.mpr ⟨vis, hH⟩))) (dps_mono ex hk)⟩
    · rw [List.getElem?_set_ne (Ne.symm hj)] at q
      obtain ⟨w, h1, h2⟩ := h.dat j d q hd'
      exact ⟨w, h1, dok_mono ex h2⟩
  · by_cases hj : j = i
    · subst hj
      rw [List.getElem?_set_self hi] at q
      cases q
      cases hs
    · rw [List.getElem?_set_ne (Ne.symm hj)] at q
      obtain ⟨a, q⟩ := h.ow j t q hs
      exact ⟨a, by unfold clr; rw [if_neg hj]; exact q⟩
section
variable {X : Cx} {E : XK} {np i : Nat} {sts : List Stmt} {f : SM}
theorem pdb_frz (h : PDB X E np sts f) : PDB X E np sts (frzS np i f) := PSs.imp h fun D σ H h => by
  obtain ⟨P, o, ρ, fl, a, e, p⟩ := h
  unfold frzS frzE at e
  split at e
  · rename_i hi
    split at e
    · rename_i xs hx
      refine ⟨P, clr o i, _, fl, a.frz hx, e, p.later ⟨fun _ _ h _ => h, fun _ _ h => ⟨_, h⟩, fun _ z => .inl (own_clr z), fun j b hj q => ?_, fun _ _ _ h => h⟩⟩
      unfold clr
      rw [if_neg fun z => ?_]
      · exact q
      · subst z
        rcases hj with hj | ⟨od, u, hj⟩
        · omega
        · obtain ⟨b', vs, ho', _, hH, _⟩ := a.ownAt hx
          rw [q] at ho'
          cases ho'
          rw [hj] at hH
          cases hH
    · exact ⟨P, o, ρ, fl, a, e, p⟩
  · exact ⟨P, o, ρ, fl, a, e, p⟩
end
end DL

namespace DL
open PySem PySem.Spec L2
variable [TheW]

/-! ### comprehensions of two clauses -/
/-- kept, but for one's own objects and p -/
structure ChgP (p : Addr) (o : Ow) (H H' : Hp) : Prop where
  keep : ∀ a u, H a = some u → ¬ Own o a → a ≠ p → H' a = some u
  dom : ∀ a u, H a = some u → ∃ u', H' a = some u'
  frz : ∀ a od u, H a = some (.frz od u) → a ≠ p → H' a = some (.frz od u)
theorem ChgP.of {p : Addr} {o : Ow} {H H' : Hp} (c : Chg o H H') : ChgP p o H H' := ⟨fun a u h n _ => c.keep a u h n, c.dom, fun a od u h _ => c.frz a od u h⟩
theorem ChgP.trans {p : Addr} {o : Ow} {H H1 H2 : Hp} (a : ChgP p o H H1) (b : ChgP p o H1 H2) : ChgP p o H H2 :=
  ⟨fun x u h n m => b.keep x u (a.keep x u h n m) n m, fun x u h => let ⟨_, h1⟩ := a.dom x u h; b.dom x _ h1, fun x od u h n => b.frz x od u (a.frz x od u h n) n⟩
theorem ChgP.put {p : Addr} {o : Ow} {H : Hp} {u : HO} : ChgP p o H (upd H p u) := ⟨fun a w h _ n => by rw [upd_ne n]; exact h, fun a w h => by
  by_cases e : a = p
  · subst e; exact ⟨_, upd_same⟩
  · exact ⟨w, by rw [upd_ne e]; exact h⟩, fun a od w h n => by rw [upd_ne n]; exact h⟩
theorem ChgP.ex {P : Addr → Prop} {p : Addr} {o : Ow} {H H' : Hp} (c : ChgP p o H H') (hp : P p) : Ex (hd (hid P o) H) (hd (hid P o) H') := fun a u h => by
  obtain ⟨n, h⟩ := hd_some.mp h
  exact hd_some.mpr ⟨n, c.keep a u h (fun z => n (.inr z)) fun z => n (.inl (by rw [z]; exact hp))⟩
theorem hd_put {P : Addr → Prop} {o : Ow} {H : Hp} {p : Addr} {u : HO} (hp : P p) : hd (hid P o) (upd H p u) = hd (hid P o) H := by
  funext z
  unfold hd
  split
  · rfl
  · rename_i hne
    exact upd_ne fun q => hne (by rw [q]; exact .inl hp)
/-- where the wiped slots hold nothing, a target clears no own slot -/
theorem tg_same {K : PySem.W.Frag} {np : Nat} {P : Addr → Prop} {o o2 : Ow} {ρ ρ2 : Env} {σ σ2 : St} {H H2 : Hp} {sl vs : List Nat} (a : At K P o ρ (wipe σ vs) H) (a2 : At K P o2 ρ2 σ2 H2) {Ht : Hp} (t : TgRel np sl Ht o o2 (wipe σ vs) σ2) (hsl : ∀ i ∈ sl, i ∈ vs) : o2 = o := by
  have nov : ∀ j b, o j = some b → j ∉ vs := fun j b q z => by
    obtain ⟨s, h1, h2, h3⟩ := a.has j b q
    exact (wipe_some h2).2 z
  funext j
  by_cases hj : j ∈ sl
  · have h1 : o j = none := by
      cases q : o j with
      | none => rfl
      | some b => exact (nov j b q (hsl j hj)).elim
    rw [h1]
    cases q : o2 j with
    | none => rfl
    | some b =>
      obtain ⟨i', hi'⟩ := t.sub b ⟨j, q⟩
      have hns : i' ∉ sl := fun z => nov i' b hi' (hsl i' z)
      have h2 : o2 i' = some b := (t.oth i' hns).trans hi'
      have e := a2.inj _ _ _ h2 q
      subst e
      exact (hns hj).elim
  · exact t.oth j hj
/-- the turns of a clause's loop, the list at p begun -/
theorem lc_loopG {K : PySem.W.Frag} {mg : Str → Option Value} {E : XK} {np : Nat} {T : TgM} {sl vs : List Nat} {ft fe : EM} (hsl : ∀ i ∈ sl, i ∈ vs) {J : It} {P : Addr → Prop} {o : Ow} {ρ1 : Env} {σ : St} {G H1 : Hp} {p : Addr} {ds acc0 : List D} {ws0 : List V} {fin : List D × Env} {Q : Hp → Prop}
    (hp : P p) (nop : ¬ Own o p) (a1 : At K P o ρ1 σ H1) (hn : noOwn ρ1 vs = true) (ij : ItD K G H1 J ds) (ex0 : Ex G (hd (hid P o) H1)) (e0 : H1 p = some (.lst ws0)) (k0 : DpAll K (hd (hid P o) H1) ws0 acc0) (hr : loopC T ft fe vs acc0 ds (wipeE ρ1 vs) = some fin)
    (hq : ∀ H' ws, ChgP p o H1 H' → H' p = some (.lst ws) → At K P o fin.2 (wipe σ vs) H' → noOwn fin.2 vs = true → DpAll K (hd (hid P o) H') ws fin.1 → Q H') :
    ∃ W : Nat → Nat → Hp → Prop, (∃ m, W 0 m H1) ∧ ∀ i m H, W i m H →
      (J.stop i H ∧ Q H) ∨ (J.go i H ∧ ∃ Nx : Hp → Prop, (∀ H', Nx H' → ∃ m', m' < m ∧ W (i + 1) m' H') ∧ ∀ x H', J.yld i H x H' → tG K np T sl x (wipe σ vs) H' fun σ2 H2 => wipe σ2 vs = wipe σ vs ∧ tT K mg E ft σ2 H2 fun b H3 =>
        if b = true then tE K mg E fe σ2 H3 fun y H4 => ∃ acc, H4 p = some (.lst acc) ∧ acc.length < sizeLine ∧ Nx (upd H4 p (.lst (acc ++ [y]))) else Nx H3) := by
  obtain ⟨Gp, Y, w, hG, hY⟩ := ij
  have hwl : ∀ σ2 : St, σ2.length = (wipe σ vs).length → (∀ (j : Nat), j ∉ sl → σ2[j]? = (wipe σ vs)[j]?) → wipe σ2 vs = wipe σ vs := fun σ2 hl ho => wipe_eq (by rw [hl, wipe_length]) fun j hj => by
    rw [ho j fun z => hj (hsl j z), wipe_out hj]
  let Pv : Nat → Hp → Prop := fun i H => ∃ acc ws ρ, ChgP p o H1 H ∧ H p = some (.lst ws) ∧ DpAll K (hd (hid P o) H) ws acc ∧ At K P o ρ (wipe σ vs) H ∧ loopC T ft fe vs acc (ds.drop i) ρ = some fin
  have fk : ∀ {H}, ChgP p o H1 H → Fk H1 H := fun c a od u h => c.frz a od u h (by rintro rfl; rw [e0] at h; cases h)
  have hGv : ∀ i H, Pv i H → Gp H := fun i H ⟨acc, ws, ρ, c, _⟩ => hG _ _ (ex0.trans (c.ex hp)) (fk c)
  refine ⟨fun i m H => m = ds.length - i ∧ i ≤ ds.length ∧ Pv i H, ⟨ds.length, by simp, Nat.zero_le _, acc0, ws0, wipeE ρ1 vs, .of .refl, e0, k0, a1.wiped hn, by simpa using hr⟩, ?_⟩
  rintro i m H ⟨rfl, hi, pv⟩
  by_cases hlt : i < ds.length
  · refine .inr ⟨w.goes i H hlt (hGv i H pv), Pv (i + 1), fun H' p' => ⟨ds.length - (i + 1), by omega, rfl, hlt, p'⟩, fun x H' y => ?_⟩
    obtain ⟨acc, ws, ρ, c, e, k, a, hl⟩ := pv
    have y := w.yields i H x H' hlt (hG _ _ (ex0.trans (c.ex hp)) (fk c)) y
    obtain ⟨ex2, d, hd1, hd2⟩ := hY (hid P o) i H x H' hlt (fun b q => a.domH q) (ex0.trans (c.ex hp)) y
    have hdrop : ds.drop i = d :: ds.drop (i + 1) := by
      obtain ⟨h1, h2⟩ := List.getElem?_eq_some_iff.mp hd1
      rw [List.drop_eq_getElem_cons h1, h2]
    rw [hdrop] at hl
    unfold loopC at hl
    cases hT : T d ρ with
    | none => simp only [hT] at hl; cases hl
    | some ρ2 =>
      simp only [hT] at hl
      refine ⟨P, o, ρ, d, ρ2, a.ext ex2, hd2, hT, fun o2 σ2 t2 a2 => ?_⟩
      have hw := hwl σ2 t2.len t2.off
      refine ⟨hw, ?_⟩
      have oo := tg_same (a.ext ex2) a2 t2 hsl
      subst oo
      have cc : ChgP p o2 H1 H' := c.trans (.of (.of ex2))
      have ep : H' p = some (.lst ws) := ex2 _ _ e
      have kk : DpAll K (hd (hid P o2) H') ws acc := dps_mono (ex_hd_hd ex2) k
      have fin1 : ∀ {acc' : List D} {ws' : List V} {ρ3 : Env} {H3 : Hp}, ChgP p o2 H1 H3 → H3 p = some (.lst ws') → DpAll K (hd (hid P o2) H3) ws' acc' → At K P o2 ρ3 σ2 H3 → noOwn ρ3 vs = true →
          loopC T ft fe vs acc' (ds.drop (i + 1)) (wipeE ρ3 vs) = some fin → Pv (i + 1) H3 :=
        fun {acc' ws' ρ3 H3} q1 q3 q4 q5 q6 q7 => by
          have q8 := q5.wiped q6
          rw [hw] at q8
          exact ⟨acc', ws', wipeE ρ3 vs, q1, q3, q4, q8, q7⟩
      cases hft : ft ρ2 with
      | none => simp only [hft] at hl; cases hl
      | some r =>
        obtain ⟨r, ρ3⟩ := r
        simp only [hft] at hl
        refine ⟨P, o2, ρ2, _, a2, hft, ?_⟩
        cases r with
        | ex n pl => cases hl
        | ok s =>
          cases s with
          | dat d' =>
            cases d' with
            | bool b =>
              intro H3 c3 a3
              have ep3 : H3 p = some (.lst ws) := c3.keep _ _ ep nop
              cases b with
              | false =>
                simp only at hl
                split at hl
                · rename_i hno
                  exact fin1 (cc.trans (.of c3)) ep3 (dps_mono c3.ex kk) a3 hno hl
                · cases hl
              | true =>
                simp only at hl
                cases hfe : fe ρ3 with
                | none => simp only [hfe] at hl; cases hl
                | some r =>
                  obtain ⟨r, ρ4⟩ := r
                  simp only [hfe] at hl
                  refine ⟨P, o2, ρ3, _, a3, hfe, ?_⟩
                  cases r with
                  | ex n pl => cases hl
                  | ok s =>
                    intro yv H4 c4 ok4
                    cases hs : s.toD with
                    | none => simp only [hs] at hl; cases hl
                    | some xd =>
                      simp only [hs] at hl
                      split at hl
                      · rename_i hb
                        obtain ⟨a4, k4⟩ := ok4.toD hs
                        have ep4 : H4 p = some (.lst ws) := c4.keep _ _ ep3 nop
                        have kw := dps_mono c4.ex (dps_mono c3.ex kk)
                        refine ⟨ws, ep4, by rw [dps_len kw]; exact big_lt hb.1, ?_⟩
                        refine fin1 (((cc.trans (.of c3)).trans (.of c4)).trans .put) upd_same ?_ (a4.updHid hp nop) hb.2 hl
                        rw [hd_put hp]
                        exact dps_append kw (.cons k4 .nil)
                      · cases hl
            | _ => cases hl
          | _ => cases hl
  · have e : i = ds.length := by omega
    subst e
    refine .inl ⟨w.stops H (hGv _ H pv), ?_⟩
    obtain ⟨acc, ws, ρ, c, e, k, a, hl⟩ := pv
    rw [List.drop_length] at hl
    unfold loopC at hl
    split at hl
    · rename_i hno
      cases hl
      exact hq H ws c e a hno k
    · cases hl
def loopC2 (T : TgM) (ft : EM) (fi1 : IM) (T1 : TgM) (ft1 fe : EM) (vs vs1 : List Nat) : List D → List D → Env → Option (List D × Env)
  | acc, [], ρ => if noOwn ρ vs = true then some (acc, ρ) else none
  | acc, d :: ds, ρ => match T d ρ with
    | none => none
    | some ρ1 => match ft ρ1 with
      | some (.ok (.dat (.bool true)), ρ2) => (match fi1 ρ2 with
        | some (.inl ds1, ρ3) => if noOwn ρ3 vs1 = true then (match loopC T1 ft1 fe vs1 acc ds1 (wipeE ρ3 vs1) with
          | some (acc', ρ4) => if noOwn ρ4 vs = true then loopC2 T ft fi1 T1 ft1 fe vs vs1 acc' ds (wipeE ρ4 vs) else none
          | none => none) else none
        | _ => none)
      | some (.ok (.dat (.bool false)), ρ2) => if noOwn ρ2 vs = true then loopC2 T ft fi1 T1 ft1 fe vs vs1 acc ds (wipeE ρ2 vs) else none
      | _ => none
def compE2 (ow : Bool) (fi : IM) (T : TgM) (ft : EM) (fi1 : IM) (T1 : TgM) (ft1 fe : EM) (vs vs1 : List Nat) : EM := fun ρ => match fi ρ with
  | some (.inl ds, ρ1) => if noOwn ρ1 vs = true then (match loopC2 T ft fi1 T1 ft1 fe vs vs1 [] ds (wipeE ρ1 vs) with
    | some (xs, ρ2) => some (.ok (if ow = true then .own xs else .dat (.list xs)), restE ρ1 ρ2 vs)
    | none => none) else none
  | some (.inr (c, p), ρ1) => some (.ex c p, ρ1)
  | none => none
theorem lc2_it {J : It} {n : Nat} {G : Hp → Prop} {Y : Nat → Hp → V → Hp → Prop} (w : Walk J n G Y) {B : (Hp → Prop) → V → Hp → Prop} {H0 : Hp} {Qd : Hp → Prop} (Pv : Nat → Hp → Prop) (h0 : Pv 0 H0) (hG : ∀ i H, Pv i H → G H)
    (hs : ∀ i x H H', i < n → Pv i H → Y i H x H' → B (Pv (i + 1)) x H') (hd : ∀ H, Pv n H → Qd H) : ∃ W : Nat → Nat → Hp → Prop, (∃ m, W 0 m H0) ∧ ∀ i m H, W i m H → (J.stop i H ∧ Qd H) ∨ (J.go i H ∧ ∃ Nx : Hp → Prop, (∀ H', Nx H' → ∃ m', m' < m ∧ W (i + 1) m' H') ∧ ∀ x H', J.yld i H x H' → B Nx x H') := by
  refine ⟨fun i m H => m = n - i ∧ i ≤ n ∧ Pv i H, ⟨n, by simp, Nat.zero_le _, h0⟩, ?_⟩
  rintro i m H ⟨rfl, hi, p⟩
  have q := hG i H p
  by_cases hlt : i < n
  · exact .inr ⟨w.goes i H hlt q, Pv (i + 1), fun H' p' => ⟨n - (i + 1), by omega, rfl, hlt, p'⟩, fun x H' y => hs i x H H' hlt p (w.yields i H x H' hlt q y)⟩
  · have e : i = n := by omega
    subst e
    exact .inl ⟨w.stops H q, hd H p⟩
theorem comp2_imp {K : PySem.W.Frag} {mg : Str → Option Value} {E E2 : XK} {np : Nat} {ow : Bool} {fi fi1 : IM} {T T1 : TgM} {ft ft1 fe : EM} {sl sl1 vs vs1 : List Nat} (hsl : ∀ i ∈ sl, i ∈ vs) (hsl1 : ∀ i ∈ sl1, i ∈ vs1) (hv : ∀ i ∈ vs1, i ∈ vs) {σ : St} {H : Hp} {Q : VK}
    (h : tE K mg E (compE2 ow fi T ft fi1 T1 ft1 fe vs vs1) σ H Q) : tLc2 (tI K mg E fi) (tG K np T sl) (tT K mg E2 ft) (tI K mg E2 fi1) (tG K np T1 sl1) (tT K mg E2 ft1) (tE K mg E2 fe) vs vs1 σ H Q := by
  obtain ⟨P, o, ρ, res, a, e, pp⟩ := h
  unfold compE2 at e
  cases hf : fi ρ with
  | none => rw [hf] at e; cases e
  | some r1 =>
    obtain ⟨r, ρ1⟩ := r1
    rw [hf] at e
    refine ⟨P, o, ρ, _, _, a, hf, ?_⟩
    cases r with
    | inr x => cases e; exact pp
    | inl ds =>
      intro J H1 c1 a1 ij p hp
      simp only at e
      split at e
      · rename_i hn
        cases hl : loopC2 T ft fi1 T1 ft1 fe vs vs1 [] ds (wipeE ρ1 vs) with
        | none => simp only [hl] at e; cases e
        | some fin =>
          simp only [hl] at e
          cases e
          have nhp : ¬ hid P o p := fun z => by
            obtain ⟨u, k⟩ := a1.domH z
            rw [hp] at k
            cases k
          have nop : ¬ Own o p := fun z => nhp (.inr z)
          have a1' : At K (plusA P p) o ρ1 σ (upd H1 p (.lst [])) := a1.plus hp
          have hP : plusA P p p := .inr rfl
          obtain ⟨Gp, Y, w, hG, hY⟩ := ij
          have ex0 : Ex (hd (hid P o) H1) (hd (hid (plusA P p) o) (upd H1 p (.lst []))) := fun b u z => by
            obtain ⟨n, z⟩ := hd_some.mp z
            have hne : b ≠ p := ne_of_none z hp
            refine hd_some.mpr ⟨fun q => ?_, by rw [upd_ne hne]; exact z⟩
            rcases q with (q | q) | q
            · exact n (.inl q)
            · exact hne q
            · exact n (.inr q)
          let Pv : Nat → Hp → Prop := fun i H => ∃ acc ws ρ, ChgP p o (upd H1 p (.lst [])) H ∧ H p = some (.lst ws) ∧ DpAll K (hd (hid (plusA P p) o) H) ws acc ∧ At K (plusA P p) o ρ (wipe σ vs) H ∧ loopC2 T ft fi1 T1 ft1 fe vs vs1 acc (ds.drop i) ρ = some fin
          have hwl : ∀ σ2 : St, σ2.length = (wipe σ vs).length → (∀ (j : Nat), j ∉ sl → σ2[j]? = (wipe σ vs)[j]?) → wipe σ2 vs = wipe σ vs := fun σ2 hl ho => wipe_eq (by rw [hl, wipe_length]) fun j hj => by
            rw [ho j fun z => hj (hsl j z), wipe_out hj]
          refine lc2_it w Pv ⟨[], [], wipeE ρ1 vs, .of .refl, upd_same, .nil, a1'.wiped hn, by simpa using hl⟩ (fun i H ⟨acc, ws, ρ, c, _⟩ => hG _ _ (ex0.trans (c.ex hP)) fun a od u h => c.frz a od u (by rw [upd_ne (ne_of_none h hp)]; exact h) (ne_of_none h hp)) (fun i x H H' hi pv y => ?_) fun H pv => ?_
          · obtain ⟨acc, ws, ρ, c, e, k, a, hl⟩ := pv
            obtain ⟨ex2, d, hd1, hd2⟩ := hY (hid (plusA P p) o) i H x H' hi (fun b q => a.domH q) (ex0.trans (c.ex hP)) y
            have hdrop : ds.drop i = d :: ds.drop (i + 1) := by
              obtain ⟨h1, h2⟩ := List.getElem?_eq_some_iff.mp hd1
              rw [List.drop_eq_getElem_cons h1, h2]
            rw [hdrop] at hl
            unfold loopC2 at hl
            cases hT : T d ρ with
            | none => simp only [hT] at hl; cases hl
            | some ρ2 =>
              simp only [hT] at hl
              refine ⟨plusA P p, o, ρ, d, ρ2, a.ext ex2, hd2, hT, fun o2 σ2 t2 a2 => ?_⟩
              have hw := hwl σ2 t2.len t2.off
              refine ⟨hw, ?_⟩
              have oo := tg_same (a.ext ex2) a2 t2 hsl
              subst oo
              have cc : ChgP p o2 (upd H1 p (.lst [])) H' := c.trans (.of (.of ex2))
              have ep : H' p = some (.lst ws) := ex2 _ _ e
              have kk : DpAll K (hd (hid (plusA P p) o2) H') ws acc := dps_mono (ex_hd_hd ex2) k
              cases hft : ft ρ2 with
              | none => simp only [hft] at hl; cases hl
              | some r =>
                obtain ⟨r, ρ3⟩ := r
                simp only [hft] at hl
                refine ⟨plusA P p, o2, ρ2, _, a2, hft, ?_⟩
                cases r with
                | ex n pl => cases hl
                | ok s =>
                  cases s with
                  | dat d' =>
                    cases d' with
                    | bool b =>
                      intro H3 c3 a3
                      have ep3 : H3 p = some (.lst ws) := c3.keep _ _ ep nop
                      cases b with
                      | false =>
                        simp only at hl
                        split at hl
                        · rename_i hno
                          have q8 := a3.wiped hno
                          rw [hw] at q8
                          exact ⟨acc, ws, wipeE ρ3 vs, cc.trans (.of c3), ep3, dps_mono c3.ex kk, q8, hl⟩
                        · cases hl
                      | true =>
                        simp only at hl
                        cases hf1 : fi1 ρ3 with
                        | none => simp only [hf1] at hl; cases hl
                        | some r =>
                          obtain ⟨r, ρ4⟩ := r
                          simp only [hf1] at hl
                          refine ⟨plusA P p, o2, ρ3, _, _, a3, hf1, ?_⟩
                          cases r with
                          | inr x => cases hl
                          | inl ds1 =>
                            intro J1 H4 c4 a4 ij1
                            simp only at hl
                            split at hl
                            · rename_i hn1
                              cases hl1 : loopC T1 ft1 fe vs1 acc ds1 (wipeE ρ4 vs1) with
                              | none => simp only [hl1] at hl; cases hl
                              | some fin1 =>
                                simp only [hl1] at hl
                                split at hl
                                · rename_i hn2
                                  have ep4 : H4 p = some (.lst ws) := c4.keep _ _ ep3 nop
                                  refine lc_loopG (mg := mg) (E := E2) (np := np) hsl1 hP nop a4 hn1 ij1 (Ex.refl _) ep4 (dps_mono c4.ex (dps_mono c3.ex kk)) hl1 fun H5 ws5 c5 e5 a5 hno5 k5 => ?_
                                  have q8 := a5.wiped hn2
                                  have hw2 : wipe (wipe σ2 vs1) vs = wipe σ vs := by
                                    rw [← hw]
                                    exact wipe_eq (wipe_length _ _) fun j hj => wipe_out fun z => hj (hv j z)
                                  rw [hw2] at q8
                                  exact ⟨fin1.1, ws5, wipeE fin1.2 vs, ((cc.trans (.of c3)).trans (.of c4)).trans c5, e5, k5, q8, hl⟩
                                · cases hl
                            · cases hl
                    | _ => cases hl
                  | _ => cases hl
          · obtain ⟨acc, ws, ρ, c, e, k, a, hl⟩ := pv
            rw [List.drop_length] at hl
            unfold loopC2 at hl
            split at hl
            · rename_i hno
              cases hl
              have cH : Chg o H1 H := ⟨fun b u z n => c.keep b u (by rw [upd_ne (ne_of_none z hp)]; exact z) n (ne_of_none z hp), fun b u z => c.dom b u (by rw [upd_ne (ne_of_none z hp)]; exact z), fun b od u z => c.frz b od u (by rw [upd_ne (ne_of_none z hp)]; exact z) (ne_of_none z hp)⟩
              refine pp _ H (c1.trans cH) (okP_list (c1.back hp) nhp ?_ e k)
              exact a1'.restored a hn hno (c.ex hP)
            · cases hl
      · cases e
end DL

namespace DL
open PySem PySem.Spec L2
variable [TheW]
section
variable {X : Cx} {E : XK} {np : Nat} {elt tg it tg1 it1 : Expr} {ifs ifs1 : List Expr} {scope : Scope} {own : List (Str × Nat)} {vs1 : List Nat} {fi fi1 : IM} {T T1 : TgM} {sl sl1 : List Nat} {ft ft1 fe : EM} {ow : Bool} {pos : Pos}
theorem pd_comp2 (hc : X.calm = true) (hN : X.N.Nodup) (hi : PDI X E tg it fi) (ok : BlkOk X.N X.env.scope scope own) (hv : ∀ i ∈ vs1, i ∈ own.map (·.2)) (hsl : ∀ i ∈ sl, i ∈ own.map (·.2)) (hsl1 : ∀ i ∈ sl1, i ∈ vs1)
    (hg : ∀ (s : Shared) (H : Hp) (C : Addr) (cl : List (Str × Addr)) (fp : List Addr), PDG (X.blk s H scope (compEnvC scope cl C X.env) fp) np tg T sl)
    (ht : ∀ (s : Shared) (H : Hp) (C : Addr) (cl : List (Str × Addr)) (fp : List Addr), PDTs (X.blk s H scope (compEnvC scope cl C X.env) fp) E0 ifs ft)
    (hi1 : ∀ (s : Shared) (H : Hp) (C : Addr) (cl : List (Str × Addr)) (fp : List Addr), PDI (X.blk s H scope (compEnvC scope cl C X.env) fp) E0 tg1 it1 fi1)
    (hg1 : ∀ (s : Shared) (H : Hp) (C : Addr) (cl : List (Str × Addr)) (fp : List Addr), PDG (X.blk s H scope (compEnvC scope cl C X.env) fp) np tg1 T1 sl1)
    (ht1 : ∀ (s : Shared) (H : Hp) (C : Addr) (cl : List (Str × Addr)) (fp : List Addr), PDTs (X.blk s H scope (compEnvC scope cl C X.env) fp) E0 ifs1 ft1)
    (he : ∀ (s : Shared) (H : Hp) (C : Addr) (cl : List (Str × Addr)) (fp : List Addr), PD (X.blk s H scope (compEnvC scope cl C X.env) fp) E0 elt fe) (hs : ∀ x, foldedSetIterable it X.env x = pure x := by intro _; rfl) (hs1 : ∀ env x, foldedSetIterable it1 env x = pure x := by intro _ _; rfl) :
    PD X E (.ListComp elt [⟨tg, it, ifs, 0⟩, ⟨tg1, it1, ifs1, 0⟩] scope pos) (compE2 ow fi T ft fi1 T1 ft1 fe (own.map (·.2)) vs1) :=
  PE.imp (pe_lc2 hc hN hi ok hv hg ht hi1 hg1 ht1 he hs hs1) fun _ _ _ h => comp2_imp hsl hsl1 hv h
theorem pds_setComp2 {i : Nat} {y : Str} {py spos : Pos} (hc : X.calm = true) (hN : X.N.Nodup) (hy : X.N[i]? = some y) (hyl : X.env.scope.names.lookup y = some .local)
    (hsw : swapsWith (.ListComp elt [⟨tg, it, ifs, 0⟩, ⟨tg1, it1, ifs1, 0⟩] scope pos) (some (.Name y py)) spos.line X.env = pure true) (hi : PDI X E tg it fi) (ok : BlkOk X.N X.env.scope scope own) (hv : ∀ i ∈ vs1, i ∈ own.map (·.2)) (hsl : ∀ i ∈ sl, i ∈ own.map (·.2)) (hsl1 : ∀ i ∈ sl1, i ∈ vs1)
    (hg : ∀ (s : Shared) (H : Hp) (C : Addr) (cl : List (Str × Addr)) (fp : List Addr), PDG (X.blk s H scope (compEnvC scope cl C X.env) fp) np tg T sl)
    (ht : ∀ (s : Shared) (H : Hp) (C : Addr) (cl : List (Str × Addr)) (fp : List Addr), PDTs (X.blk s H scope (compEnvC scope cl C X.env) fp) E0 ifs ft)
    (hi1 : ∀ (s : Shared) (H : Hp) (C : Addr) (cl : List (Str × Addr)) (fp : List Addr), PDI (X.blk s H scope (compEnvC scope cl C X.env) fp) E0 tg1 it1 fi1)
    (hg1 : ∀ (s : Shared) (H : Hp) (C : Addr) (cl : List (Str × Addr)) (fp : List Addr), PDG (X.blk s H scope (compEnvC scope cl C X.env) fp) np tg1 T1 sl1)
    (ht1 : ∀ (s : Shared) (H : Hp) (C : Addr) (cl : List (Str × Addr)) (fp : List Addr), PDTs (X.blk s H scope (compEnvC scope cl C X.env) fp) E0 ifs1 ft1)
    (he : ∀ (s : Shared) (H : Hp) (C : Addr) (cl : List (Str × Addr)) (fp : List Addr), PD (X.blk s H scope (compEnvC scope cl C X.env) fp) E0 elt fe) (hs : ∀ x, foldedSetIterable it X.env x = pure x := by intro _; rfl) (hs1 : ∀ env x, foldedSetIterable it1 env x = pure x := by intro _ _; rfl) :
    PDS X E np (.Assign [.Name y py] (.ListComp elt [⟨tg, it, ifs, 0⟩, ⟨tg1, it1, ifs1, 0⟩] scope pos) spos) (asgN np i (compE2 ow fi T ft fi1 T1 ft1 fe (own.map (·.2)) vs1)) :=
  PS.imp (ps_setLc2 hc hN hy hyl hsw hi ok hv hg ht hi1 hg1 ht1 he hs hs1) fun _ _ _ h => comp2_imp hsl hsl1 hv (asgN_go h)
end
/-! ### sorted(set(xs)), xs tuples of ints -/
def intsOf : List D → Option (List Int)
  | [] => some []
  | .int i :: r => (intsOf r).map (i :: ·)
  | _ :: _ => none
def rowOf : D → Option (List Int)
  | .tuple xs => intsOf xs
  | _ => none
def rowsOf : List D → Option (List (List Int))
  | [] => some []
  | d :: r => match rowOf d, rowsOf r with
    | some x, some xs => some (x :: xs)
    | _, _ => none
theorem ints_dps {K : PySem.W.Frag} {H : Hp} : ∀ {vs : List V} {ds : List D} {ns : List Int}, DpAll K H vs ds → intsOf ds = some ns → vs = ns.map V.int ∧ ds = ns.map PyData.int
  | _, _, _, .nil, e => by cases e; exact ⟨rfl, rfl⟩
  | _, _, _, .cons (ds := ds) h hs, e => by
    unfold intsOf at e
    split at e
    · rename_i hh; cases hh
    · rename_i b r hh
      cases hh
      cases hb : intsOf ds with
      | none => rw [hb] at e; cases e
      | some bs =>
        rw [hb] at e
        cases e
        obtain ⟨h1, h2⟩ := ints_dps hs hb
        rw [dp_int h, h1, h2]
        exact ⟨rfl, rfl⟩
    · cases e
omit [TheW] in
theorem intsOf_map : ∀ ns : List Int, intsOf (ns.map PyData.int) = some ns
  | [] => rfl
  | n :: ns => by simp [intsOf, intsOf_map ns]
/-- the rows, each once, ascending -/
def setSort (rs : List (List Int)) : List (List Int) := (rs.eraseDups).mergeSort fun a b => leD (.tuple (a.map .int)) (.tuple (b.map .int))
end DL

namespace DLs
open PySem PySem.Spec PyProof.Rows L2
section
variable {P : Program} {w : World} {A : Around} {E : Value → Shared → Prop} {s : Shared}
set_option maxHeartbeats 3200000 in
theorem set_of_tuple {l : Addr} {items : Array Value} (ks : List (Addr × List Int)) {Q : Value → Shared → Prop} (hh : A.handled = none) (hl : s.heap.IsTuple l items) (hit : items.toList = ks.map fun p => Value.ref p.1)
    (hk : ∀ p ∈ ks, IsT P w s.heap p.2 p.1) (hfew : ks.length < 64) (hu : A.units + 3 < cLine)
    (h : ∀ (h' : Heap) (tk : Nat) L es ep t, SetTR P w h' s.heap.objs.size L es ep t → Got ks ks.length L → (∀ b o, s.heap.get? b = some o → h'.get? b = some o) → Q (.ref s.heap.objs.size) { s with heap := h', toks := tk }) :
    wpAny (model P w) A (call (.type "set") [.ref l]) Q E s := by
  have hisz : items.size = ks.length := by
    have q := congrArg List.length hit
    rw [Array.length_toList, List.length_map] at q
    exact q
  obtain ⟨c, tl, hmro⟩ := F.called_set.mro
  have hmade := F.called_set.made
  have hsub := F.called_set.sub
  refine wpAny_call (codeAny_of_tree ?_)
  show wpAny _ _ (callAny (.type "set") _) _ _ _
  refine wpAny_pure ⟨Code.quiet_builtin _ (by decide +kernel), codeAny_builtin F.entry_type_call ?_⟩
  rw [Around.under_plain (weight_type_call_type "set" [.ref l] []) rfl]
  have h1 := F.called_set.notType
  have h2 := F.called_set.canCreate
  have hct := F.typeCall_set_1 (.ref l)
  repeat (any_goals (first | assumption | wp_step))

  refine codeAny_mono (code_set_led1 (.ref l) (E := E) (Q₁ := fun obj s₁ => obj = .ref s.heap.objs.size ∧ s₁ = { s with heap := s.heap.push { cls := .type "set", dict := none, data := .set #[] 0 (.fresh 0 0 (!w.params.followText "set-order")) } }) ⟨rfl, rfl⟩) fun r s₁ hr => ?_
  cases r with
  | error e => exact hr
  | ok fl =>
    cases fl with
    | ret obj =>
      obtain ⟨rfl, rfl⟩ := hr
      have hS : (s.heap.push { cls := .type "set", dict := none, data := .set #[] 0 (.fresh 0 0 (!w.params.followText "set-order")) }).get? s.heap.objs.size = some { cls := .type "set", dict := none, data := .set #[] 0 (.fresh 0 0 (!w.params.followText "set-order")) } := Heap.get?_push_size _ rfl
      have hT : Shared.TypeIs { s with heap := s.heap.push { cls := .type "set", dict := none, data := .set #[] 0 (.fresh 0 0 (!w.params.followText "set-order")) } } (.ref s.heap.objs.size) "set" := ⟨_, hS, rfl⟩
      have hli := F.called_set.init.lookup
      have hbi := F.called_set.init.bind (.ref s.heap.objs.size)
      repeat (any_goals (first | assumption | wp_step))

      refine codeAny_mono (codeAny_call_builtin (R := wants (fun r s₂ => r = .none ∧ ∃ h' tk L es ep t, s₂ = { s with heap := h', toks := tk } ∧ SetTR P w h' s.heap.objs.size L es ep t ∧ Got ks ks.length L ∧
          (∀ b o, s.heap.get? b = some o → h'.get? b = some o)) E) F.called_set.init.plain F.entry_set_init (check_set_init_1 hT ?_)) fun r₂ s₂ hr₂ => ?_
      · obtain ⟨ol, hol, hcl, nl, hdl⟩ := hl
        obtain ⟨ocls, odict, odata, oslots⟩ := ol
        simp only at hcl hdl
        subst hcl; subst hdl
        have hol' : (s.heap.push { cls := .type "set", dict := none, data := .set #[] 0 (.fresh 0 0 (!w.params.followText "set-order")) }).get? l = some { cls := .type "tuple", dict := odict, data := .seq items nl, slots := oslots } := Heap.get?_push_of_some _ hol
        have hsls := F.sub_tuple_set
        have hslf := F.sub_tuple_frozenset
        have hne : (Value.type "tuple" == Value.type "dict") = false := by decide
        have hl1 : (s.heap.push { cls := .type "set", dict := none, data := .set #[] 0 (.fresh 0 0 (!w.params.followText "set-order")) }).IsTuple l items := ⟨_, hol', rfl, nl, rfl⟩
        unfold Builtin.«set.__init__» noKeywords Builtin.Frozenset.updateFrom
        generalize hPI : pyIter = PI
        wp_walk
        subst hPI

        refine wpAny_pyIter_tuple hl1 ?_
        refine wpAny_bind (wpAny_runValue ?_)
        have hlS : l < s.heap.objs.size := Heap.lt_size hol
        have hh3 : A.in1.in1.in1.handled = none := by simp [hh]
        have hz1 : (s.heap.push { cls := .type "set", dict := none, data := .set #[] 0 (.fresh 0 0 (!w.params.followText "set-order")) }).objs.size = s.heap.objs.size + 1 := Heap.size_push ..
        have hneI : l ≠ (s.heap.push { cls := .type "set", dict := none, data := .set #[] 0 (.fresh 0 0 (!w.params.followText "set-order")) }).objs.size := by
          rw [Heap.size_push]; exact Nat.ne_of_lt (Nat.lt_succ_of_lt hlS)
        have hSf : s.heap.objs.size ∉ [(s.heap.push { cls := .type "set", dict := none, data := .set #[] 0 (.fresh 0 0 (!w.params.followText "set-order")) }).objs.size, l] := by
          rw [Heap.size_push]; simp only [List.mem_cons, List.mem_singleton, List.not_mem_nil, or_false, not_or]
          exact ⟨Nat.ne_of_lt (Nat.lt_succ_self _), Nat.ne_of_gt hlS⟩
        have hval : ∀ (i : Nat) (v : Value), items[i]? = some v → ∃ p, ks[i]? = some p ∧ v = .ref p.1 := fun i v hv => by
          have q : items.toList[i]? = some v := by rw [Array.getElem?_toList]; exact hv
          rw [hit, List.getElem?_map] at q
          cases hq : ks[i]? with
          | none => rw [hq] at q; cases q
          | some p =>
            rw [hq] at q
            exact ⟨p, rfl, (Option.some.inj q).symm⟩
        have none_of : ∀ b, s.heap.objs.size ≤ b → s.heap.get? b = none := fun b hb => by
          cases q : s.heap.get? b with
          | none => rfl
          | some o => exact absurd (Nat.lt_of_lt_of_le (Heap.lt_size q) hb) (Nat.lt_irrefl _)
        refine set_update_tups ((Walks.tuple hh3 _ l hneI items).toS) s.heap.objs.size
          hSf ks hisz hfew hval s.heap hk (none_of _ (Nat.le_refl _)) (fun b hb => none_of b (by
            rw [List.mem_singleton.mp hb, Heap.size_push]
            exact Nat.le_succ _)) hu (items.size - 0) 0 _ (by omega) (Nat.zero_le _)
          ⟨⟨_, Heap.get?_push_size _ rfl, rfl, rfl⟩, (hl1.push _)⟩ (fun b o e => Heap.get?_push_of_some _ (Heap.get?_push_of_some _ e)) ?hS0 ?hR
        case hS0 =>
          have hget : ((s.heap.push { cls := .type "set", dict := none, data := .set #[] 0 (.fresh 0 0 (!w.params.followText "set-order")) }).push { cls := .type "tuple_iterator", data := .fields #[.ref l, .int 0 0] }).get? s.heap.objs.size
              = some { cls := .type "set", dict := none, data := .set #[] 0 (.fresh 0 0 (!w.params.followText "set-order")) } := Heap.get?_push_of_some _ hS
          exact ⟨[], #[], 0, _, setTR_fresh hget, Got.zero ks⟩
        case hR =>
          intro s' L es ep t hm hS' g' hkp
          obtain ⟨h', g2, d', tk', os'⟩ := s'
          have eg : g2 = s.gens := hm.gens
          have ed : d' = s.drawn := hm.drawn
          have eo : os' = s.os := hm.os
          subst eg; subst ed; subst eo
          show wpAny _ _ _ _ _ _
          refine wpAny_pure ?_
          show wpAny _ _ (ret Value.none) _ _ _
          rw [hisz] at g'
          exact wpAny_pure ⟨rfl, h', tk', L, es, ep, t, rfl, hS', g', hkp⟩

      · cases r₂ with
        | error e => exact hr₂
        | ok fl₂ =>
          cases fl₂ with
          | ret r =>
            obtain ⟨rfl, h', tk, L, es, ep, t, rfl, hS', g', hk'⟩ := hr₂
            repeat (any_goals (first | assumption | wp_step))
            exact h _ _ _ _ _ _ hS' g' hk'
          | _ => exact hr₂.elim
    | _ => exact hr.elim

end
end DLs

namespace DLs
open PySem
open Sem (wp)
open AutoSeq1 (wpAny_loadPart')
section
variable {prog : Program} {w : World} {A : Around} {E : Value → Shared → Prop} {s : Shared}
theorem enumerate_next_item_T {e it l : Addr} {i : Nat} {items : Array Value} {x old : Value} {Q : Value → Shared → Prop}
    (he : IsEnum s.heap e it i old) (hit : s.heap.IsTupleIter it l i) (hl : s.heap.IsTuple l items) (hx : items[i]? = some x) (hne : e ≠ it)
    (hQ : ∀ h', IsEnumOut h' e it ((i : Int) + 1) x s.heap.objs.size → h'.IsTupleIter it l (i + 1) →
      h'.get? s.heap.objs.size = some { cls := .type "tuple", data := .seq #[.int i s.toks, x] } → h'.objs.size = s.heap.objs.size + 1 →
      (∀ b o, b ≠ e → b ≠ it → s.heap.get? b = some o → h'.get? b = some o) → Q (.ref s.heap.objs.size) { s with heap := h', toks := s.toks + 1 }) :
    wpAny (model prog w) A (Builtin.«enumerate.__next__» ⟨[.ref e], []⟩) (fun fin s' => ∃ v, fin = .done (.ret v) ∧ Q v s') E s := by
  obtain ⟨hp, g, d, tk, os⟩ := s
  show wpAny _ _ (field (.ref e) 2 >>= _) _ _ _
  refine wpAny_bind (wpAny_field he rfl (x := .ref it) rfl ?_)
  refine wpAny_bind (RZ.nextOf_tuple_item hit hl hx fun h₁ hit₁ hs₁ => ?_)
  replace hs₁ : Heap.SameBut it hp h₁ := hs₁
  have he₁ : IsEnum h₁ e it i old := (hs₁.2 e hne).trans he
  show wpAny _ _ (field (.ref e) 3 >>= _) _ _ ⟨h₁, g, d, tk, os⟩
  refine wpAny_bind (wpAny_field he₁ rfl (x := rawInt i) rfl ?_)
  show wpAny _ _ (field (.ref e) 4 >>= _) _ _ ⟨h₁, g, d, tk, os⟩
  refine wpAny_bind (wpAny_field he₁ rfl (x := .none) rfl ?_)
  show wpAny _ _ (mkInt i >>= _) _ _ ⟨h₁, g, d, tk, os⟩
  refine wpAny_bind (wpAny_mkInt ?_)
  show wpAny _ _ (setField (.ref e) 3 (rawInt ((i : Int) + 1)) >>= _) _ _ ⟨h₁, g, d, tk + 1, os⟩
  refine wpAny_bind (wpAny_setField_rec he₁ (by simp) fun h₂ he₂ hs₂ => ?_)
  replace hs₂ : Heap.SameBut e h₁ h₂ := hs₂
  replace he₂ : IsEnum h₂ e it ((i : Int) + 1) old := he₂
  show wpAny _ _ (setField (.ref e) 4 .none >>= _) _ _ ⟨h₂, g, d, tk + 1, os⟩
  refine wpAny_bind (wpAny_setField_rec he₂ (by simp) fun h₃ he₃ hs₃ => ?_)
  replace hs₃ : Heap.SameBut e h₂ h₃ := hs₃
  replace he₃ : IsEnum h₃ e it ((i : Int) + 1) old := he₃
  show wpAny _ _ (newTuple [.int i tk, x] >>= _) _ _ ⟨h₃, g, d, tk + 1, os⟩
  refine wpAny_bind (wpAny_newTuple ?_)
  have he₄ : IsEnum (h₃.push { cls := .type "tuple", data := .seq #[.int i tk, x] }) e it ((i : Int) + 1) old := Heap.get?_push_of_some _ he₃
  generalize hh₄ : h₃.push { cls := .type "tuple", data := .seq #[.int i tk, x] } = h₄ at he₄
  have hsz : h₃.objs.size = hp.objs.size := by rw [hs₃.1, hs₂.1, hs₁.1]
  have hel : e < hp.objs.size := Heap.lt_size he
  have ht₄ : h₄.get? hp.objs.size = some { cls := .type "tuple", data := .seq #[.int i tk, x] } := by rw [← hh₄, ← hsz]; exact Heap.get?_push_size _ rfl
  have hz₄ : h₄.objs.size = hp.objs.size + 1 := by rw [← hh₄, Heap.size_push, hsz]
  have hk₄ : ∀ b o, b ≠ e → b ≠ it → hp.get? b = some o → h₄.get? b = some o := fun b o hbe hbi hb => by
    rw [← hh₄]; exact Heap.get?_push_of_some _ (hs₃.extBut b o hbe (hs₂.extBut b o hbe (hs₁.extBut b o hbi hb)))
  have hit₄ : h₄.IsTupleIter it l (i + 1) := by
    rw [← hh₄]; obtain ⟨o, ho, r⟩ := (hit₁.extBut hs₂.extBut (Ne.symm hne)).extBut hs₃.extBut (Ne.symm hne); exact ⟨o, Heap.get?_push_of_some _ ho, r⟩
  show wpAny _ _ (Builtin.SmallTypes.ownedTupleIsFree (.ref e) >>= _) _ _ ⟨h₄, g, d, tk + 1, os⟩
  rw [hsz]
  clear hh₄ he₃ hs₃ he₂ hs₂ he₁ hs₁ hit₁ hsz h₃ h₂ h₁
  refine wpAny_bind ?_
  · unfold Builtin.SmallTypes.ownedTupleIsFree
    refine wpAny_bind (wpAny_field he₄ rfl (x := .none) rfl (wpAny_pure ?_))
    simp only [if_true]
    refine wpAny_bind (wpAny_rule ?_)
    refine wpAny_bind (wpAny_field he₄ rfl (x := old) rfl ?_)
    refine wpAny_bind (wpAny_setField_rec he₄ (by simp) fun h₅ he₅ hs₅ => ?_)
    replace hs₅ : Heap.SameBut e h₄ h₅ := hs₅
    replace he₅ : IsEnum h₅ e it ((i : Int) + 1) x := he₅
    show wpAny _ _ (Builtin.SmallTypes.ownedTupleHandOut (.ref e) (.ref hp.objs.size) >>= _) _ _ ⟨h₅, g, d, tk + 1, os⟩
    refine wpAny_bind ?_
    · unfold Builtin.SmallTypes.ownedTupleHandOut
      refine wpAny_bind (wpAny_setField_rec he₅ (by simp) fun h₆ he₆ hs₆ => ?_)
      replace hs₆ : Heap.SameBut e h₅ h₆ := hs₆
      replace he₆ : IsEnumOut h₆ e it ((i : Int) + 1) x hp.objs.size := he₆
      refine wpAny_setField_rec he₆ (by simp) fun h₇ he₇ hs₇ => ?_
      replace hs₇ : Heap.SameBut e h₆ h₇ := hs₇
      replace he₇ : IsEnumOut h₇ e it ((i : Int) + 1) x hp.objs.size := he₇
      refine wpAny_bind (wpAny_letGo (wpAny_pure ⟨_, rfl, hQ h₇ he₇ ?_ ?_ ?_ ?_⟩))
      · exact ((hit₄.extBut hs₅.extBut (Ne.symm hne)).extBut hs₆.extBut (Ne.symm hne)).extBut hs₇.extBut (Ne.symm hne)
      · exact hs₇.extBut _ _ (Nat.ne_of_gt hel) (hs₆.extBut _ _ (Nat.ne_of_gt hel) (hs₅.extBut _ _ (Nat.ne_of_gt hel) ht₄))
      · rw [hs₇.1, hs₆.1, hs₅.1, hz₄]
      · exact fun b o hbe hbi hb => hs₇.extBut b o hbe (hs₆.extBut b o hbe (hs₅.extBut b o hbe (hk₄ b o hbe hbi hb)))
theorem wpAny_pyNext_enum_item_T {e it l : Addr} {i : Nat} {items : Array Value} {x old : Value} {Q : Option Value → Shared → Prop}
    (he : IsEnum s.heap e it i old) (hit : s.heap.IsTupleIter it l i) (hl : s.heap.IsTuple l items) (hx : items[i]? = some x) (hne : e ≠ it)
    (hQ : ∀ h', IsEnumOut h' e it ((i : Int) + 1) x s.heap.objs.size → h'.IsTupleIter it l (i + 1) →
      h'.get? s.heap.objs.size = some { cls := .type "tuple", data := .seq #[.int i s.toks, x] } → h'.objs.size = s.heap.objs.size + 1 →
      (∀ b o, b ≠ e → b ≠ it → s.heap.get? b = some o → h'.get? b = some o) → Q (some (.ref s.heap.objs.size)) { s with heap := h', toks := s.toks + 1 }) :
    wpAny (model prog w) A (pyNext (.ref e)) Q E s := by
  have hT : s.TypeIs (.ref e) "enumerate" := ⟨_, he, rfl⟩
  unfold pyNext
  exact wpAny_bind (wpAny_attempt (wpAny_callSpecial?_slot (name := Str.ofString "__next__") hT F.slot_enumerate_next
    (wpAny_call_entry F.slot_enumerate_next hT F.entry_enumerate_next
      (enumerate_next_item_T he hit hl hx hne fun h' a b c d k => wpAny_pure (hQ h' a b c d k)) (F.args_enumerate_next_1 _))))
theorem wpAny_pyNext_enum_end_T {e it l : Addr} {i : Nat} {items : Array Value} {old : Value} {Q : Option Value → Shared → Prop} (hh : A.handled = none)
    (he : IsEnum s.heap e it i old) (hit : s.heap.IsTupleIter it l i) (hl : s.heap.IsTuple l items) (hx : items[i]? = none)
    (hQ : ∀ h', Heap.ExtBut it s.heap h' → Q none { s with heap := h' }) : wpAny (model prog w) A (pyNext (.ref e)) Q E s := by
  have hT : s.TypeIs (.ref e) "enumerate" := ⟨_, he, rfl⟩
  unfold pyNext
  refine wpAny_bind (wpAny_attempt (wpAny_callSpecial?_slot (name := Str.ofString "__next__") hT F.slot_enumerate_next
    (wpAny_call_entry F.slot_enumerate_next hT F.entry_enumerate_next ?_ (F.args_enumerate_next_1 _))))
  show wpAny _ _ (field (.ref e) 2 >>= _) _ _ _
  refine wpAny_bind (wpAny_field he rfl (x := .ref it) rfl ?_)
  refine wpAny_bind (RZ.nextOf_tuple_end hh hit hl hx fun h' x he' hx' => ?_)
  obtain ⟨o, ho, hc⟩ := hx'
  refine wpAny_bind (wpAny_isInstance (T := "StopIteration") (b := true) ⟨o, ho, hc⟩ isSubtype_stop ?_)
  exact wpAny_pure (hQ _ he')
end
theorem meets_enumerate_newL_T (l : Addr) (items : Array Value) (n : Nat) (dct : Option Addr) (sl : Array (Option Value)) :
    Meets (Builtin.«enumerate.__new__» ⟨[.type "enumerate", .ref l], []⟩) (fun _ R s => s.heap.get? l = some { cls := .type "tuple", dict := dct, data := .seq items n, slots := sl } ∧
      R (.ok (.ret (.ref (s.heap.push { cls := .type "tuple_iterator", data := .fields #[.ref l, .int 0 0] }).objs.size)))
        { s with heap := (s.heap.push { cls := .type "tuple_iterator", data := .fields #[.ref l, .int 0 0] }).push { cls := .type "enumerate", data := .fields #[.none, .bool false, .ref s.heap.objs.size, rawInt 0, .none, .none] } }) :=
  .of_wp fun prog w A R s h => by
    obtain ⟨hp, g, d, tk, os⟩ := s; obtain ⟨hl, h⟩ := h
    have hsub := sub_enumerate
    have hL : Heap.IsTuple (Shared.heap ⟨hp, g, d, tk, os⟩) l items := ⟨_, hl, rfl, n, rfl⟩
    wp_walk using wpAny_loadPart' hl
    refine wpAny_stack_any fun st => wpAny_pure ?_
    split
    · rename_i c _ _ _ _ _
      cases (c == Value.type "enumerate")
      · wp_walk using wpAny_loadPart' hl, wpAny_pyIter_tuple hL
        exact ⟨_, rfl, h⟩
      · wp_walk using wpAny_loadPart' hl, wpAny_pyIter_tuple hL
        exact ⟨_, rfl, h⟩
    · wp_walk using wpAny_loadPart' hl, wpAny_pyIter_tuple hL
      exact ⟨_, rfl, h⟩

section
variable {prog : Program} {w : World} {A : Around} {E : Value → Shared → Prop} {s : Shared}
theorem call_enumerate_list_T {l : Addr} {items : Array Value} {Q : Value → Shared → Prop} (hL : s.heap.IsTuple l items)
    (h : ∀ h', IsEnum h' (s.heap.objs.size + 1) s.heap.objs.size 0 .none → h'.IsTupleIter s.heap.objs.size l 0 → h'.objs.size = s.heap.objs.size + 2 →
      (∀ b o, s.heap.get? b = some o → h'.get? b = some o) → Q (.ref (s.heap.objs.size + 1)) { s with heap := h' }) :
    wpAny (model prog w) A (call (.type "enumerate") [.ref l]) Q E s := by
  obtain ⟨⟨c, dct, dt, sl⟩, hl, hc, n, hd⟩ := hL
  replace hc : c = .type "tuple" := hc
  replace hd : dt = .seq items n := hd
  subst hc hd
  refine callType_new F.called_enumerate (by decide) (F.typeCall_enumerate_1 _) (F.newCall_enumerate_1 _) (fun obj => F.args_object_init_2 obj _) F.entry_enumerate_new
    (meets_enumerate_newL_T l items n dct sl) ⟨hl, ?_⟩
  have hz : (s.heap.push { cls := .type "tuple_iterator", data := .fields #[.ref l, .int 0 0] }).objs.size = s.heap.objs.size + 1 := Heap.size_push ..
  show _ ∧ _
  rw [hz]
  have he : IsEnum ((s.heap.push { cls := .type "tuple_iterator", data := .fields #[.ref l, .int 0 0] }).push
      { cls := .type "enumerate", data := .fields #[.none, .bool false, .ref s.heap.objs.size, rawInt 0, .none, .none] }) (s.heap.objs.size + 1) s.heap.objs.size 0 .none := by
    have := Heap.get?_push_size (s.heap.push { cls := .type "tuple_iterator", data := .fields #[.ref l, .int 0 0] })
      (o := { cls := .type "enumerate", data := .fields #[.none, .bool false, .ref s.heap.objs.size, rawInt 0, .none, .none] }) rfl
    rw [hz] at this; exact this
  refine ⟨⟨_, he, rfl⟩, h _ he ⟨_, Heap.get?_push_of_some _ (Heap.get?_push_size _ rfl), rfl, rfl⟩ (by rw [Heap.size_push, hz]) fun b o x => Heap.get?_push_of_some _ (Heap.get?_push_of_some _ x)⟩

end
end DLs
namespace DLs
open PySem PySem.Spec PyProof.Rows L2
def Ite_T (K : PySem.W.Frag) (a : Addr) : It :=
  ⟨fun i H => ∃ (xs : List V) (x : V), SqT K H a xs ∧ xs[i]? = some x, fun i H v H' => ∃ T x, v = .ref T ∧ H T = none ∧ H' = upd H T (.tup [.int (i : Nat), x]) ∧ ∀ xs, SqT K H a xs → xs[i]? = some x, fun i H => ∃ xs : List V, SqT K H a xs ∧ xs.length ≤ i⟩
theorem turn_enum_T {P : Program} {w : World} {K : PySem.W.Frag} {elts : List Expr} {kk : Nat} {tpos : Pos} (a e it : Addr) :
    Turn P w K (.Tuple elts kk tpos) (Ite_T K a) [e, it] e (fun i h => (∃ old, IsEnum h e it ((i : Nat) : Int) old) ∧ h.IsTupleIter it a i ∧ e ≠ it) where
  mem := by simp
  obj := fun i h st b hb => by
    obtain ⟨⟨old, he⟩, ⟨o, ho, hc, hd⟩, _⟩ := st
    have e' : b = e ∨ b = it := by simpa using hb
    rcases e' with z | z
    · rw [z]; exact ⟨_, he, fun v q => nomatch q⟩
    · rw [z]; exact ⟨o, ho, fun v q => by rw [hd] at q; cases q⟩
  keep := fun i h h' st k => let ⟨⟨old, he⟩, hi, hne⟩ := st; ⟨⟨old, k e (by simp) _ he⟩, hi.at fun o q => k it (by simp) o q, hne⟩
  item := by
    intro X hP hw hK hc i pins s σ H E I hf st hg
    subst hP hw hK
    obtain ⟨⟨old, he⟩, hit, hne⟩ := st
    obtain ⟨xs, x, hq, hx⟩ := hg
    obtain ⟨its, rv, p, hz⟩ := I.tuple hq
    obtain ⟨u, hu, ru⟩ := rv.get hx
    have hel : e < s.heap.objs.size := Heap.lt_size he
    have hil : it < s.heap.objs.size := by obtain ⟨_, q, _⟩ := hit; exact Heap.lt_size q
    refine wpAny_pyNext_enum_item_T he hit p (x := u) (by simpa using hu) hne fun h' ho hit' hT hsz hk => ?_
    refine ⟨_, rfl, wpAny_letOwnedTupleGo_enum (s := { s with heap := h', toks := s.toks + 1 }) ho fun h'' he' sb => ?_⟩
    have hT2 : h''.get? s.heap.objs.size = some { cls := .type "tuple", data := .seq #[.int i s.toks, u] } := (sb.2 _ (Nat.ne_of_gt hel)).trans hT
    have new : ObjOk X.prog X.w (upd H s.heap.objs.size (.tup [.int (i : Nat), x])) h'' s.heap.objs.size (.tup [.int (i : Nat), x]) :=
      ⟨by show 2 ≤ sizeLine; decide, [.int i s.toks, u], .cons ⟨_, rfl⟩ (.cons ru .nil), ⟨_, hT2, rfl, _, rfl⟩⟩
    have I1 : Inv X pins σ (upd H s.heap.objs.size (.tup [.int (i : Nat), x])) { s with heap := h'', toks := s.toks + 1 } :=
      I.turnedNew (ch := [e, it]) (fun b ob hb q => (sb.2 b (fun z => hb (by simp [z]))).trans (hk b ob (fun z => hb (by simp [z])) (fun z => hb (by simp [z])) q)) hf (Nat.le_refl _) new
    refine ⟨.ref s.heap.objs.size, _, I1, rfl, ⟨_, x, rfl, I.hok.fresh (Nat.le_refl _), rfl, fun ys hy => by rw [I.tuple_inj hy hq]; exact hx⟩, ⟨⟨u, ?_⟩, hit'.at fun o q => (sb.2 it (Ne.symm hne)).trans q, hne⟩, fun b hb => ?_⟩
    · have e1 : ((i + 1 : Nat) : Int) = (i : Int) + 1 := by omega
      rw [e1]; exact he'
    · have hb' : b < s.heap.objs.size := by
        have e' : b = e ∨ b = it := by simpa using hb
        rcases e' with z | z
        · rw [z]; exact hel
        · rw [z]; exact hil
      rw [upd_ne (Nat.ne_of_lt hb')]
      exact (hf b hb).1
  done := by
    intro X hP hw hK hc i pins s σ H E I hf st hg
    subst hP hw hK
    obtain ⟨⟨old, he⟩, hit, hne⟩ := st
    obtain ⟨xs, hq, hx⟩ := hg
    obtain ⟨its, rv, p, hz⟩ := I.tuple hq
    obtain ⟨f0, f1, f2, f3, f4, f5⟩ := hf it (by simp)
    have hl := rv.length
    exact wpAny_pyNext_enum_end_T (I.ok.hd hc) he hit p (by simp; omega) fun h' eb => ⟨rfl, I.turned (t' := s.toks) (fun b o hb q => eb b o hb q) f0 f1 f3 f4 f5⟩
  self := fun A i s Q E st h => let ⟨⟨_, he⟩, _⟩ := st; wpAny_pyIter_enum he h
def iEnum_T (K : PySem.W.Frag) (ta : TA) : TI := fun σ H R => ta σ H fun vs H1 => ∃ a xs, vs = [.ref a] ∧ SqT K H1 a xs ∧ R (Ite_T K a) H1
theorem pi_enum_T {X : Cx} {e : Expr} {ta : TA} {p pos tpos : Pos} {elts : List Expr} {kk : Nat} (hg : Gl X "enumerate") (hm : X.mg "enumerate" = none) (ha : PA X [e] ta) (hs : starEach [e] X.env = [(false, eval e X.env)] := by rfl) :
    PI X (.Tuple elts kk tpos) (.Call (.Name "enumerate" p) [e] [] pos) (iEnum_T X.K ta) := by
  refine ⟨fun pins s σ H R I h => ?_⟩
  refine Call_ (ld_blt I hg hm boot_enumerate (PyProof.Rows.callWith_type1 (thn (ha.run pos pins s σ H _ I h) fun us s1 ⟨vs, H1, I1, r1, q1⟩ => ?_) hs rfl))
  obtain ⟨a, xs, ex, hq, q⟩ := q1
  subst ex
  cases r1 with
  | cons r rr =>
    cases rr
    cases r
    obtain ⟨its, rv, p', hz⟩ := I1.tuple hq
    refine call_enumerate_list_T p' fun h' he hit hsz hk => wpAny_pyIter_enum he ?_
    have I2 : Inv X pins σ H1 { s1 with heap := h' } := I1.kept (t' := s1.toks) hk
    refine ⟨s1.heap.objs.size + 1, [s1.heap.objs.size + 1, s1.heap.objs.size], _, _, H1, rfl, I2, turn_enum_T a (s1.heap.objs.size + 1) s1.heap.objs.size, ⟨⟨.none, he⟩, hit, Nat.succ_ne_self _⟩, fun b hb => ?_, q⟩
    have e' : b = s1.heap.objs.size + 1 ∨ b = s1.heap.objs.size := by simpa using hb
    have hle : s1.heap.objs.size ≤ b := by
      rcases e' with z | z
      · rw [z]; exact Nat.le_add_right _ _
      · rw [z]; exact Nat.le_refl _
    exact I1.fpOk hle (I1.hok.fresh hle)

end DLs
namespace DL
open PySem PySem.Spec L2
variable [TheW]
def gEnum2 : List D → Option (List D)
  | [.list xs] => some (enumD xs)
  | [.tuple xs] => some (enumD xs)
  | _ => none
def iEn2 (K : PySem.W.Frag) (ta : TA) : TI := fun σ H R => ta σ H fun vs H1 => ∃ a xs, vs = [.ref a] ∧ ((SqL K H1 a xs ∧ R (Ite K a) H1) ∨ (SqT K H1 a xs ∧ R (DLs.Ite_T K a) H1))
theorem walk_enumT {K : PySem.W.Frag} {a : Addr} {xs : List V} : Walk (DLs.Ite_T K a) xs.length (fun H => SqT K H a xs) (YPair (fun i => some (.int (i : Nat))) (fun i => xs[i]?)) := by
  refine ⟨fun i _ hi q => ?_, fun _ q => ⟨xs, q, Nat.le_refl _⟩, fun i H v H' _ q y => ?_⟩
  · exact ⟨xs, xs[i], q, by simp [hi]⟩
  · obtain ⟨T, x, h1, h2, h3, h4⟩ := y
    exact ⟨T, _, x, h1, h2, h3, rfl, h4 xs q⟩
end DL

namespace DLs
open PySem PySem.Spec PyProof.Rows L2
theorem pi_enum2 {X : Cx} {e : Expr} {ta : TA} {p pos tpos : Pos} {elts : List Expr} {kk : Nat} (hg : Gl X "enumerate") (hm : X.mg "enumerate" = none) (ha : PA X [e] ta) (hs : starEach [e] X.env = [(false, eval e X.env)] := by rfl) :
    PI X (.Tuple elts kk tpos) (.Call (.Name "enumerate" p) [e] [] pos) (DL.iEn2 X.K ta) := by
  refine ⟨fun pins s σ H R I h => ?_⟩
  refine Call_ (ld_blt I hg hm boot_enumerate (PyProof.Rows.callWith_type1 (thn (ha.run pos pins s σ H _ I h) fun us s1 ⟨vs, H1, I1, r1, q1⟩ => ?_) hs rfl))
  obtain ⟨a, xs, ex, hq⟩ := q1
  subst ex
  cases r1 with
  | cons r rr =>
    cases rr
    cases r
    rcases hq with ⟨hq, q⟩ | ⟨hq, q⟩
    · obtain ⟨its, rv, p', hz⟩ := I1.list hq
      refine call_enumerate_list p'.isList fun h' he hit hsz hk => wpAny_pyIter_enum he ?_
      have I2 : Inv X pins σ H1 { s1 with heap := h' } := I1.kept (t' := s1.toks) hk
      refine ⟨s1.heap.objs.size + 1, [s1.heap.objs.size + 1, s1.heap.objs.size], _, _, H1, rfl, I2, turn_enum a (s1.heap.objs.size + 1) s1.heap.objs.size, ⟨⟨.none, he⟩, hit, Nat.succ_ne_self _⟩, fun b hb => ?_, q⟩
      have e' : b = s1.heap.objs.size + 1 ∨ b = s1.heap.objs.size := by simpa using hb
      have hle : s1.heap.objs.size ≤ b := by
        rcases e' with z | z
        · rw [z]; exact Nat.le_add_right _ _
        · rw [z]; exact Nat.le_refl _
      exact I1.fpOk hle (I1.hok.fresh hle)
    · obtain ⟨its, rv, p', hz⟩ := I1.tuple hq
      refine call_enumerate_list_T p' fun h' he hit hsz hk => wpAny_pyIter_enum he ?_
      have I2 : Inv X pins σ H1 { s1 with heap := h' } := I1.kept (t' := s1.toks) hk
      refine ⟨s1.heap.objs.size + 1, [s1.heap.objs.size + 1, s1.heap.objs.size], _, _, H1, rfl, I2, turn_enum_T a (s1.heap.objs.size + 1) s1.heap.objs.size, ⟨⟨.none, he⟩, hit, Nat.succ_ne_self _⟩, fun b hb => ?_, q⟩
      have e' : b = s1.heap.objs.size + 1 ∨ b = s1.heap.objs.size := by simpa using hb
      have hle : s1.heap.objs.size ≤ b := by
        rcases e' with z | z
        · rw [z]; exact Nat.le_add_right _ _
        · rw [z]; exact Nat.le_refl _
      exact I1.fpOk hle (I1.hok.fresh hle)
end DLs
namespace DL
open PySem PySem.Spec L2
variable [TheW]
section
variable {X : Cx} {E : XK} {fs : AM}
theorem pdi_enum2 {a : Expr} {p pos tpos : Pos} {elts : List Expr} {kk : Nat} (hg : Gl X "enumerate") (hm : X.mg "enumerate" = none) (ha : PDA X E [a] fs)
    (hs : starEach [a] X.env = [(false, eval a X.env)] := by rfl) : PDI X E (.Tuple elts kk tpos) (.Call (.Name "enumerate" p) [a] [] pos) (iCB gEnum2 fs) := PI.imp (DLs.pi_enum2 hg hm ha hs) fun σ H R h => by
  refine tA_mono (fun vs H1 h => ?_) (icb_go h)
  obtain ⟨G, ds, rs, ex, k, hz, p⟩ := h
  unfold gEnum2 at hz
  split at hz
  · cases hz
    cases k with
    | cons k1 k2 =>
      cases k2
      cases k1 with
      | @lst a vs xs q1 r1 =>
        refine ⟨a, vs, rfl, .inl ⟨ex_l ex q1, p _ ?_⟩⟩
        have hl := dps_len r1
        refine itd_pair (n := vs.length) (by rw [enumD, zipD_len, rngD_len, Nat.min_self, hl]) walk_enum (fun P' H' e => ex_l ex_hd (ex_l e q1)) fun i x y e1 e2 => ?_
        cases e1
        obtain ⟨e, e4, k2⟩ := dps_get r1 e2
        obtain ⟨hi, _⟩ := List.getElem?_eq_some_iff.mp e4
        refine ⟨.int (i : Nat), e, ?_, .int _, k2⟩
        unfold enumD
        exact zipD_get (by rw [rngD_get hi]; simp) e4
  · cases hz
    cases k with
    | cons k1 k2 =>
      cases k2
      cases k1 with
      | @tup a vs xs q1 r1 =>
        refine ⟨a, vs, rfl, .inr ⟨ex_t ex q1, p _ ?_⟩⟩
        have hl := dps_len r1
        refine itd_pair (n := vs.length) (by rw [enumD, zipD_len, rngD_len, Nat.min_self, hl]) walk_enumT (fun P' H' e => ex_t ex_hd (ex_t e q1)) fun i x y e1 e2 => ?_
        cases e1
        obtain ⟨e, e4, k2⟩ := dps_get r1 e2
        obtain ⟨hi, _⟩ := List.getElem?_eq_some_iff.mp e4
        refine ⟨.int (i : Nat), e, ?_, .int _, k2⟩
        unfold enumD
        exact zipD_get (by rw [rngD_get hi]; simp) e4
  · cases hz
end
/-! ### < of ints, of tuples of ints -/
def rLt2 (K : PySem.W.Frag) : R2 := fun x y H Q => rI0 (fun i j => .bl (decide (i < j))) x y H Q ∨ rLtT K x y H Q
theorem op_lt2 {X : Cx} (hu : X.A.units < cLine) : OpR X (compareOp .Lt) (rLt2 X.K) := by
  intro pins s σ H x y v u Q I rx ry h
  rcases h with h | h
  · exact op_lt pins s σ H x y v u Q I rx ry h
  · exact op_ltT hu pins s σ H x y v u Q I rx ry h
def gLt : D → D → Option D
  | .int i, .int j => some (.bool (decide (i < j)))
  | .tuple xs, .tuple ys => match intsOf xs, intsOf ys with
    | some ns, some ms => some (.bool (HT.lexLt ns ms))
    | _, _ => none
  | _, _ => none
theorem lt_ok {K : PySem.W.Frag} : OpD K (rLt2 K) gLt := by
  intro P H x y d e z hP k1 k2 hg Q q
  unfold gLt at hg
  split at hg
  · cases hg
    rw [dp_int k1, dp_int k2]
    exact .inl ⟨_, _, rfl, rfl, q _ _ (Ex.refl _) (.bl _)⟩
  · rename_i xs ys
    split at hg
    · rename_i ns ms e1 e2
      cases hg
      obtain ⟨a, vs, rfl, h1, h2⟩ := dp_tup k1
      obtain ⟨b, ws, rfl, h3, h4⟩ := dp_tup k2
      obtain ⟨rfl, _⟩ := ints_dps h2 e1
      obtain ⟨rfl, _⟩ := ints_dps h4 e2
      exact .inr ⟨a, b, ns, ms, rfl, rfl, ex_t ex_hd h1, ex_t ex_hd h3, q _ _ (Ex.refl _) (.bl _)⟩
    · cases hg
  · cases hg
end DL

namespace DL
open PySem PySem.Spec L2
variable [TheW]
/-! ### sorted(set(xs)), xs rows of small ints -/
def ddR : List (List Int) → List (List Int)
  | [] => []
  | r :: rs => if rs.contains r then ddR rs else r :: ddR rs
omit [TheW] in
theorem ddR_mem {r : List Int} : ∀ {rs : List (List Int)}, r ∈ ddR rs ↔ r ∈ rs
  | [] => Iff.rfl
  | q :: rs => by
    unfold ddR
    split
    · rename_i h
      rw [ddR_mem, List.mem_cons]
      exact ⟨.inr, fun z => z.elim (fun e => by subst e; simpa using h) id⟩
    · rw [List.mem_cons, List.mem_cons, ddR_mem]
omit [TheW] in
theorem ddR_nodup : ∀ (rs : List (List Int)), (ddR rs).Nodup
  | [] => .nil
  | q :: rs => by
    unfold ddR
    split
    · exact ddR_nodup rs
    · rename_i h
      refine List.nodup_cons.mpr ⟨fun z => h ?_, ddR_nodup rs⟩
      simpa using ddR_mem.mp z
def codeLe (a b : List Int) : Bool := decide (TS.code 64 a ≤ TS.code 64 b)
def setSortR (rs : List (List Int)) : List (List Int) := isort codeLe (ddR rs)
def rowD (r : List Int) : D := .tuple (r.map .int)
def rowsOk (rs : List (List Int)) : Bool := decide (rs.length < 64) && rs.all fun r => decide (1 ≤ r.length) && r.all (fun n => decide (0 ≤ n) && decide (n < 64)) && rs.all fun q => q.length == r.length
def gSetSort (d : D) : Option S := match seqOf d with
  | some ds => (match rowsOf ds with
    | some rs => if rowsOk rs = true then some (.dat (.list ((setSortR rs).map rowD))) else none
    | none => none)
  | none => none
omit [TheW] in
theorem code_inj : ∀ {a b : List Int}, a.length = b.length → TS.Bd 64 a → TS.Bd 64 b → TS.code 64 a = TS.code 64 b → a = b
  | [], [], _, _, _, _ => rfl
  | [], _ :: _, h, _, _, _ => by simp at h
  | _ :: _, [], h, _, _, _ => by simp at h
  | x :: a, y :: b, h, h1, h2, e => by
    have hl : a.length = b.length := by simpa using h
    rcases Int.lt_trichotomy x y with c | c | c
    · have := TS.code_lt hl h1.tail h2.tail c; omega
    · subst c
      have e2 : TS.code 64 a = TS.code 64 b := by
        have : x * 64 ^ a.length + TS.code 64 a = x * 64 ^ b.length + TS.code 64 b := e
        rw [hl] at this
        omega
      rw [code_inj hl h1.tail h2.tail e2]
    · have := TS.code_lt hl.symm h2.tail h1.tail c; omega
omit [TheW] in
theorem codeLe_trans (a b c : List Int) (h : codeLe a b = true) (h' : codeLe b c = true) : codeLe a c = true := by
  unfold codeLe at *
  simp at *
  omega
omit [TheW] in
theorem codeLe_total (a b : List Int) : (codeLe a b || codeLe b a) = true := by
  unfold codeLe
  simp
  omega
omit [TheW] in
theorem setSortR_eq (rs : List (List Int)) : setSortR rs = (ddR rs).mergeSort codeLe := isort_eq codeLe_trans codeLe_total _
omit [TheW] in
theorem setSortR_perm (rs : List (List Int)) : (setSortR rs).Perm (ddR rs) := by rw [setSortR_eq]; exact List.mergeSort_perm _ _
omit [TheW] in
theorem setSortR_mem {rs : List (List Int)} {r : List Int} : r ∈ setSortR rs ↔ r ∈ rs := (setSortR_perm rs).mem_iff.trans ddR_mem
omit [TheW] in
theorem setSortR_nodup (rs : List (List Int)) : (setSortR rs).Nodup := (setSortR_perm rs).nodup_iff.mpr (ddR_nodup rs)
omit [TheW] in
theorem setSortR_le (rs : List (List Int)) : (setSortR rs).Pairwise fun a b => TS.code 64 a ≤ TS.code 64 b := by rw [setSortR_eq]; exact (List.pairwise_mergeSort codeLe_trans codeLe_total (ddR rs)).imp fun h => by simpa [codeLe] using h
omit [TheW] in
theorem rowsOk_get {rs : List (List Int)} (h : rowsOk rs = true) : rs.length < 64 ∧ (∀ r ∈ rs, 1 ≤ r.length ∧ TS.Bd 64 r) ∧ ∀ r ∈ rs, ∀ q ∈ rs, q.length = r.length := by
  unfold rowsOk at h
  simp only [Bool.and_eq_true, decide_eq_true_eq, List.all_eq_true, beq_iff_eq] at h
  exact ⟨h.1, fun r hr => ⟨(h.2 r hr).1.1, fun m hm => (h.2 r hr).1.2 m hm⟩, fun r hr q hq => (h.2 r hr).2 q hq⟩
/-- what the model's sort leaves is that -/
theorem setSort_eq {ks L : List (List Int)} (ok : rowsOk ks = true) (hn : L.Nodup) (hp : L.Pairwise fun a b => TS.code 64 a ≤ TS.code 64 b) (hm : ∀ r, r ∈ L ↔ r ∈ ks) : L = setSortR ks := by
  obtain ⟨_, h1, h2⟩ := rowsOk_get ok
  refine List.Perm.eq_of_pairwise (le := fun a b => TS.code 64 a ≤ TS.code 64 b) (fun a b ha hb x y => ?_) hp (setSortR_le ks) ((List.perm_ext_iff_of_nodup hn (setSortR_nodup ks)).mpr fun r => (hm r).trans setSortR_mem.symm)
  have ha' := (hm a).mp ha
  have hb' := setSortR_mem.mp hb
  exact code_inj (h2 b hb' a ha') (h1 a ha').2 (h1 b hb').2 (by omega)
theorem rows_dps {K : PySem.W.Frag} {H : Hp} : ∀ {vs : List V} {ds : List D} {rs : List (List Int)}, DpAll K H vs ds → rowsOf ds = some rs → ∃ ks : List (Addr × List Int), vs = ks.map (fun p => V.ref p.1) ∧ rs = ks.map (·.2) ∧ ∀ p ∈ ks, SqT K H p.1 (p.2.map V.int)
  | _, _, _, .nil, e => by cases e; exact ⟨[], rfl, rfl, fun _ h => by simp at h⟩
  | _, _, _, .cons (ds := ds) h hs, e => by
    unfold rowsOf at e
    split at e
    · rename_i x xs e1 e2
      cases e
      obtain ⟨ks, k1, k2, k3⟩ := rows_dps hs e2
      unfold rowOf at e1
      split at e1
      · obtain ⟨a, ws, rfl, q1, q2⟩ := dp_tup h
        obtain ⟨rfl, _⟩ := ints_dps q2 e1
        refine ⟨(a, x) :: ks, by rw [k1]; rfl, by rw [k2]; rfl, fun p hp => ?_⟩
        rcases List.mem_cons.mp hp with rfl | hp
        · exact q1
        · exact k3 p hp
      · cases e1
    · cases e
/-- set(xs), xs a list or a tuple of tuples of ints -/
def rSetOfT2 (K : PySem.W.Frag) (P : Program) (w : World) : List V → Hp → VK → Prop := fun xs H Q => ∃ (l : Addr) (ks : List (Addr × List Int)), xs = [V.ref l] ∧ (SqL K H l (ks.map fun p => V.ref p.1) ∨ SqT K H l (ks.map fun p => V.ref p.1)) ∧ (∀ p ∈ ks, SqT K H p.1 (p.2.map V.int)) ∧ ks.length < 64 ∧
  ∀ a L, H a = none → (∀ p ∈ L, p ∈ ks) → (∀ p ∈ ks, p.2 ∈ L.map (·.2)) → Q (.ref a) (upd H a (SetTO P w a L))
end DL
namespace DLs
open PySem PySem.Spec PyProof.Rows L2
theorem cr_setOfT2 {X : Cx} (hc : X.calm = true) (hu : X.A.units + 64 < cLine) : CallR X (.type "set") (DL.rSetOfT2 X.K X.prog X.w) := by
  intro pins s σ H xs us Q I r h
  obtain ⟨l, ks, rfl, hl, hk, hf, q⟩ := h
  rw [Vals.ref1 r]
  have hn : H s.heap.objs.size = none := I.hok.fresh (Nat.le_refl _)
  rcases hl with hl | hl
  · obtain ⟨its, rv, pl, hz⟩ := I.list hl
    refine call_set_tups (P := X.prog) (w := X.w) ks (I.ok.hd hc) pl.isList (by simpa using refs_of_vals rv) (fun p hp => I.isT (hk p hp)) hf (by omega) fun h' tk L es ep t R g k => ?_
    refine ⟨.ref s.heap.objs.size, upd H s.heap.objs.size (SetTO X.prog X.w s.heap.objs.size L), I.laid (t' := tk) k (Nat.le_refl _) (setTO_new R.t0), rfl, q _ L hn (fun p hp => ?_) fun p hp => ?_⟩
    · exact List.mem_of_mem_take (g.sub p hp)
    · exact g.all p (by rw [List.take_length]; exact hp)
  · obtain ⟨its, rv, pl, hz⟩ := I.tuple hl
    refine set_of_tuple (P := X.prog) (w := X.w) ks (I.ok.hd hc) pl (by simpa using refs_of_vals rv) (fun p hp => I.isT (hk p hp)) hf (by omega) fun h' tk L es ep t R g k => ?_
    refine ⟨.ref s.heap.objs.size, upd H s.heap.objs.size (SetTO X.prog X.w s.heap.objs.size L), I.laid (t' := tk) k (Nat.le_refl _) (setTO_new R.t0), rfl, q _ L hn (fun p hp => ?_) fun p hp => ?_⟩
    · exact List.mem_of_mem_take (g.sub p hp)
    · exact g.all p (by rw [List.take_length]; exact hp)
end DLs
namespace DL
open PySem PySem.Spec L2
variable [TheW]
def mSS (f : EM) : EM := bindD f fun d => optS (gSetSort d)
theorem ints_map_dps {K : PySem.W.Frag} {H : Hp} : ∀ ns : List Int, DpAll K H (ns.map V.int) (ns.map PyData.int)
  | [] => .nil
  | n :: ns => .cons (.int n) (ints_map_dps ns)
theorem refs_dps {K : PySem.W.Frag} {H : Hp} : ∀ {L : List (Addr × List Int)}, (∀ p ∈ L, SqT K H p.1 (p.2.map V.int)) → DpAll K H (L.map fun p => V.ref p.1) ((L.map (·.2)).map rowD)
  | [], _ => .nil
  | p :: L, h => .cons (.tup (h p (by simp)) (ints_map_dps _)) (refs_dps fun q hq => h q (by simp [hq]))
section
variable {X : Cx} {E : XK} {e : Expr} {fe : EM} {pos : Pos}
theorem pd_sortset {p1 p2 pos2 : Pos} (hc : X.calm = true) (hu : X.A.units + 64 < cLine) (hg : Gl X "sorted") (hm : X.mg "sorted" = none) (hg2 : Gl X "set") (hm2 : X.mg "set" = none) (he : PD X E e fe)
    (hs1 : starEach [e] X.env = (false, eval e X.env) :: starEach [] X.env := by rfl) (hpl : (backTo pos2 (starEach ([] : List Expr) X.env)).any (·.1) = false := by rfl)
    (hs2 : starEach [.Call (.Name "set" p2) [e] [] pos2] X.env = (false, eval (.Call (.Name "set" p2) [e] [] pos2) X.env) :: starEach [] X.env := by rfl) (hpl2 : (backTo pos (starEach ([] : List Expr) X.env)).any (·.1) = false := by rfl) :
    PD X E (.Call (.Name "sorted" p1) [.Call (.Name "set" p2) [e] [] pos2] [] pos) (mSS fe) := by
  have h1 := pe_callTy (p := p2) (DLs.cr_setOfT2 hc hu) hg2 hm2 PyProof.Rows.boot_set (pa_cons he pa_nil hs1) (by decide) (by decide) hs1 hpl
  have h2 := pe_callB (p := p1) (cr_sortedT hc) hg hm (by rfl) (pa_cons h1 pa_nil hs2) (by decide) (by decide) hs2 hpl2
  refine PE.imp h2 fun σ H Q h => ?_
  obtain ⟨P, o, ρ, res, a, e, p⟩ := h
  refine tE_mono (fun x H1 h => ?_) (bindD_go a .refl e p)
  obtain ⟨ρ1, d, _, c1, a1, k, h⟩ := h
  obtain ⟨z, hz, rfl⟩ := optS_some h
  unfold gSetSort at hz
  split at hz
  · rename_i ds hds
    split at hz
    · rename_i rs hrs
      split at hz
      · rename_i ok
        cases hz
        obtain ⟨l, vs, rfl, hl, kd⟩ := seq_dp k hds
        obtain ⟨ks, rfl, rfl, hk⟩ := rows_dps kd hrs
        obtain ⟨o1, o2, o3⟩ := rowsOk_get ok
        refine ⟨l, ks, rfl, hl.elim (fun z => .inl (ex_l ex_hd z)) (fun z => .inr (ex_t ex_hd z)), fun p hp => ex_t ex_hd (hk p hp), by simpa using o1, fun a L ha hL1 hL2 => ?_⟩
        have hL : ∀ p ∈ L, SqT X.K (hd (hid P o) H1) p.1 (p.2.map V.int) := fun p hp => hk p (hL1 p hp)
        have hmem : ∀ r, r ∈ L.map (·.2) ↔ r ∈ ks.map (·.2) := fun r => by
          constructor
          · intro h
            obtain ⟨p, hp, rfl⟩ := List.mem_map.mp h
            exact List.mem_map.mpr ⟨p, hL1 p hp, rfl⟩
          · intro h
            obtain ⟨p, hp, rfl⟩ := List.mem_map.mp h
            exact hL2 p hp
        have ex1 : Ex H1 (upd H1 a (SetTO X.prog X.w a L)) := Ex.new ha
        have hdim : ∃ n, 1 ≤ n ∧ ∀ p ∈ L, p.2.length = n ∧ TS.Bd 64 p.2 := by
          cases hks : L with
          | nil => exact ⟨1, Nat.le_refl _, fun p hp => by simp at hp⟩
          | cons q L' =>
            have hq : q.2 ∈ ks.map (·.2) := List.mem_map.mpr ⟨q, hL1 q (by rw [hks]; simp), rfl⟩
            refine ⟨q.2.length, (o2 _ hq).1, fun p hp => ?_⟩
            have hp' : p.2 ∈ ks.map (·.2) := List.mem_map.mpr ⟨p, hL1 p (by rw [hks]; exact hp), rfl⟩
            exact ⟨o3 _ hq _ hp', (o2 _ hp').2⟩
        obtain ⟨n, hn1, hn2⟩ := hdim
        refine ⟨a, L, n, 64, rfl, by simp [upd], fun p hp => ex_t ex1 (ex_t ex_hd (hL p hp)), hn1, hn2, fun L' q pm nd _ pw hq => ?_⟩
        have hL' : L'.map (·.2) = setSortR (ks.map (·.2)) := setSort_eq ok nd (List.pairwise_map.mpr pw) fun r => by rw [← hmem r]; exact (pm.map (·.2)).mem_iff
        have hdp := refs_dps (L := L') fun p hp => hL p (pm.mem_iff.mp hp)
        rw [hL'] at hdp
        have c2 : Chg o H1 (upd (upd H1 a (SetTO X.prog X.w a L)) q (.lst (L'.map fun p => V.ref p.1))) := .of (ex1.trans (.new hq))
        have a2 := a1.ext (ex1.trans (Ex.new (o := .lst (L'.map fun p => V.ref p.1)) hq))
        refine p _ _ (c1.trans c2) ⟨a2, new_lst (fun b hb => ?_) hq (dps_mono (ex_hd_hd ex1) hdp)⟩
        obtain ⟨u, hu⟩ := a1.domH hb
        exact ⟨u, ex1 b u hu⟩
      · cases hz
    · cases hz
  · cases hz
end
end DL

namespace DL
open PySem PySem.Spec L2
variable [TheW]
/-! ### several values at once -/
/-- values held: data, new own objects -/
inductive Hld (K : PySem.W.Frag) (G H : Hp) : List V → List S → List Addr → Prop where
  | nil : Hld K G H [] [] []
  | dat {v : V} {d : D} {vs : List V} {ss : List S} {as : List Addr} : Dp K G v d → Hld K G H vs ss as → Hld K G H (v :: vs) (.dat d :: ss) as
  | own {a : Addr} {s : S} {vs : List V} {ss : List S} {as : List Addr} : OwnOk K G H a s → a ∉ as → Hld K G H vs ss as → Hld K G H (.ref a :: vs) (s :: ss) (a :: as)
theorem Hld.mono {K : PySem.W.Frag} {G G' H : Hp} (e : Ex G G') : ∀ {vs : List V} {ss : List S} {as : List Addr}, Hld K G H vs ss as → Hld K G' H vs ss as
  | _, _, _, .nil => .nil
  | _, _, _, .dat h r => .dat (dp_mono e h) (r.mono e)
  | _, _, _, .own h n r => .own (h.imp e fun _ k => k) n (r.mono e)
abbrev plusL (P : Addr → Prop) (as : List Addr) : Addr → Prop := fun b => P b ∨ b ∈ as
theorem plusL_cons (P : Addr → Prop) (a : Addr) (as : List Addr) : plusL (plusA P a) as = plusL P (a :: as) := by
  funext b
  simp only [plusL, plusA, List.mem_cons, eq_iff_iff]
  constructor
  · rintro ((h | h) | h)
    · exact .inl h
    · exact .inr (.inl h)
    · exact .inr (.inr h)
  · rintro (h | h | h)
    · exact .inl (.inl h)
    · exact .inl (.inr h)
    · exact .inr h
theorem plusA_L (P : Addr → Prop) (a : Addr) (as : List Addr) : plusA (plusL P as) a = plusL P (a :: as) := by
  funext b
  simp only [plusL, plusA, List.mem_cons, eq_iff_iff]
  constructor
  · rintro ((h | h) | h)
    · exact .inl h
    · exact .inr (.inr h)
    · exact .inr (.inl h)
  · rintro (h | h | h)
    · exact .inl (.inl h)
    · exact .inr h
    · exact .inl (.inr h)
theorem plusL_nil (P : Addr → Prop) : plusL P [] = P := by
  funext b
  simp [plusL]
abbrev LM := Env → Option (Sum (List S) (Str × Option D) × Env)
def parE : List EM → LM
  | [], ρ => some (.inl [], ρ)
  | f :: fs, ρ => match f ρ with
    | some (.ok s, ρ1) => (match parE fs ρ1 with
      | some (.inl ss, ρ2) => some (.inl (s :: ss), ρ2)
      | some (.inr x, ρ2) => some (.inr x, ρ2)
      | none => none)
    | some (.ex c p, ρ1) => some (.inr (c, p), ρ1)
    | none => none
def setAll (np : Nat) : List Nat → List S → Env → Option Env
  | [], [], ρ => some ρ
  | i :: is, s :: ss, ρ => if okset np i ρ = true then setAll np is ss (ρ.set i (some s)) else none
  | _, _, _ => none
def setV : List Nat → List V → St → St
  | i :: is, v :: vs, σ => setV is vs (σ.set i (some v))
  | _, _, σ => σ
def parS (np : Nat) (is : List Nat) (fs : List EM) : SM := fun ρ => match parE fs ρ with
  | some (.inl ss, ρ1) => (match setAll np is ss ρ1 with
    | some ρ2 => some (.nx ρ2)
    | none => none)
  | some (.inr (c, p), ρ1) => some (.ex c p ρ1)
  | none => none
def tAll (K : PySem.W.Frag) (mg : Str → Option Value) (E : XK) : List EM → TA
  | [] => tNil
  | f :: fs => tCons (tE K mg E f) (tAll K mg E fs)
theorem XR.up {K : PySem.W.Frag} {mg : Str → Option Value} {G G' H : Hp} {c : Str} {p : Option D} {cls : Value} {dx : Option Addr} (e : Ex G G') (h : XR K mg G H c p cls dx) : XR K mg G' H c p cls dx := by
  obtain ⟨C, h1, h2, h3⟩ := h
  refine ⟨C, h1, h2, ?_⟩
  cases p with
  | none => exact h3
  | some d =>
    obtain ⟨a, f, v, e1, e2, e3⟩ := h3
    exact ⟨a, f, v, e1, e2, dp_mono e e3⟩
theorem par_go {K : PySem.W.Frag} {mg : Str → Option Value} {E : XK} {o : Ow} {σ : St} {Q : List V → Hp → Prop} : ∀ (fs : List EM) {P : Addr → Prop} {ρ ρ' : Env} {H : Hp} {res : Sum (List S) (Str × Option D)}, At K P o ρ σ H → parE fs ρ = some (res, ρ') →
    (match res with
    | .inl ss => ∀ vs as H', Chg o H H' → At K (plusL P as) o ρ' σ H' → Hld K (hd (hid (plusL P as) o) H') H' vs ss as → (∀ a ∈ as, H a = none ∧ ¬ hid P o a) → Q vs H'
    | .inr (c, p) => ExPost K mg E P o ρ' σ H c p) → tAll K mg E fs σ H Q
  | [], P, ρ, ρ', H, res, a, e, p => by
    cases e
    refine p [] [] H .refl ?_ .nil fun a h => by simp at h
    rw [plusL_nil]; exact a
  | f :: fs, P, ρ, ρ', H, res, a, e, p => by
    unfold parE at e
    cases hf : f ρ with
    | none => rw [hf] at e; cases e
    | some r1 =>
      obtain ⟨r, ρ1⟩ := r1
      rw [hf] at e
      refine ⟨P, o, ρ, _, a, hf, ?_⟩
      cases r with
      | ex n pl =>
        cases e
        exact p
      | ok s =>
        intro x H1 c1 ok
        simp only at e
        cases hr : parE fs ρ1 with
        | none => rw [hr] at e; cases e
        | some r2 =>
          obtain ⟨r2, ρ2⟩ := r2
          rw [hr] at e
          cases r2 with
          | inr y =>
            cases e
            obtain ⟨c, pl⟩ := y
            have lift : ∀ P', (∀ b, P b → P' b) → ExPost K mg E P' o ρ' σ H1 c pl := fun P' hP cls dx H' c2 a2 xr => p cls dx H' (c1.trans c2) (a2.less hP) (xr.up (ex_hd_le fun b z => z.elim (fun z => .inl (hP b z)) .inr))
            have own : (∃ b, x = .ref b ∧ H b = none ∧ ¬ hid P o b ∧ At K (plusA P b) o ρ1 σ H1 ∧ OwnOk K (hd (hid (plusA P b) o) H1) H1 b s) → tAll K mg E fs σ H1 fun xs H2 => Q (x :: xs) H2 := by
              rintro ⟨b, rfl, h2, h3, h4, h5⟩
              exact par_go fs h4 hr (lift (plusA P b) fun _ z => Or.inl z)
            cases s with
            | dat d => exact par_go fs ok.1 hr (lift P fun _ z => z)
            | own xs => exact own ok
            | odk xs => exact own ok
            | odt xs => exact own ok
            | odl xs => exact own ok
          | inl ss =>
            cases e
            have own : (∃ b, x = .ref b ∧ H b = none ∧ ¬ hid P o b ∧ At K (plusA P b) o ρ1 σ H1 ∧ OwnOk K (hd (hid (plusA P b) o) H1) H1 b s) → tAll K mg E fs σ H1 fun xs H2 => Q (x :: xs) H2 := by
              rintro ⟨b, rfl, h2, h3, h4, h5⟩
              refine par_go fs h4 hr fun vs as H2 c2 a2 k2 hn => ?_
              have nb : b ∉ as := fun z => (hn b z).2 (.inl (.inr rfl))
              have nob : ¬ Own o b := fun z => h3 (.inr z)
              have ex : Ex (hd (hid (plusA P b) o) H1) (hd (hid (plusL (plusA P b) as) o) H2) := fun c u hc => by
                obtain ⟨n, hc⟩ := hd_some.mp hc
                refine hd_some.mpr ⟨fun z => ?_, c2.keep c u hc fun z => n (.inr z)⟩
                rcases z with (z | z) | z
                · exact n (.inl z)
                · rw [(hn c z).1] at hc; cases hc
                · exact n (.inr z)
              have k1 := h5.imp ex fun u hu => c2.keep b u hu nob
              rw [plusL_cons] at a2 k2 k1
              refine p (.ref b :: vs) (b :: as) H2 (c1.trans c2) a2 (.own k1 nb k2) fun c hc => ?_
              rcases List.mem_cons.mp hc with rfl | hc
              · exact ⟨h2, h3⟩
              · exact ⟨c1.back (hn c hc).1, fun z => (hn c hc).2 (z.elim (fun z => .inl (.inl z)) .inr)⟩
            cases s with
            | dat d =>
              obtain ⟨a1, dx⟩ := ok
              refine par_go fs a1 hr fun vs as H2 c2 a2 k2 hn => ?_
              have ex : Ex (hd (hid P o) H1) (hd (hid (plusL P as) o) H2) := fun c u hc => by
                obtain ⟨n, hc⟩ := hd_some.mp hc
                refine hd_some.mpr ⟨fun z => ?_, c2.keep c u hc fun z => n (.inr z)⟩
                rcases z with (z | z) | z
                · exact n (.inl z)
                · rw [(hn c z).1] at hc; cases hc
                · exact n (.inr z)
              exact p (x :: vs) as H2 (c1.trans c2) a2 (.dat (dp_mono ex dx) k2) fun c hc => ⟨c1.back (hn c hc).1, (hn c hc).2⟩
            | own xs => exact own ok
            | odk xs => exact own ok
            | odt xs => exact own ok
            | odl xs => exact own ok
theorem set_go {K : PySem.W.Frag} {np : Nat} {P : Addr → Prop} {H0 H : Hp} : ∀ (is : List Nat) {o : Ow} {ρ ρ' : Env} {σ : St} {vs : List V} {ss : List S} {as : List Addr}, At K (plusL P as) o ρ σ H → Hld K (hd (hid (plusL P as) o) H) H vs ss as → (∀ a ∈ as, H0 a = none ∧ ¬ hid P o a) →
    setAll np is ss ρ = some ρ' → ∃ o', (∀ a, Own o' a → Own o a ∨ H0 a = none) ∧ (∀ i a, (i < np ∨ Lk H a) → o i = some a → o' i = some a) ∧ At K P o' ρ' (setV is vs σ) H
  | [], o, ρ, ρ', σ, vs, ss, as, a, k, hn, e => by
    cases k with
    | nil =>
      cases e
      rw [plusL_nil] at a
      exact ⟨o, fun _ => .inl, fun _ _ _ h => h, a⟩
    | dat _ _ => cases e
    | own _ _ _ => cases e
  | i :: is, o, ρ, ρ', σ, vs, ss, as, a, k, hn, e => by
    cases k with
    | nil => cases e
    | @dat v d vs ss as h k =>
      unfold setAll at e
      split at e
      · rename_i hok
        have a1 := a.setD h (okset_lt hok)
        have c := chgS_clr a hok
        have ex : Ex (hd (hid (plusL P as) o) H) (hd (hid (plusL P as) (clr o i)) H) := ex_hd_le fun b z => z.elim .inl fun z => .inr (own_clr z)
        obtain ⟨o', h1, h2, h3⟩ := set_go (H0 := H0) is a1 (k.mono ex) (fun b hb => ⟨(hn b hb).1, fun z => (hn b hb).2 (z.elim .inl fun z => .inr (own_clr z))⟩) e
        exact ⟨o', fun b hb => (h1 b hb).elim (fun z => .inl (own_clr z)) .inr, fun j b hj q => h2 j b hj (c.par j b hj q), h3⟩
      · cases e
    | @own b s vs ss as h nb k =>
      unfold setAll at e
      split at e
      · rename_i hok
        rw [← plusA_L] at a h k
        have nh : ¬ hid (plusL P as) o b := fun z => by
          rcases z with (z | z) | z
          · exact (hn b (by simp)).2 (.inl z)
          · exact nb z
          · exact (hn b (by simp)).2 (.inr z)
        have a1 := a.setO nh h (okset_lt hok)
        have ex : Ex (hd (hid (plusA (plusL P as) b) o) H) (hd (hid (plusL P as) (ups o i b)) H) := ex_hd_le fun c z => by
          rcases z with z | ⟨j, z⟩
          · exact .inl (.inl z)
          · unfold ups at z
            split at z
            · cases z; exact .inl (.inr rfl)
            · exact .inr ⟨j, z⟩
        have own' : ∀ c, Own (ups o i b) c → Own o c ∨ c = b := fun c z => by
          obtain ⟨j, z⟩ := z
          unfold ups at z
          split at z
          · cases z; exact .inr rfl
          · exact .inl ⟨j, z⟩
        obtain ⟨o', h1, h2, h3⟩ := set_go (H0 := H0) is a1 (k.mono ex) (fun c hc => ⟨(hn c (by simp [hc])).1, fun z => by
          rcases z with z | z
          · exact (hn c (by simp [hc])).2 (.inl z)
          · rcases own' c z with z | z
            · exact (hn c (by simp [hc])).2 (.inr z)
            · subst z; exact nb hc⟩) e
        refine ⟨o', fun c hc => ?_, fun j c hj q => h2 j c hj ?_, h3⟩
        · rcases h1 c hc with z | z
          · rcases own' c z with z | z
            · exact .inl z
            · subst z; exact .inr (hn c (by simp)).1
          · exact .inr z
        · unfold ups
          split
          · rename_i ej
            subst ej
            exact (okset_par a hok hj q).elim
          · exact q
      · cases e
theorem parS_go {K : PySem.W.Frag} {mg : Str → Option Value} {E : XK} {np : Nat} {is : List Nat} {fs : List EM} {σ : St} {H : Hp} {D : Ends} (h : tS K mg E np (parS np is fs) D σ H) : tAll K mg E fs σ H fun vs H1 => vs.length = is.length ∧ D.nx (setV is vs σ) H1 := by
  obtain ⟨P, o, ρ, fl, a, e, p⟩ := h
  unfold parS at e
  cases hr : parE fs ρ with
  | none => rw [hr] at e; cases e
  | some r =>
    obtain ⟨res, ρ1⟩ := r
    rw [hr] at e
    refine par_go fs a hr ?_
    cases res with
    | inr y =>
      obtain ⟨c, pl⟩ := y
      cases e
      exact p.exp rfl
    | inl ss =>
      intro vs as H1 c1 a1 k1 hn
      simp only at e
      cases hs : setAll np is ss ρ1 with
      | none => rw [hs] at e; cases e
      | some ρ2 =>
        rw [hs] at e
        cases e
        obtain ⟨o', h1, h2, h3⟩ := set_go (H0 := H) is a1 k1 hn hs
        have hl : ∀ (is : List Nat) {ss : List S} {vs : List V} {as : List Addr} {G : Hp} {ρ ρ' : Env}, Hld K G H1 vs ss as → setAll np is ss ρ = some ρ' → vs.length = is.length := by
          intro is
          induction is with
          | nil => intro ss vs as G ρ ρ' k e; cases k <;> first | rfl | cases e
          | cons i is ih =>
            intro ss vs as G ρ ρ' k e
            cases k with
            | nil => cases e
            | dat _ k =>
              unfold setAll at e
              split at e
              · simp [ih k e]
              · cases e
            | own _ _ k =>
              unfold setAll at e
              split at e
              · simp [ih k e]
              · cases e
        exact ⟨hl is k1 hs, p o' _ H1 ⟨c1.keep, c1.dom, h1, fun j b hj q => h2 j b (hj.imp id fun ⟨od, u, z⟩ => ⟨od, u, c1.frz b od u z⟩) q, c1.frz⟩ h3⟩
section
variable {X : Cx} {E : XK} {np i j l : Nat} {x y z : Str} {a b c : Expr} {fa fb fc : EM} {px py pz pt pos : Pos} {kt k2 pt2}
theorem pds_par (hc : X.calm = true) (hN : X.N.Nodup) (hi : X.N[i]? = some x) (hj : X.N[j]? = some y) (hij : i ≠ j)
    (hx : X.env.scope.names.lookup x = some .local) (hy : X.env.scope.names.lookup y = some .local) (ha : PD X E a fa) (hb : PD X E b fb)
    (hw : swappedStores [.Tuple [.Name x px, .Name y py] kt pt] (.Tuple [a, b] k2 pt2) X.env = pure (some [x, y]))
    (hs : swapsWithSole [.Tuple [.Name x px, .Name y py] kt pt] (.Tuple [a, b] k2 pt2) pos.line X.env = pure false := by rfl)
    (hs1 : starEach [a, b] X.env = (false, eval a X.env) :: starEach [b] X.env := by rfl) (hs2 : starEach [b] X.env = (false, eval b X.env) :: starEach [] X.env := by rfl) :
    PDS X E np (.Assign [.Tuple [.Name x px, .Name y py] kt pt] (.Tuple [a, b] k2 pt2) pos) (parS np [i, j] [fa, fb]) := PS.imp (ps_par hc hN hi hj hij hx hy (pa_cons ha (pa_cons hb pa_nil hs2) hs1) hw hs) fun D σ H h => by
  have := parS_go h
  refine tE_mono (fun v H1 h => tE_mono (fun w H2 h => ?_) h) this
  exact ⟨v, w, rfl, h.2⟩
theorem pds_par3 (hc : X.calm = true) (hN : X.N.Nodup) (hi : X.N[i]? = some x) (hj : X.N[j]? = some y) (hl : X.N[l]? = some z) (hij : i ≠ j) (hil : i ≠ l) (hjl : j ≠ l)
    (hx : X.env.scope.names.lookup x = some .local) (hy : X.env.scope.names.lookup y = some .local) (hz : X.env.scope.names.lookup z = some .local) (ha : PD X E a fa) (hb : PD X E b fb) (hcc : PD X E c fc)
    (hw : swappedStores [.Tuple [.Name x px, .Name y py, .Name z pz] kt pt] (.Tuple [a, b, c] k2 pt2) X.env = pure (some [x, y, z]))
    (hs : swapsWithSole [.Tuple [.Name x px, .Name y py, .Name z pz] kt pt] (.Tuple [a, b, c] k2 pt2) pos.line X.env = pure false := by rfl)
    (hs1 : starEach [a, b, c] X.env = (false, eval a X.env) :: starEach [b, c] X.env := by rfl) (hs2 : starEach [b, c] X.env = (false, eval b X.env) :: starEach [c] X.env := by rfl) (hs3 : starEach [c] X.env = (false, eval c X.env) :: starEach [] X.env := by rfl) :
    PDS X E np (.Assign [.Tuple [.Name x px, .Name y py, .Name z pz] kt pt] (.Tuple [a, b, c] k2 pt2) pos) (parS np [i, j, l] [fa, fb, fc]) := PS.imp (ps_par3 hc hN hi hj hl hij hil hjl hx hy hz (pa_cons ha (pa_cons hb (pa_cons hcc pa_nil hs3) hs2) hs1) hw hs) fun D σ H h => by
  have := parS_go h
  refine tE_mono (fun u H1 h => tE_mono (fun v H2 h => tE_mono (fun w H3 h => ?_) h) h) this
  exact ⟨u, v, w, rfl, h.2⟩
end
end DL

namespace DL
open PySem PySem.Spec L2
variable [TheW]
/-! ### short words for derivations -/
/-- the built-ins' names stand for the built-ins -/
structure Bi (mg : Str → Option Value) : Prop where
  all : mg "all" = none
  any : mg "any" = none
  enumerate : mg "enumerate" = none
  int : mg "int" = none
  isinstance : mg "isinstance" = none
  len : mg "len" = none
  list : mg "list" = none
  max : mg "max" = none
  range : mg "range" = none
  set : mg "set" = none
  sorted : mg "sorted" = none
  str : mg "str" = none
  tuple : mg "tuple" = none
  zip : mg "zip" = none
  bool : mg "bool" = none
section
variable {X : Cx} {E : XK} {k : Nat} {a b c e : Expr} {fa fb fc fe : EM} {pos p p2 : Pos}
theorem pv (i : Nat) {x : Str} (hN : X.N[i]? = some x := by rfl) (hv : Vis X.env.scope x := by first | exact .inl rfl | exact .inr (.inl rfl) | exact .inr (.inr rfl)) (hd : (x == ("__debug__" : Str)) = false := by decide) (hcd : (x == ("__classdict__" : Str)) = false := by decide) : PD X E (.Name x pos) (mV i) := pd_var hN hv hd hcd
theorem p_add (ha : PD X E a fa) (hb : PD X E b fb) : PD X E (.BinOp a .Add b pos) (op2 gAdd fa fb) := pd_op op_add4 add_ok ha hb
theorem p_sub (ha : PD X E a fa) (hb : PD X E b fb) : PD X E (.BinOp a .Sub b pos) (op2 gSub fa fb) := pd_op op_sub sub_ok ha hb
theorem p_mul (ha : PD X E a fa) (hb : PD X E b fb) : PD X E (.BinOp a .Mult b pos) (op2 gMul fa fb) := pd_op op_mul mul_ok ha hb
theorem p_fdiv (ha : PD X E a fa) (hb : PD X E b fb) : PD X E (.BinOp a .FloorDiv b pos) (op2 gFdiv fa fb) := pd_op op_fdivN fdiv_ok ha hb
theorem p_mod (ha : PD X E a fa) (hb : PD X E b fb) : PD X E (.BinOp a .Mod b pos) (op2 gMod fa fb) := pd_op op_modN mod_ok ha hb
theorem p_pow (ha : PD X E a fa) (hb : PD X E b fb) : PD X E (.BinOp a .Pow b pos) (op2 gPow fa fb) := pd_op op_pow pow_ok ha hb
def gNeg : D → Option D
  | .int i => some (.int (-i))
  | _ => none
theorem neg_ok {K : PySem.W.Frag} : UnD K (rU fun i => .int (-i)) gNeg := by
  intro P H x d z k hg Q q
  unfold gNeg at hg
  split at hg
  · cases hg
    rw [dp_int k]
    exact ⟨_, rfl, q _ _ (Ex.refl _) (.int _)⟩
  · cases hg
theorem p_neg (ha : PD X E a fa) : PD X E (.UnaryOp .USub a pos) (op1 gNeg fa) := pd_un un_neg neg_ok ha
theorem p_ix (ha : PD X E a fa) (hb : PD X E b fb) (hs : PlainIx b := by intro _ _; rfl) : PD X E (.Subscript a b pos) (op2 gIx fa fb) := pd_ix ix2 ix_ok ha hb hs
theorem p_sl {lo hi : Option Expr} {fl fh : Env → Option (Sum (Option Int) (Str × Option D) × Env)} (he : PD X E e fe) (hl : PDO X E lo fl) (hu : PDO X E hi fh) : PD X E (.Subscript e (.Slice lo hi none p2) pos) (mSl gSl fe fl fh) := pd_slice sl2 sl_ok he hl hu
/- comparisons: values v_, tests t_ -/
theorem v_eq (hr : Room k X.A) (ha : PD X E a fa) (hb : PD X E b fb) (hm : behindInMarks .Eq b = false := by with_unfolding_all rfl) : PD X E (.Compare a [.Eq] [b] pos) (op2 gEq fa fb) := pd_cmp (op_eq2 hr.units) eq_ok ha hb hm
theorem t_eq (hr : Room k X.A) (ha : PD X E a fa) (hb : PD X E b fb) (hm : behindInMarks .Eq b = false := by with_unfolding_all rfl) : PDT X E (.Compare a [.Eq] [b] pos) (op2 gEq fa fb) := pdt_cmp (op_eq2 hr.units) eq_ok ha hb hm
theorem v_ne (hr : Room k X.A) (ha : PD X E a fa) (hb : PD X E b fb) (hm : behindInMarks .NotEq b = false := by with_unfolding_all rfl) : PD X E (.Compare a [.NotEq] [b] pos) (op2 gNe fa fb) := pd_cmp (op_ne2 hr.units) ne_ok ha hb hm
theorem t_ne (hr : Room k X.A) (ha : PD X E a fa) (hb : PD X E b fb) (hm : behindInMarks .NotEq b = false := by with_unfolding_all rfl) : PDT X E (.Compare a [.NotEq] [b] pos) (op2 gNe fa fb) := pdt_cmp (op_ne2 hr.units) ne_ok ha hb hm
theorem v_lt (hr : Room k X.A) (ha : PD X E a fa) (hb : PD X E b fb) (hm : behindInMarks .Lt b = false := by with_unfolding_all rfl) : PD X E (.Compare a [.Lt] [b] pos) (op2 gLt fa fb) := pd_cmp (op_lt2 hr.units0) lt_ok ha hb hm
theorem t_lt (hr : Room k X.A) (ha : PD X E a fa) (hb : PD X E b fb) (hm : behindInMarks .Lt b = false := by with_unfolding_all rfl) : PDT X E (.Compare a [.Lt] [b] pos) (op2 gLt fa fb) := pdt_cmp (op_lt2 hr.units0) lt_ok ha hb hm
theorem v_le (ha : PD X E a fa) (hb : PD X E b fb) (hm : behindInMarks .LtE b = false := by with_unfolding_all rfl) : PD X E (.Compare a [.LtE] [b] pos) (op2 gLe fa fb) := pd_cmp op_le gB_ok ha hb hm
theorem t_le (ha : PD X E a fa) (hb : PD X E b fb) (hm : behindInMarks .LtE b = false := by with_unfolding_all rfl) : PDT X E (.Compare a [.LtE] [b] pos) (op2 gLe fa fb) := pdt_cmp op_le gB_ok ha hb hm
theorem v_gt (ha : PD X E a fa) (hb : PD X E b fb) (hm : behindInMarks .Gt b = false := by with_unfolding_all rfl) : PD X E (.Compare a [.Gt] [b] pos) (op2 gGt fa fb) := pd_cmp op_gt gB_ok ha hb hm
theorem t_gt (ha : PD X E a fa) (hb : PD X E b fb) (hm : behindInMarks .Gt b = false := by with_unfolding_all rfl) : PDT X E (.Compare a [.Gt] [b] pos) (op2 gGt fa fb) := pdt_cmp op_gt gB_ok ha hb hm
theorem v_ge (ha : PD X E a fa) (hb : PD X E b fb) (hm : behindInMarks .GtE b = false := by with_unfolding_all rfl) : PD X E (.Compare a [.GtE] [b] pos) (op2 gGe fa fb) := pd_cmp op_ge gB_ok ha hb hm
theorem t_ge (ha : PD X E a fa) (hb : PD X E b fb) (hm : behindInMarks .GtE b = false := by with_unfolding_all rfl) : PDT X E (.Compare a [.GtE] [b] pos) (op2 gGe fa fb) := pdt_cmp op_ge gB_ok ha hb hm
theorem units65 (hr : Room k X.A) : X.A.units + 65 < cLine := by have := hr.un; omega
theorem units110 (hr : Room k X.A) : X.A.units + 110 < cLine := by have := hr.un; omega
theorem v_in (hr : Room k X.A) (ha : PD X E a fa) (hb : PD X E b fb) (hm : behindInMarks .In b = false := by with_unfolding_all rfl) : PD X E (.Compare a [.In] [b] pos) (op2 (gIn false) fa fb) := pd_cmp (op_in2 (units65 hr)) (in_ok false) ha hb hm
theorem t_in (hr : Room k X.A) (ha : PD X E a fa) (hb : PD X E b fb) (hm : behindInMarks .In b = false := by with_unfolding_all rfl) : PDT X E (.Compare a [.In] [b] pos) (op2 (gIn false) fa fb) := pdt_cmp (op_in2 (units65 hr)) (in_ok false) ha hb hm
theorem v_notin (hr : Room k X.A) (ha : PD X E a fa) (hb : PD X E b fb) (hm : behindInMarks .NotIn b = false := by with_unfolding_all rfl) : PD X E (.Compare a [.NotIn] [b] pos) (op2 (gIn true) fa fb) := pd_cmp (op_notIn2 (units65 hr)) (in_ok true) ha hb hm
theorem t_notin (hr : Room k X.A) (ha : PD X E a fa) (hb : PD X E b fb) (hm : behindInMarks .NotIn b = false := by with_unfolding_all rfl) : PDT X E (.Compare a [.NotIn] [b] pos) (op2 (gIn true) fa fb) := pdt_cmp (op_notIn2 (units65 hr)) (in_ok true) ha hb hm
theorem v_is (ha : PD X E a fa) (hb : PD X E b fb) (hm : behindInMarks .Is b = false := by with_unfolding_all rfl) : PD X E (.Compare a [.Is] [b] pos) (op2 gIsN fa fb) := pd_cmp op_isN isN_ok ha hb hm
theorem t_is (ha : PD X E a fa) (hb : PD X E b fb) (hm : behindInMarks .Is b = false := by with_unfolding_all rfl) : PDT X E (.Compare a [.Is] [b] pos) (op2 gIsN fa fb) := pdt_cmp op_isN isN_ok ha hb hm
theorem v_isnot (ha : PD X E a fa) (hb : PD X E b fb) (hm : behindInMarks .IsNot b = false := by with_unfolding_all rfl) : PD X E (.Compare a [.IsNot] [b] pos) (op2 gIsNotN fa fb) := pd_cmp op_notN isNotN_ok ha hb hm
theorem t_isnot (ha : PD X E a fa) (hb : PD X E b fb) (hm : behindInMarks .IsNot b = false := by with_unfolding_all rfl) : PDT X E (.Compare a [.IsNot] [b] pos) (op2 gIsNotN fa fb) := pdt_cmp op_notN isNotN_ok ha hb hm
/- chains of ints -/
theorem v_lele (ha : PD X E a fa) (hb : PD X E b fb) (hc : PD X E c fc) (hm : lastMarks [.LtE, .LtE] [b, c] = false := by with_unfolding_all rfl) : PD X E (.Compare a [.LtE, .LtE] [b, c] pos) (mChain gLe gLe fa fb fc) := pd_chain op_le gB_ok op_le gB_ok ha hb hc hm
theorem t_lele (ha : PD X E a fa) (hb : PD X E b fb) (hc : PD X E c fc) (hm : lastMarks [.LtE, .LtE] [b, c] = false := by with_unfolding_all rfl) : PDT X E (.Compare a [.LtE, .LtE] [b, c] pos) (mChain gLe gLe fa fb fc) := pdt_chain op_le gB_ok op_le gB_ok ha hb hc hm
theorem v_lelt (ha : PD X E a fa) (hb : PD X E b fb) (hc : PD X E c fc) (hm : lastMarks [.LtE, .Lt] [b, c] = false := by with_unfolding_all rfl) : PD X E (.Compare a [.LtE, .Lt] [b, c] pos) (mChain gLe gLtI fa fb fc) := pd_chain op_le gB_ok op_lt gB_ok ha hb hc hm
theorem t_lelt (ha : PD X E a fa) (hb : PD X E b fb) (hc : PD X E c fc) (hm : lastMarks [.LtE, .Lt] [b, c] = false := by with_unfolding_all rfl) : PDT X E (.Compare a [.LtE, .Lt] [b, c] pos) (mChain gLe gLtI fa fb fc) := pdt_chain op_le gB_ok op_lt gB_ok ha hb hc hm
/- built-ins -/
theorem p_len (B : Bi X.mg) (he : PD X E e fe) (hg : Gl X "len" := by rfl) (hs : starEach [e] X.env = (false, eval e X.env) :: starEach [] X.env := by rfl) (hpl : (backTo pos (starEach ([] : List Expr) X.env)).any (·.1) = false := by rfl) : PD X E (.Call (.Name "len" p) [e] [] pos) (mCB gLen (mAc fe mA0)) := pd_cb cr_len2 len_ok hg B.len (by decide +kernel) (pda_cons he pda_nil hs) (by decide) (by decide) hs hpl
theorem p_all (B : Bi X.mg) (hc : X.calm = true) (he : PD X E e fe) (hg : Gl X "all" := by rfl) (hs : starEach [e] X.env = (false, eval e X.env) :: starEach [] X.env := by rfl) (hpl : (backTo pos (starEach ([] : List Expr) X.env)).any (·.1) = false := by rfl) : PD X E (.Call (.Name "all" p) [e] [] pos) (mCB gAll (mAc fe mA0)) := pd_cb (cr_all hc) all_ok hg B.all (by decide +kernel) (pda_cons he pda_nil hs) (by decide) (by decide) hs hpl
theorem p_any (B : Bi X.mg) (hc : X.calm = true) (he : PD X E e fe) (hg : Gl X "any" := by rfl) (hs : starEach [e] X.env = (false, eval e X.env) :: starEach [] X.env := by rfl) (hpl : (backTo pos (starEach ([] : List Expr) X.env)).any (·.1) = false := by rfl) : PD X E (.Call (.Name "any" p) [e] [] pos) (mCB gAny (mAc fe mA0)) := pd_cb (cr_any hc) any_ok hg B.any (by decide +kernel) (pda_cons he pda_nil hs) (by decide) (by decide) hs hpl
theorem p_sorted (B : Bi X.mg) (hr : Room k X.A) (he : PD X E e fe) (hg : Gl X "sorted" := by rfl) (hs : starEach [e] X.env = (false, eval e X.env) :: starEach [] X.env := by rfl) (hpl : (backTo pos (starEach ([] : List Expr) X.env)).any (·.1) = false := by rfl) : PD X E (.Call (.Name "sorted" p) [e] [] pos) (mCB gSorted (mAc fe mA0)) := pd_cb (cr_sortedD (units110 hr)) sorted_ok hg B.sorted (by decide +kernel) (pda_cons he pda_nil hs) (by decide) (by decide) hs hpl
theorem p_list (B : Bi X.mg) (he : PD X E e fe) (hg : Gl X "list" := by rfl) (hs : starEach [e] X.env = (false, eval e X.env) :: starEach [] X.env := by rfl) (hpl : (backTo pos (starEach ([] : List Expr) X.env)).any (·.1) = false := by rfl) : PD X E (.Call (.Name "list" p) [e] [] pos) (mCB gList (mAc fe mA0)) := pd_ct call_list_of list_ok hg B.list (by decide +kernel) (pda_cons he pda_nil hs) (by decide) (by decide) hs hpl
theorem p_listO (B : Bi X.mg) (he : PD X E e fe) (hg : Gl X "list" := by rfl) (hs : starEach [e] X.env = (false, eval e X.env) :: starEach [] X.env := by rfl) (hpl : (backTo pos (starEach ([] : List Expr) X.env)).any (·.1) = false := by rfl) : PD X E (.Call (.Name "list" p) [e] [] pos) (mCB gListO (mAc fe mA0)) := pd_ct call_list_of listO_ok hg B.list (by decide +kernel) (pda_cons he pda_nil hs) (by decide) (by decide) hs hpl
theorem p_tuple (B : Bi X.mg) (he : PD X E e fe) (hg : Gl X "tuple" := by rfl) (hs : starEach [e] X.env = (false, eval e X.env) :: starEach [] X.env := by rfl) (hpl : (backTo pos (starEach ([] : List Expr) X.env)).any (·.1) = false := by rfl) : PD X E (.Call (.Name "tuple" p) [e] [] pos) (mCB gTuple (mAc fe mA0)) := pd_ct call_tuple_of tuple_ok hg B.tuple (by decide +kernel) (pda_cons he pda_nil hs) (by decide) (by decide) hs hpl
theorem p_int (B : Bi X.mg) (he : PD X E e fe) (hg : Gl X "int" := by rfl) (hs : starEach [e] X.env = (false, eval e X.env) :: starEach [] X.env := by rfl) (hpl : (backTo pos (starEach ([] : List Expr) X.env)).any (·.1) = false := by rfl) : PD X E (.Call (.Name "int" p) [e] [] pos) (mCB gInt (mAc fe mA0)) := pd_ct call_int1 int_ok hg B.int (by decide +kernel) (pda_cons he pda_nil hs) (by decide) (by decide) hs hpl
theorem p_ss (B : Bi X.mg) (hc : X.calm = true) (hr : Room k X.A) (he : PD X E e fe) {p3 pos2 : Pos} (hg : Gl X "sorted" := by rfl) (hg2 : Gl X "set" := by rfl)
    (hs1 : starEach [e] X.env = (false, eval e X.env) :: starEach [] X.env := by rfl) (hpl : (backTo pos2 (starEach ([] : List Expr) X.env)).any (·.1) = false := by rfl)
    (hs2 : starEach [.Call (.Name "set" p2) [e] [] pos2] X.env = (false, eval (.Call (.Name "set" p2) [e] [] pos2) X.env) :: starEach [] X.env := by rfl) (hpl2 : (backTo pos (starEach ([] : List Expr) X.env)).any (·.1) = false := by rfl) :
    PD X E (.Call (.Name "sorted" p3) [.Call (.Name "set" p2) [e] [] pos2] [] pos) (mSS fe) := pd_sortset hc hr.units hg B.sorted hg2 B.set he hs1 hpl hs2 hpl2
theorem p_isInt (B : Bi X.mg) (he : PD X E e fe) (hg : Gl X "isinstance" := by rfl) (hg2 : Gl X "int" := by rfl) (hs : starEach (.Name "int" p2 :: []) X.env = (false, eval (.Name "int" p2) X.env) :: starEach [] X.env := by rfl)
    (hse : starEach [e, .Name "int" p2] X.env = (false, eval e X.env) :: starEach [.Name "int" p2] X.env := by rfl) (hpl : (backTo pos (starEach [.Name "int" p2] X.env)).any (·.1) = false := by rfl) : PD X E (.Call (.Name "isinstance" p) [e, .Name "int" p2] [] pos) (op1 (gIsi "int") fe) := pd_isi kits_int hg B.isinstance hg2 B.int (by decide +kernel) he (by decide) (by decide) hs hse hpl
theorem p_isBool (B : Bi X.mg) (he : PD X E e fe) (hg : Gl X "isinstance" := by rfl) (hg2 : Gl X "bool" := by rfl) (hs : starEach (.Name "bool" p2 :: []) X.env = (false, eval (.Name "bool" p2) X.env) :: starEach [] X.env := by rfl)
    (hse : starEach [e, .Name "bool" p2] X.env = (false, eval e X.env) :: starEach [.Name "bool" p2] X.env := by rfl) (hpl : (backTo pos (starEach [.Name "bool" p2] X.env)).any (·.1) = false := by rfl) : PD X E (.Call (.Name "isinstance" p) [e, .Name "bool" p2] [] pos) (op1 (gIsi "bool") fe) := pd_isi kits_bool hg B.isinstance hg2 B.bool (by decide +kernel) he (by decide) (by decide) hs hse hpl
theorem p_isStr (B : Bi X.mg) (he : PD X E e fe) (hg : Gl X "isinstance" := by rfl) (hg2 : Gl X "str" := by rfl) (hs : starEach (.Name "str" p2 :: []) X.env = (false, eval (.Name "str" p2) X.env) :: starEach [] X.env := by rfl)
    (hse : starEach [e, .Name "str" p2] X.env = (false, eval e X.env) :: starEach [.Name "str" p2] X.env := by rfl) (hpl : (backTo pos (starEach [.Name "str" p2] X.env)).any (·.1) = false := by rfl) : PD X E (.Call (.Name "isinstance" p) [e, .Name "str" p2] [] pos) (op1 (gIsi "str") fe) := pd_isi kits_str hg B.isinstance hg2 B.str (by decide +kernel) he (by decide) (by decide) hs hse hpl
theorem p_isList (B : Bi X.mg) (he : PD X E e fe) (hg : Gl X "isinstance" := by rfl) (hg2 : Gl X "list" := by rfl) (hs : starEach (.Name "list" p2 :: []) X.env = (false, eval (.Name "list" p2) X.env) :: starEach [] X.env := by rfl)
    (hse : starEach [e, .Name "list" p2] X.env = (false, eval e X.env) :: starEach [.Name "list" p2] X.env := by rfl) (hpl : (backTo pos (starEach [.Name "list" p2] X.env)).any (·.1) = false := by rfl) : PD X E (.Call (.Name "isinstance" p) [e, .Name "list" p2] [] pos) (op1 (gIsi "list") fe) := pd_isi kits_list hg B.isinstance hg2 B.list (by decide +kernel) he (by decide) (by decide) hs hse hpl
theorem p_isTuple (B : Bi X.mg) (he : PD X E e fe) (hg : Gl X "isinstance" := by rfl) (hg2 : Gl X "tuple" := by rfl) (hs : starEach (.Name "tuple" p2 :: []) X.env = (false, eval (.Name "tuple" p2) X.env) :: starEach [] X.env := by rfl)
    (hse : starEach [e, .Name "tuple" p2] X.env = (false, eval e X.env) :: starEach [.Name "tuple" p2] X.env := by rfl) (hpl : (backTo pos (starEach [.Name "tuple" p2] X.env)).any (·.1) = false := by rfl) : PD X E (.Call (.Name "isinstance" p) [e, .Name "tuple" p2] [] pos) (op1 (gIsi "tuple") fe) := pd_isi kits_tuple hg B.isinstance hg2 B.tuple (by decide +kernel) he (by decide) (by decide) hs hse hpl
/- own lists -/
theorem p_oix (i : Nat) {x : Str} (he : PD X E e fe) (hN : X.N[i]? = some x := by rfl) (hv : Vis X.env.scope x := by first | exact .inl rfl | exact .inr (.inl rfl) | exact .inr (.inr rfl)) (hs : PlainIx e := by intro _ _; rfl) (hd : (x == ("__debug__" : Str)) = false := by decide) (hcd : (x == ("__classdict__" : Str)) = false := by decide) : PD X E (.Subscript (.Name x p) e pos) (mOix i fe) := pd_oix hN hv he hs hd hcd
theorem p_olen (B : Bi X.mg) (i : Nat) {x : Str} (hN : X.N[i]? = some x := by rfl) (hv : Vis X.env.scope x := by first | exact .inl rfl | exact .inr (.inl rfl) | exact .inr (.inr rfl)) (hg : Gl X "len" := by rfl)
    (he : starEach [.Name x p] X.env = (false, eval (.Name x p) X.env) :: starEach [] X.env := by rfl) (hpl : (backTo pos (starEach ([] : List Expr) X.env)).any (·.1) = false := by rfl) (hd : (x == ("__debug__" : Str)) = false := by decide) (hcd : (x == ("__classdict__" : Str)) = false := by decide) : PD X E (.Call (.Name "len" p2) [.Name x p] [] pos) (mOlen i) := pd_olen (x2 := x) hN hv hg B.len he hpl hd hcd
end
section
variable {X : Cx} {E : XK} {fs : AM} {es : List Expr} {pos p : Pos}
theorem a_ref (i : Nat) {x : Str} {npos : Pos} (hr : PDA X E es fs) (hN : X.N[i]? = some x := by rfl) (hv : Vis X.env.scope x := by first | exact .inl rfl | exact .inr (.inl rfl) | exact .inr (.inr rfl)) (hs : starEach (.Name x npos :: es) X.env = (false, eval (.Name x npos) X.env) :: starEach es X.env := by rfl)
    (hd : (x == ("__debug__" : Str)) = false := by decide) (hcd : (x == ("__classdict__" : Str)) = false := by decide) : PDA X E (.Name x npos :: es) (mAr i fs) := pda_ref hN hv hr hs hd hcd
theorem i_rng1 (B : Bi X.mg) {tg a : Expr} (ha : PDA X E [a] fs) (hg : Gl X "range" := by rfl) (hs : starEach [a] X.env = [(false, eval a X.env)] := by rfl) : PDI X E tg (.Call (.Name "range" p) [a] [] pos) (iCB gRng1 fs) := pdi_range1 hg B.range ha hs
theorem i_rng2 (B : Bi X.mg) {tg a b : Expr} (ha : PDA X E [a, b] fs) (hg : Gl X "range" := by rfl) (hs : starEach [a, b] X.env = [(false, eval a X.env), (false, eval b X.env)] := by rfl) (hs2 : starEach [b] X.env = [(false, eval b X.env)] := by rfl) : PDI X E tg (.Call (.Name "range" p) [a, b] [] pos) (iCB gRng2 fs) := pdi_range2 hg B.range ha hs hs2
theorem i_enum (B : Bi X.mg) {a : Expr} {tpos : Pos} {elts : List Expr} {kk : Nat} (ha : PDA X E [a] fs) (hg : Gl X "enumerate" := by rfl) (hs : starEach [a] X.env = [(false, eval a X.env)] := by rfl) : PDI X E (.Tuple elts kk tpos) (.Call (.Name "enumerate" p) [a] [] pos) (iCB gEnum2 fs) := pdi_enum2 hg B.enumerate ha hs
theorem i_zip (B : Bi X.mg) {a b : Expr} {tpos : Pos} {elts : List Expr} {kk : Nat} (ha : PDA X E [a, b] fs) (hg : Gl X "zip" := by rfl)
    (hs : starEach [a, b] X.env = (false, eval a X.env) :: starEach [b] X.env := by rfl) (hpl : (backTo pos (starEach [b] X.env)).any (·.1) = false := by rfl) : PDI X E (.Tuple elts kk tpos) (.Call (.Name "zip" p) [a, b] [] pos) (iCB gZip fs) := pdi_zip hg B.zip ha hs hpl
end
/-! ### module constants -/
section
variable {X : Cx} {E : XK} {x : Str} {pos : Pos}
theorem p_gint {i : Int} (h : ∃ t, X.mg x = some (.int i t)) (hg : Gl X x := by rfl) (hd : (x == ("__debug__" : Str)) = false := by decide) : PD X E (.Name x pos) (mC (.int i)) := by
  obtain ⟨t, h⟩ := h
  exact pd_const (pe_glob (v := .int i) hg h ⟨t, rfl⟩ hd) fun _ _ => .int _
/-- a constant object of the module -/
theorem p_gobj {d : D} (h : ∃ a, X.mg x = some (.ref a) ∧ ∀ H, Dp X.K H (.ref a) d) (hg : Gl X x := by rfl) (hd : (x == ("__debug__" : Str)) = false := by decide) : PD X E (.Name x pos) (mC d) := by
  obtain ⟨a, h, k⟩ := h
  refine PE.imp (pe_glob hg h (v := .ref a) rfl hd) fun σ H Q h => ?_
  obtain ⟨P, o, ρ, res, a1, e, p⟩ := h
  cases e
  exact p _ _ .refl ⟨a1, k _⟩
end
end DL

namespace DL
open PySem PySem.Spec L2
variable [TheW]
theorem pdb_never {X : Cx} {E : XK} {np : Nat} {sts : List Stmt} : PDB X E np sts failS := ⟨fun pins s σ H D I h => by
  obtain ⟨P, o, ρ, fl, a, e, p⟩ := h
  cases e⟩
/-! ### list(range(n)) -/
def gLR (ow : Bool) : D → Option S
  | .int n => if -(2 ^ 62) ≤ n ∧ n ≤ big then some (if ow = true then .own (rngD 0 n.toNat) else .dat (.list (rngD 0 n.toNat))) else none
  | _ => none
def mLR (ow : Bool) (f : EM) : EM := bindD f fun d => optS (gLR ow d)
theorem rg_dps {K : PySem.W.Frag} {H : Hp} {n : Int} : DpAll K H (rgV 0 n) (rngD 0 n.toNat) := by
  have key : ∀ l : List Nat, DpAll K H (l.map fun i => V.int (0 + (i : Nat))) (l.map fun i => PyData.int (0 + (i : Nat))) := by
    intro l
    induction l with
    | nil => exact .nil
    | cons a l ih => exact .cons (.int _) ih
  unfold rgV rngD
  rw [Int.sub_zero]
  exact key _
section
variable {X : Cx} {E : XK} {e : Expr} {fe : EM} {p p2 pos pos2 : Pos}
theorem p_lr {ow : Bool} (B : Bi X.mg) (hc : X.calm = true) (he : PD X E e fe) (hg : Gl X "list" := by rfl) (hg2 : Gl X "range" := by rfl) (na : starEach [e] X.env = (false, eval e X.env) :: starEach [] X.env := by rfl)
    (na2 : starEach [.Call (.Name "range" p2) [e] [] pos2] X.env = (false, eval (.Call (.Name "range" p2) [e] [] pos2) X.env) :: starEach [] X.env := by rfl) : PD X E (.Call (.Name "list" p) [.Call (.Name "range" p2) [e] [] pos2] [] pos) (mLR ow fe) := by
  refine PE.imp (pe_listRg hc hg B.list (prg_1 hg2 B.range he na) na2) fun σ H Q h => ?_
  obtain ⟨P, o, ρ, res, a, e, p⟩ := h
  refine tE_mono (fun x H1 h => ?_) (bindD_go a .refl e p)
  obtain ⟨ρ1, d, _, c1, a1, k, h⟩ := h
  obtain ⟨z, hz, rfl⟩ := optS_some h
  unfold gLR at hz
  split at hz
  · rename_i n
    split at hz
    · rename_i hn
      cases hz
      refine ⟨n, dp_int k, ⟨by omega, by omega, hn.1, ?_, ?_⟩, fun q hq => ?_⟩
      · have h2 := hn.2; unfold big at h2; have : (2 : Int) ^ 62 = 4611686018427387904 := by decide
        omega
      · have h2 := hn.2; unfold big at h2; have : (2 : Nat) ^ 24 = 16777216 := by decide
        omega
      · have nh : ¬ hid P o q := fun z => by
          obtain ⟨u, hu⟩ := a1.domH z
          rw [hq] at hu; cases hu
        refine p _ _ (c1.trans (.of (.new hq))) ?_
        exact okP_list (c1.back hq) nh (a1.plus hq) (by simp [upd]) rg_dps
    · cases hz
  · cases hz
end
end DL

namespace DL
open PySem PySem.Spec L2
variable [TheW]
/-! ### the law's end -/
def startE (ns : List Int) : Env := [some (.dat (.list (ns.map .int)))]
theorem law_start {K : PySem.W.Frag} {H : Hp} {a : Addr} {ns : List Int} (h : SqL K H a (ns.map V.int)) : At K (fun _ => False) (fun _ => none) (startE ns) [some (V.ref a)] H := by
  have eh : hd (hid (fun _ => False) (fun _ => none)) H = H := by
    funext b
    unfold hd
    rw [if_neg]
    rintro (z | ⟨i, z⟩)
    · exact z
    · cases z
  refine ⟨rfl, fun _ z => z.elim, fun _ _ _ z => (nomatch z), fun _ _ z => (nomatch z), fun _ _ z => (nomatch z), fun i d q hd' => ?_, fun i s q z => ?_⟩
  · match i, q with
    | 0, q =>
      cases q
      clear hd'
      refine ⟨V.ref a, rfl, ?_⟩
      rw [eh]
      exact .lst h (ints_map_dps ns)
    | i + 1, q => simp [startE] at q
  · match i, q with
    | 0, q => cases q; cases z
    | i + 1, q => simp [startE] at q
theorem law_sp {K : PySem.W.Frag} {mg : Str → Option Value} {F : EM} {n : Nat} (hF : ∀ ns : List Int, ns.length ≤ n → ∃ ρ', F (startE ns) = some (.ok (.dat (.bool true)), ρ')) (H : Hp) (a : Addr) (ns : List Int) (hl : ns.length ≤ n) (hS : SqL K H a (ns.map V.int)) :
    spF K mg 1 F [.ref a] H (fun v _ => v = .bl true) fun _ _ _ => False := by
  obtain ⟨ρ', h⟩ := hF ns hl
  exact ⟨rfl, _, _, _, _, law_start hS, h, fun v H' c ok => dp_bl ok.2⟩
/-- nothing is let out -/
theorem fnok0 {Pr : Program} {w : World} {K : PySem.W.Frag} {mg : Str → Option Value} {base : Heap} {k : Nat} {f : Addr} {fd : FuncData} {ps : List Str} {sp : Sp} (F : FnOk Pr w K mg base (L2.CX Pr w) k f fd ps sp) : FnOk Pr w K mg base CX0 k f fd ps fun vs H Q E => sp vs H Q E0 :=
  ⟨fun vs H Q E h => F.len vs H Q E0 h, fun A outer s H args us vs Q E hr e hb hv h => codeAny_mono (F.run A outer s H args us vs Q E0 hr e hb hv h) fun r s' c => by
    unfold CR at c ⊢
    cases r with
    | ok u => cases u <;> exact c
    | error e =>
      obtain ⟨_, _, _, _, _, _, _, _, _, _, _, _, z⟩ := c
      exact z.elim⟩
end DL

namespace DL
open PySem PySem.Spec L2
variable [TheW]
/-! ### texts -/
def strsOf : List D → Option (List Str)
  | [] => some []
  | .str x :: r => (strsOf r).map (x :: ·)
  | _ :: _ => none
theorem strs_dps {K : PySem.W.Frag} {H : Hp} : ∀ {vs : List V} {ds : List D} {ns : List Str}, DpAll K H vs ds → strsOf ds = some ns → vs = ns.map V.str ∧ ds = ns.map PyData.str
  | _, _, _, .nil, e => by cases e; exact ⟨rfl, rfl⟩
  | _, _, _, .cons (ds := ds) h hs, e => by
    unfold strsOf at e
    split at e
    · rename_i hh; cases hh
    · rename_i b r hh
      cases hh
      cases hb : strsOf ds with
      | none => rw [hb] at e; cases e
      | some bs =>
        rw [hb] at e
        cases e
        obtain ⟨h1, h2⟩ := strs_dps hs hb
        rw [h1, h2, dp_str h]
        exact ⟨rfl, rfl⟩
    · cases e
theorem strs_map_dps {K : PySem.W.Frag} {H : Hp} : ∀ ns : List Str, DpAll K H (ns.map V.str) (ns.map PyData.str)
  | [] => .nil
  | n :: ns => .cons (.str n) (strs_map_dps ns)
def isStrD : D → Bool
  | .str _ => true
  | _ => false
theorem ty_str {K : PySem.W.Frag} : TyD K "str" isStrD := by
  intro H x d h e
  cases h with
  | str z => rfl
  | _ => cases e
/-- sep.join(xs) -/
def gJoin : D → List D → Option S
  | .str a, [d] => match seqOf d with
    | some ds => (match strsOf ds with
      | some ys => if (ys.map (·.length)).sum + ys.length * a.length ≤ big then some (.dat (.str (Txt.join a ys))) else none
      | none => none)
    | none => none
  | _, _ => none
theorem join_ok {K : PySem.W.Frag} : MtD K (fun x xs H Q => ∃ a p, ∃ ys : List Str, x = .str a ∧ xs = [.ref p] ∧ (SqL K H p (ys.map V.str) ∨ SqT K H p (ys.map V.str)) ∧ (ys.map (·.length)).sum + ys.length * a.length ≤ 16777216 ∧ Q (.str (Txt.join a ys)) H) gJoin := by
  intro P H x d vs ds z hP k ks hg Q q
  unfold gJoin at hg
  split at hg
  · rename_i a e
    split at hg
    · rename_i xs hxs
      split at hg
      · rename_i ys hys
        split at hg
        · rename_i hl
          cases hg
          cases ks with
          | cons k1 k2 =>
            cases k2
            obtain ⟨p, ws, rfl, h1, h2⟩ := seq_dp k1 hxs
            obtain ⟨rfl, _⟩ := strs_dps h2 hys
            exact ⟨a, p, ys, dp_str k, rfl, h1.elim (fun z => .inl (ex_l ex_hd z)) (fun z => .inr (ex_t ex_hd z)), by unfold big at hl; omega, q _ _ (Ex.refl _) (.str _)⟩
        · cases hg
      · cases hg
    · cases hg
  · cases hg
/-- x.split(sep) -/
def gSplit : D → List D → Option S
  | .str a, [.str b] => if (b.length == 0) = false ∧ a.length + 2 ≤ big ∧ (Txt.split a b).length ≤ big then some (.dat (.list ((Txt.split a b).map .str))) else none
  | _, _ => none
theorem split_ok {K : PySem.W.Frag} : MtD K (fun x xs H Q => ∃ a b, x = .str a ∧ xs = [.str b] ∧ (b.length == 0) = false ∧ a.length + 2 ≤ sizeLine ∧ rNewStrs (Txt.split a b) H Q) gSplit := by
  intro P H x d vs ds z hP k ks hg Q q
  unfold gSplit at hg
  split at hg
  · rename_i a b
    split at hg
    · rename_i hl
      cases hg
      cases ks with
      | cons k1 k2 =>
        cases k2
        refine ⟨a, b, dp_str k, by rw [dp_str k1], hl.1, big_line hl.2.1, fun p hp => q _ _ (.new hp) ?_⟩
        exact new_lst hP hp (strs_map_dps _)
    · cases hg
  · cases hg
section
variable {X : Cx} {E : XK} {o e : Expr} {fo fe : EM} {apos pos p : Pos}
theorem p_join (ho : PD X E o fo) (he : PD X E e fe) (hs : starEach [e] X.env = (false, eval e X.env) :: starEach [] X.env := by rfl) (hbase : attributeBase o "join" X.env (eval o X.env) = eval o X.env := by rfl) (hline : (apos.endLine == pos.line) = true := by rfl)
    (hfew : ((backTo pos (starEach [e] X.env)).all (fun x => !x.1) && (backToKw pos (keywordEach [] X.env)).all (fun x => x.1.isSome) && decide ([e].length + ([] : List Keyword).length + (if ([] : List Keyword).isEmpty then 0 else 1) < 30)) = true := by rfl)
    (hpl : (backTo pos (starEach ([] : List Expr) X.env)).any (·.1) = false := by rfl) : PD X E (.Call (.Attribute o "join" apos) [e] [] pos) (mBM isStrD gJoin fo (mAc fe mA0)) :=
  pd_bm ty_str join_ok F.plainAttrs_str F.slot_str_join F.type_str_join mt_join ho (pda_cons he pda_nil hs) hbase hfew hline hs hpl
theorem p_split (ho : PD X E o fo) (he : PD X E e fe) (hs : starEach [e] X.env = (false, eval e X.env) :: starEach [] X.env := by rfl) (hbase : attributeBase o "split" X.env (eval o X.env) = eval o X.env := by rfl) (hline : (apos.endLine == pos.line) = true := by rfl)
    (hfew : ((backTo pos (starEach [e] X.env)).all (fun x => !x.1) && (backToKw pos (keywordEach [] X.env)).all (fun x => x.1.isSome) && decide ([e].length + ([] : List Keyword).length + (if ([] : List Keyword).isEmpty then 0 else 1) < 30)) = true := by rfl)
    (hpl : (backTo pos (starEach ([] : List Expr) X.env)).any (·.1) = false := by rfl) : PD X E (.Call (.Attribute o "split" apos) [e] [] pos) (mBM isStrD gSplit fo (mAc fe mA0)) :=
  pd_bm ty_str split_ok F.plainAttrs_str F.slot_str_split F.type_str_split mt_split ho (pda_cons he pda_nil hs) hbase hfew hline hs hpl
/-- str(..) of an int, of a text -/
def gStr : List D → Option S
  | [.int i] => if i.natAbs.log2 < 1920 then some (.dat (.str (toString i))) else none
  | [.str x] => some (.dat (.str x))
  | _ => none
def rStr2 : List V → Hp → VK → Prop := fun xs H Q => (∃ i, xs = [.int i] ∧ i.natAbs.log2 < 1920 ∧ Q (.str (toString i)) H) ∨ ∃ a, xs = [.str a] ∧ Q (.str a) H
theorem cr_str2 : CallR X (.type "str") rStr2 := by
  intro pins s σ H xs us Q I r h
  rcases h with h | h
  · exact call_str_int pins s σ H xs us Q I r h
  · exact SkE.call_str_str pins s σ H xs us Q I r h
theorem str_ok {K : PySem.W.Frag} : CallD K rStr2 gStr := by
  intro P H vs ds z hP ks hg Q q
  unfold gStr at hg
  split at hg
  · split at hg
    · rename_i hl
      cases hg
      cases ks with
      | cons k1 k2 =>
        cases k2
        exact .inl ⟨_, by rw [dp_int k1], hl, q _ _ (Ex.refl _) (.str _)⟩
    · cases hg
  · cases hg
    cases ks with
    | cons k1 k2 =>
      cases k2
      exact .inr ⟨_, by rw [dp_str k1], q _ _ (Ex.refl _) (.str _)⟩
  · cases hg
theorem p_str (B : Bi X.mg) (he : PD X E e fe) (hg : Gl X "str" := by rfl) (hs : starEach [e] X.env = (false, eval e X.env) :: starEach [] X.env := by rfl) (hpl : (backTo pos (starEach ([] : List Expr) X.env)).any (·.1) = false := by rfl) : PD X E (.Call (.Name "str" p) [e] [] pos) (mCB gStr (mAc fe mA0)) := pd_ct cr_str2 str_ok hg B.str (by decide +kernel) (pda_cons he pda_nil hs) (by decide) (by decide) hs hpl
end
end DL

namespace DL
open PySem PySem.Spec L2
variable [TheW]
/-! ### a constant table of texts -/
/-- the table at a, its entries by key -/
def TabOk (K : PySem.W.Frag) (w : World) (a : Addr) (kvs : List (Str × D)) : Prop := (∃ es n, KDict K w a es n) ∧ ∀ z : Str, match kvs.lookup z with
  | some d => ∃ u v, PySem.W.nsIn K a z = some (some u) ∧ RelV v u ∧ ∀ H, Dp K H v d
  | none => PySem.W.nsIn K a z = some none
def gInTab (neg : Bool) (kvs : List (Str × D)) : D → Option D
  | .str z => some (.bool (if neg = true then !(kvs.lookup z).isSome else (kvs.lookup z).isSome))
  | _ => none
def gAtTab (kvs : List (Str × D)) : D → Option D
  | .str z => kvs.lookup z
  | _ => none
theorem TabOk.get {K : PySem.W.Frag} {w : World} {a : Addr} {kvs : List (Str × D)} (h : TabOk K w a kvs) (z : Str) : ∃ r, PySem.W.nsIn K a z = some r ∧ r.isSome = (kvs.lookup z).isSome ∧ ∀ d, kvs.lookup z = some d → ∃ u v, r = some u ∧ RelV v u ∧ ∀ H, Dp K H v d := by
  have h2 := h.2 z
  cases e : kvs.lookup z with
  | none =>
    rw [e] at h2
    exact ⟨none, h2, rfl, fun d hd => by cases hd⟩
  | some d =>
    rw [e] at h2
    obtain ⟨u, v, h3, h4, h5⟩ := h2
    exact ⟨some u, h3, rfl, fun d' hd => by cases hd; exact ⟨u, v, rfl, h4, h5⟩⟩
section
variable {X : Cx} {E : XK} {x : Str} {e : Expr} {fe : EM} {p pos : Pos} {kvs : List (Str × D)}
theorem tab_go {K : PySem.W.Frag} {mg : Str → Option Value} {g : D → Option D} {f : EM} {σ : St} {H : Hp} {Q : VK} (h : tE K mg E (op1 g f) σ H Q) : tE K mg E f σ H fun x H1 => ∃ P o ρ d z, At K P o ρ σ H1 ∧ Dp K (hd (hid P o) H1) x d ∧ g d = some z ∧ ∀ v, Dp K (hd (hid P o) H1) v z → Q v H1 := by
  obtain ⟨P, o, ρ, res, a, e, p⟩ := h
  refine tE_mono (fun x H1 h => ?_) (bindD_go a .refl e p)
  obtain ⟨ρ1, d, _, c1, a1, k, h⟩ := h
  obtain ⟨z, hz, rfl⟩ := optD_some h
  exact ⟨P, o, ρ1, d, z, a1, k, hz, fun v hv => p v H1 c1 ⟨a1, hv⟩⟩
theorem pd_inTab (h : ∃ a, X.mg x = some (.ref a) ∧ TabOk X.K X.w a kvs) (he : PD X E e fe) (hg : Gl X x := by rfl) (hd : (x == ("__debug__" : Str)) = false := by decide) (hm : behindInMarks .In (.Name x p) = false := by with_unfolding_all rfl) : PD X E (.Compare e [.In] [.Name x p] pos) (op1 (gInTab false kvs) fe) := by
  obtain ⟨a, h1, ⟨es, n, D⟩, h2⟩ := h
  refine PE.imp (pe_cmpR (op_in_kd D) he (pe_glob (v := .ref a) hg h1 rfl hd) hm) fun σ H Q h => ?_
  refine tE_mono (fun y H1 h => ?_) (tab_go h)
  obtain ⟨P, o, ρ, d, z, a1, k, hz, q⟩ := h
  unfold gInTab at hz
  split at hz
  · rename_i s
    cases hz
    obtain ⟨r, e1, e2, _⟩ := TabOk.get ⟨⟨es, n, D⟩, h2⟩ s
    exact ⟨s, r, dp_str k, rfl, e1, q _ (by rw [e2]; exact .bl _)⟩
  · cases hz
/-- NAME[e] -/
theorem pd_atTab (h : ∃ a, X.mg x = some (.ref a) ∧ TabOk X.K X.w a kvs) (he : PD X E e fe) (hs : PlainIx e := by intro _ _; rfl) (hg : Gl X x := by rfl) (hd : (x == ("__debug__" : Str)) = false := by decide) : PD X E (.Subscript (.Name x p) e pos) (op1 (gAtTab kvs) fe) := by
  obtain ⟨a, h1, ⟨es, n, D⟩, h2⟩ := h
  refine PE.imp (pe_ix ix_kdict (pe_glob (v := .ref a) hg h1 rfl hd) he hs) fun σ H Q h => ?_
  have hh := tab_go h
  have key : tE X.K X.mg E fe σ H fun y H1 => rIxD X.K X.w (.ref a) y H1 Q := tE_mono (fun y H1 h => ?_) hh
  · exact key
  obtain ⟨P, o, ρ, d, z, a1, k, hz, q⟩ := h
  unfold gAtTab at hz
  split at hz
  · rename_i s
    obtain ⟨r, e1, e2, e3⟩ := TabOk.get ⟨⟨es, n, D⟩, h2⟩ s
    obtain ⟨u, v, rfl, e4, e5⟩ := e3 z hz
    exact ⟨a, s, v, rfl, dp_str k, ⟨es, n, u, D.at_, D.lit, e1, e4⟩, q v (e5 _)⟩
  · cases hz
/-! ### [..] * n -/
def mRepO (fs : AM) (fb : EM) : EM := bindE (mCB gLstO fs) fun s => match s with
  | .own xs => bindD fb fun d => match d with
    | .int k => optD (if 0 ≤ k ∧ k ≤ 1000 ∧ xs.length ≤ 1000 then some (.list (List.replicate k.toNat xs).flatten) else none)
    | _ => failE
  | _ => failE
theorem dps_rep {K : PySem.W.Frag} {H : Hp} {vs : List V} {ds : List D} (h : DpAll K H vs ds) : ∀ n : Nat, DpAll K H (List.replicate n vs).flatten (List.replicate n ds).flatten
  | 0 => .nil
  | n + 1 => by
    rw [List.replicate_succ, List.replicate_succ, List.flatten_cons, List.flatten_cons]
    exact dps_append h (dps_rep h n)
theorem pd_rep {es : List Expr} {fs : AM} {b : Expr} {fb : EM} {lpos : Pos} (ha : PDA X E es fs) (hb : PD X E b fb) : PD X E (.BinOp (.List es lpos) .Mult b pos) (mRepO fs fb) := by
  refine PE.imp (pe_op op_rep (pd_lstO ha) hb) fun σ H Q h => ?_
  obtain ⟨P, o, ρ, res, a, e, p⟩ := h
  refine tE_mono (fun x H1 h => ?_) (bind_go a .refl e p)
  obtain ⟨ρ1, s, c1, _, ok, h⟩ := h
  cases s with
  | own xs =>
    obtain ⟨l, rfl, hn, hh, a1, ⟨vs, hl, kl⟩⟩ := ok
    have less : ∀ H', Ex (hd (hid (plusA P l) o) H') (hd (hid P o) H') := fun H' => ex_hd_le fun b z => z.elim (fun z => .inl (.inl z)) .inr
    have pp : Post X.K X.mg E (plusA P l) o σ H1 (fun _ _ => True) res := by
      obtain ⟨r, ρ'⟩ := res
      cases r with
      | ok s => exact fun _ _ _ _ => True.intro
      | ex c pl => exact fun cls dx H' c2 a2 x => p cls dx H' (c1.trans c2) (a2.less fun b z => .inl z) (x.up (less H'))
    have go := bindD_go a1 .refl h (Q := fun _ _ => True) pp
    have key : tE X.K X.mg E fb σ H1 fun y H2 => rRep (.ref l) y H2 Q := tE_mono (fun y H2 h => ?_) go
    · exact key
    obtain ⟨ρ2, d, c2, _, a2, k2, h⟩ := h
    split at h
    · rename_i k
      obtain ⟨z, hz, rfl⟩ := optD_some h
      split at hz
      · rename_i hk
        cases hz
        have nol : ¬ Own o l := fun z => hh (.inr z)
        have hl2 := c2.keep l _ hl nol
        have hlen := dps_len kl
        refine ⟨l, k, vs, rfl, dp_int k2, hl2, by omega, by omega, ?_, fun q hq => ?_⟩
        · have h3 : k.toNat ≤ 1000 := by omega
          have h4 := Nat.mul_le_mul (show vs.length ≤ 1000 by omega) h3
          have : sizeLine = 16777216 := sizeLine_eq
          omega
        · have a3 := (a2.less (P' := P) fun b z => .inl z).ext (Ex.new (o := .lst (List.replicate k.toNat vs).flatten) hq)
          refine p _ _ (c1.trans (c2.trans (.of (.new hq)))) ⟨a3, new_lst (fun b hb => ?_) hq ?_⟩
          · rcases hb with hb | hb
            · exact a2.dom b (.inl hb)
            · exact a2.domH (.inr hb)
          · refine dps_rep (dps_mono ?_ kl) _
            exact Ex.trans (c2.ex (P := plusA P l)) (less H2)
      · cases hz
    · cases h
  | dat d => cases h
  | odk d => cases h
  | odt d => cases h
  | odl d => cases h
end
end DL

namespace DL
open PySem PySem.Spec L2
variable [TheW]
/-! ### a table of the top, looked at by the head -/
def entB (K : PySem.W.Frag) (e : DictEntry) (kv : Str × He.Dv) : Bool := (match e.key with
  | .str z _ => decide (z = kv.1)
  | _ => false) && He.relB (kv.2.v K) e.val
def entsB (K : PySem.W.Frag) : List DictEntry → List (Str × He.Dv) → Bool
  | [], [] => true
  | e :: es, kv :: kvs => entB K e kv && entsB K es kvs
  | _, _ => false
def tabB (K : PySem.W.Frag) (x : Str) (kvs : List (Str × He.Dv)) : Bool := match K.lookup (He.ga K x) with
  | some ⟨_, _, .dict es _, _⟩ => entsB K es.toList kvs
  | _ => false
theorem ents_find {K : PySem.W.Frag} {z : Str} : ∀ {es : List DictEntry} {kvs : List (Str × He.Dv)}, entsB K es kvs = true → (match kvs.lookup z with
  | some v => ∃ e, es.find? (·.key.isStr z) = some e ∧ RelV (v.v K) e.val
  | none => es.find? (·.key.isStr z) = none) ∧ es.any (·.refKey) = false
  | [], [], _ => ⟨rfl, rfl⟩
  | [], _ :: _, h => by simp [entsB] at h
  | _ :: _, [], h => by simp [entsB] at h
  | e :: es, kv :: kvs, h => by
    simp only [entsB, Bool.and_eq_true] at h
    obtain ⟨h1, h2⟩ := h
    obtain ⟨i1, i2⟩ := ents_find (z := z) h2
    unfold entB at h1
    simp only [Bool.and_eq_true] at h1
    obtain ⟨h3, h4⟩ := h1
    have hk : ∃ t, e.key = .str kv.1 t := by
      split at h3
      · rename_i z' t hz
        have := of_decide_eq_true h3
        exact ⟨t, by rw [hz, this]⟩
      · cases h3
    obtain ⟨t, hk⟩ := hk
    have his : ∀ y : Str, e.key.isStr y = (kv.1 == y) := fun y => by rw [hk]; rfl
    have hself : e.key.isStr kv.1 = true := by rw [his]; simp
    have hnr := PySem.isStr_notRef e hself
    refine ⟨?_, by simp [hnr, i2]⟩
    obtain ⟨k, v⟩ := kv
    by_cases hq : z = k
    · subst hq
      have hb : (z == z) = true := by simp
      simp only [List.lookup_cons, hb]
      exact ⟨e, by simp [List.find?_cons, hself], He.relB_ok h4⟩
    · have hb : (z == k) = false := by simpa using hq
      have hb2 : e.key.isStr z = false := PySem.isStr_other hq e hself
      simp only [List.lookup_cons, hb]
      simp only [List.find?_cons, hb2]
      exact i1
theorem tab_ok {K : PySem.W.Frag} {w : World} {x : Str} {kvs : List (Str × He.Dv)} {ds : List (Str × D)} (h : tabB K x kvs = true) (D : ∃ es n, KDict K w (He.ga K x) es n) (hd : ∀ z : Str, match kvs.lookup z with
    | some v => ∃ d, ds.lookup z = some d ∧ ∀ H, Dp K H (v.v K) d
    | none => ds.lookup z = none) : TabOk K w (He.ga K x) ds := by
  refine ⟨D, fun z => ?_⟩
  unfold tabB at h
  split at h
  · rename_i es n sl hl
    obtain ⟨i1, i2⟩ := ents_find (z := z) h
    have hz := hd z
    cases hv : kvs.lookup z with
    | none =>
      rw [hv] at i1 hz
      simp only at i1 hz
      rw [hz]
      unfold PySem.W.nsIn
      rw [hl]
      simp [i1, i2]
    | some v =>
      rw [hv] at i1 hz
      obtain ⟨e, e1, e2⟩ := i1
      obtain ⟨d, hd1, hd2⟩ := hz
      rw [hd1]
      refine ⟨e.val, v.v K, ?_, e2, hd2⟩
      unfold PySem.W.nsIn
      rw [hl]
      simp [e1]
  · cases h
/-- a table of ints -/
def tabV (kvs : List (Str × Int)) : List (Str × He.Dv) := kvs.map fun p => (p.1, .int p.2)
def tabD (kvs : List (Str × Int)) : List (Str × D) := kvs.map fun p => (p.1, .int p.2)
theorem tab_ints {K : PySem.W.Frag} : ∀ (kvs : List (Str × Int)) (z : Str), match (tabV kvs).lookup z with
    | some v => ∃ d, (tabD kvs).lookup z = some d ∧ ∀ H, Dp K H (v.v K) d
    | none => (tabD kvs).lookup z = none
  | [], z => rfl
  | kv :: kvs, z => by
    have ih := tab_ints (K := K) kvs z
    unfold tabV tabD at ih ⊢
    simp only [List.map_cons, List.lookup_cons]
    cases hb : z == kv.1 with
    | true => exact ⟨_, rfl, fun H => .int _⟩
    | false => exact ih
end DL

namespace DL
open PySem PySem.Spec L2
variable [TheW]
/-! ### while -/
/-- at most n turns -/
def whileS (fc : EM) (fb : SM) : Nat → SM
  | 0 => fun _ => none
  | n + 1 => bindS fc (boolS (fun ρ => match fb ρ with
    | some (.nx ρ1) => whileS fc fb n ρ1
    | some (.ct ρ1) => whileS fc fb n ρ1
    | some (.bk ρ1) => some (.nx ρ1)
    | r => r) nextS)
section
variable {X : Cx} {E : XK} {np : Nat} {c : Expr} {body : List Stmt} {fc : EM} {fb : SM} {pos : Pos}
theorem pds_while (hp : PassesOwn (model X.prog X.w) X.A X.env X.xe) (n : Nat) (hc : PDT X E c fc) (hb : PDB X E np body fb) : PDS X E np (.While c body [] pos) (whileS fc fb n) := PS.imp (ps_while hp hc hb) fun D σ H h => by
  obtain ⟨P, o, ρ, fl, a, e, p⟩ := h
  refine ⟨fun m σ' H' => ∃ o' ρ', ChgS np o o' H H' ∧ At X.K P o' ρ' σ' H' ∧ whileS fc fb m ρ' = some fl, ⟨n, o, ρ, .refl, a, e⟩, ?_⟩
  intro m σ1 H1 hW
  obtain ⟨o1, ρ1, c1, a1, e1⟩ := hW
  cases m with
  | zero => cases e1
  | succ m =>
    refine tT_mono (fun b H2 hh => ?_) (boolS_go a1 (show bindS fc (boolS _ nextS) ρ1 = some fl from e1) (p.later c1))
    obtain ⟨ρ2, c2, a2, e2⟩ := hh
    have c3 : ChgS np o o1 H H2 := c1.trans (.of c2)
    cases b with
    | false =>
      have e2 : nextS ρ2 = some fl := e2
      cases e2
      exact p o1 σ1 H2 c3 a2
    | true =>
      have e2 : (match fb ρ2 with
        | some (.nx ρ1) => whileS fc fb m ρ1
        | some (.ct ρ1) => whileS fc fb m ρ1
        | some (.bk ρ1) => some (.nx ρ1)
        | r => r) = some fl := e2
      rw [if_pos rfl]
      refine ⟨fun σ' H' => ∃ o' ρ', ChgS np o o' H H' ∧ At X.K P o' ρ' σ' H' ∧ whileS fc fb m ρ' = some fl, fun σ' H' hh => ⟨m, Nat.lt_succ_self m, hh⟩, ?_⟩
      cases hf : fb ρ2 with
      | none => rw [hf] at e2; cases e2
      | some r =>
        rw [hf] at e2
        refine ⟨P, o1, ρ2, r, a2, hf, ?_⟩
        cases r with
        | nx ρ3 => exact fun o' σ' H' c' a' => ⟨o', ρ3, c3.trans c', a', e2⟩
        | ct ρ3 => exact fun o' σ' H' c' a' => ⟨o', ρ3, c3.trans c', a', e2⟩
        | bk ρ3 => cases e2; exact p.later c3
        | rt s ρ3 => cases e2; exact p.later c3
        | ex x pl ρ3 => cases e2; exact p.later c3
end
end DL

namespace DL
open PySem PySem.Spec L2
variable [TheW]
/-! ### dicts whose keys are tuples, nested -/
structure IsW (X : Cx) : Prop where
  p : X.prog = TheW.P
  w : X.w = TheW.w
def lkN {β : Type} (kvs : List (NestedKey × β)) (k : NestedKey) : Option β := (kvs.find? fun x => decide (x.1 = k)).map (·.2)
def stN {β : Type} (kvs : List (NestedKey × β)) (k : NestedKey) (old : β → β) (new : β) : List (NestedKey × β) := if (lkN kvs k).isSome = true then kvs.map (fun x => if x.1 = k then (x.1, old x.2) else x) else kvs ++ [(k, new)]
theorem stN_len {β : Type} {kvs : List (NestedKey × β)} {k : NestedKey} {old : β → β} {new : β} : (stN kvs k old new).length ≤ kvs.length + 1 := by
  unfold stN
  split
  · simp
  · simp
def KeyOk (K : PySem.W.Frag) (H : Hp) (x : NestedKey × Addr × V) : Prop := x.1.depth ≤ 8 ∧ Dp K H (.ref x.2.1) (kDat x.1)
abbrev NP : List (NestedKey × Addr × V) → List (NestedKey × Addr × Value) → Prop := Paired (fun (p : NestedKey × Addr × V) (q : NestedKey × Addr × Value) => p.1 = q.1 ∧ p.2.1 = q.2.1 ∧ RelV p.2.2 q.2.2)
section
variable {X : Cx} {pins : List (Addr × Obj)} {σ : St} {H : Hp} {s : Shared}
mutual
theorem nest_reads {h : Heap} : ∀ (k : NestedKey) (u : Value) (as : List Addr), Reads h u k.data as → NestedIs h k u
  | .none, _, _, r => by cases r; exact .none
  | .num i, _, _, r => by cases r; exact .int _ _
  | .text x, _, _, r => by cases r; exact .text _ _
  | .tup ks, _, _, r => by
    cases r with
    | tuple h1 h2 h3 h4 => exact .tup h1 h2 h3 (nest_readsAll ks _ _ h4)
theorem nest_readsAll {h : Heap} : ∀ (ks : List NestedKey) (us : List Value) (as : List Addr), ReadsAll h us (NestedKey.datas ks) as → NestedAll h ks us
  | [], _, _, r => by cases r; exact .nil
  | k :: ks, _, _, r => by
    cases r with
    | cons h1 h2 => exact .cons (nest_reads k _ _ h1) (nest_readsAll ks _ _ h2)
end
theorem nest_of (I : Inv X pins σ H s) {k : NestedKey} {b : Addr} (hd : k.depth ≤ 8) (h : Dp X.K H (.ref b) (kDat k)) : (nestedKind X.prog X.w).is s.heap k b := by
  obtain ⟨as, r⟩ := Dp.reads I _ _ (.ref b) h rfl
  exact ⟨nest_reads k _ _ r, hd⟩
theorem np_key {xs : List (NestedKey × Addr × V)} {ys : List (NestedKey × Addr × Value)} (r : NP xs ys) : ∀ y ∈ ys, ∃ x ∈ xs, x.1 = y.1 ∧ x.2.1 = y.2.1 := by
  induction r with
  | nil => intro y hy; cases hy
  | @cons p q ps qs h t ih =>
    intro y hy
    rcases List.mem_cons.mp hy with e | hy
    · subst e; exact ⟨p, by simp, h.1, h.2.1⟩
    · obtain ⟨x, hx, e⟩ := ih y hy
      exact ⟨x, by simp [hx], e⟩
theorem np_find {k : NestedKey} {xs : List (NestedKey × Addr × V)} {ys : List (NestedKey × Addr × Value)} (r : NP xs ys) : (lkN xs k = none ∧ atKey ys k = none) ∨ ∃ b v u, lkN xs k = some (b, v) ∧ atKey ys k = some (b, u) ∧ RelV v u := by
  induction r with
  | nil => exact .inl ⟨rfl, rfl⟩
  | @cons p q ps qs h t ih =>
    obtain ⟨pk, pb, pv⟩ := p
    obtain ⟨qk, qb, qv⟩ := q
    obtain ⟨h1, h2, h3⟩ := h
    simp only at h1 h2 h3
    subst h1 h2
    by_cases e : pk = k
    · exact .inr ⟨pb, pv, qv, by simp [lkN, e], by simp [atKey, e], h3⟩
    · have e1 : lkN ((pk, pb, pv) :: ps) k = lkN ps k := by simp [lkN, e]
      have e2 : atKey ((pk, pb, qv) :: qs) k = atKey qs k := by simp [atKey, e]
      rw [e1, e2]
      exact ih
theorem np_store {k : NestedKey} {b : Addr} {v : V} {u : Value} {xs : List (NestedKey × Addr × V)} {ys : List (NestedKey × Addr × Value)} (r : NP xs ys) (rv : RelV v u) : NP (stN xs k (fun p => (p.1, v)) (b, v)) (storedH ys k b u) := by
  have rm : NP (xs.map (fun x => if x.1 = k then (x.1, (x.2.1, v)) else x)) (ys.map (putAt k u)) := by
    clear b
    induction r with
    | nil => exact .nil
    | @cons p q ps qs h t ih =>
      refine .cons ?_ ih
      obtain ⟨pk, pb, pv⟩ := p
      obtain ⟨qk, qb, qv⟩ := q
      obtain ⟨h1, h2, h3⟩ := h
      simp only at h1 h2 h3
      subst h1 h2
      by_cases e : pk = k
      · simp [putAt, e, rv]
      · simp [putAt, e, h3]
  unfold stN storedH
  rcases np_find (k := k) r with ⟨h1, h2⟩ | ⟨b', v', u', h1, h2, _⟩
  · rw [h1, h2]
    exact Paired.snoc r ⟨rfl, rfl, rv⟩
  · rw [h1, h2]
    exact rm
theorem nd_at (W : IsW X) {a : Addr} {xs : List (NestedKey × Addr × V)} (I : Inv X pins σ H s) (e : H a = some (NDO a xs) ∨ ∃ od, H a = some (.frz od (NDO a xs))) (hk : ∀ x ∈ xs, KeyOk X.K H x) :
    (a == sysModules) = false ∧ xs.length ≤ sizeLine ∧ ∃ ys, NP xs ys ∧ s.heap.DictOfH (nestedKind X.prog X.w) a ys := by
  have h : ObjOk X.prog X.w H s.heap a (NDO a xs) := by
    rcases e with e | ⟨od, e⟩
    · exact I.hok a _ e
    · exact (I.hok a _ e).2
  obtain ⟨⟨h1, h2, ys, h3, o, es, ep, h4, h5, h6, h7, h8⟩, _, _⟩ := h
  refine ⟨h1, h2, ys, h3, o, es, ep, h4, h5, h6, ?_, fun y hy => ?_, h8⟩
  · rw [W.p, W.w]; exact h7
  · obtain ⟨x, hx, e1, e2⟩ := np_key h3 y hy
    obtain ⟨k1, k2⟩ := hk x hx
    rw [← e1, ← e2]
    exact nest_of I k1 k2
theorem nd_new (W : IsW X) {H' : Hp} {a : Addr} {xs : List (NestedKey × Addr × V)} {ys : List (NestedKey × Addr × Value)} {h' : Heap} (h1 : (a == sysModules) = false) (h2 : xs.length ≤ sizeLine) (r : NP xs ys) (d : h'.DictOfH (nestedKind X.prog X.w) a ys) : ObjOk X.prog X.w H' h' a (NDO a xs) := by
  obtain ⟨o, es, ep, h4, h5, h6, h7, _, h8⟩ := d
  rw [W.p, W.w] at h7
  refine ⟨⟨h1, h2, ys, r, o, es, ep, h4, h5, h6, h7, h8⟩, ⟨o, h4⟩, fun ha hb p st => ?_⟩
  obtain ⟨p1, p2, ys, p3, o, es, ep, p4, p5⟩ := p
  exact ⟨p1, p2, ys, p3, o, es, ep, st _ p4, p5⟩
end
/-- what the nested dict at a holds at the key y -/
def NG (K : PySem.W.Frag) (H : Hp) (a : Addr) (y : V) (o : Option V) : Prop := ∃ xs k b, (H a = some (NDO a xs) ∨ ∃ od, H a = some (.frz od (NDO a xs))) ∧ (∀ x ∈ xs, KeyOk K H x) ∧ y = .ref b ∧ k.depth ≤ 8 ∧ Dp K H (.ref b) (kDat k) ∧ o = (lkN xs k).map (·.2)
def DG (K : PySem.W.Frag) (H : Hp) (a : Addr) (y : V) (o : Option V) : Prop := DGet H a y o ∨ NG K H a y o
section
variable {X : Cx} {pins : List (Addr × Obj)} {σ : St} {H : Hp} {s : Shared} {a : Addr} {y v d : V} {u r : Value} {o : Option V} {A : Around} {E : Value → Shared → Prop}
theorem room8 (hu : A.units + 9 < cLine) : (nestedKind X.prog X.w).room A.in1 := by
  show A.in1.units + 8 < cLine
  rw [Around.in1_units]; omega
theorem n_getItem {Q : Value → Shared → Prop} (W : IsW X) (hu : A.units + 9 < cLine) (I : Inv X pins σ H s) (g : DG X.K H a y (some v)) (ry : RelV y u) (h : ∀ w' s', Inv X pins σ H s' → RelV v w' → Q w' s') :
    wpAny (model X.prog X.w) A (getItem (.ref a) u) Q E s := by
  rcases g with g | ⟨xs, k, b, e, hk, rfl, kd, eb, l⟩
  · exact d_getItem (by omega) I g ry h
  · cases (show u = Value.ref b from ry)
    obtain ⟨_, _, ys, rel, dd⟩ := nd_at W I e hk
    rcases np_find (k := k) rel with ⟨h1, h2⟩ | ⟨b', v', u', h1, h2, h3⟩
    · rw [h1] at l; cases l
    · rw [h1] at l
      cases l
      exact wpAny_getItem_heap (room8 hu) (nest_of I kd eb) dd h2 (h u' _ (I.tok _) h3)
theorem n_in {Q : Value → Shared → Prop} (W : IsW X) (hu : A.units + 9 < cLine) (I : Inv X pins σ H s) (g : DG X.K H a y o) (ry : RelV y u) (h : ∀ s', Inv X pins σ H s' → Q (.bool o.isSome) s') :
    wpAny (model X.prog X.w) A (compareOp .In u (.ref a)) Q E s := by
  rcases g with g | ⟨xs, k, b, e, hk, rfl, kd, eb, l⟩
  · exact d_in (by omega) I g ry h
  · cases (show u = Value.ref b from ry)
    obtain ⟨hs, _, ys, rel, dd⟩ := nd_at W I e hk
    refine wpAny_in_heap (room8 hu) (nest_of I kd eb) hs dd ?_
    have : (atKey ys k).isSome = o.isSome := by
      rw [l]
      rcases np_find (k := k) rel with ⟨h1, h2⟩ | ⟨b', v', u', h1, h2, h3⟩ <;> rw [h1, h2] <;> rfl
    rw [this]
    exact h _ (I.tok _)
theorem n_notIn {Q : Value → Shared → Prop} (W : IsW X) (hu : A.units + 9 < cLine) (I : Inv X pins σ H s) (g : DG X.K H a y o) (ry : RelV y u) (h : ∀ s', Inv X pins σ H s' → Q (.bool (!o.isSome)) s') :
    wpAny (model X.prog X.w) A (compareOp .NotIn u (.ref a)) Q E s := by
  rcases g with g | ⟨xs, k, b, e, hk, rfl, kd, eb, l⟩
  · exact d_notIn (by omega) I g ry h
  · cases (show u = Value.ref b from ry)
    obtain ⟨hs, _, ys, rel, dd⟩ := nd_at W I e hk
    refine notIn_keyed (room8 hu) (nest_of I kd eb) hs ⟨ys, dd, rfl⟩ ?_
    have : (valueAt (pairsH ys) k).isSome = o.isSome := by
      rw [valueAt_pairsH, l]
      rcases np_find (k := k) rel with ⟨h1, h2⟩ | ⟨b', v', u', h1, h2, h3⟩ <;> rw [h1, h2] <;> rfl
    rw [this]
    exact h _ (I.tok _)
theorem n_get1 {Q : Value → Shared → Prop} (W : IsW X) (hu : A.units + 9 < cLine) (I : Inv X pins σ H s) (g : DG X.K H a y o) (ry : RelV y u) (h : ∀ w' s', Inv X pins σ H s' → RelV (o.getD .non) w' → Q w' s') :
    wpAny (model X.prog X.w) A (call (.builtin "dict.get") [.ref a, u]) Q E s := by
  rcases g with g | ⟨xs, k, b, e, hk, rfl, kd, eb, l⟩
  · exact d_get1 (by omega) I g ry h
  · cases (show u = Value.ref b from ry)
    obtain ⟨hs, _, ys, rel, dd⟩ := nd_at W I e hk
    refine call_meetsIn PySem.F.slot_dict_get dd.typeIs PySem.F.entry_dict_get (PySem.F.args_dict_get_2 _ _) (meetsH_dict_get (nestedKind X.prog X.w) a b hs) ⟨room8 hu, k, ys, nest_of I kd eb, dd, h _ _ (I.tok _) ?_⟩
    rw [l]
    rcases np_find (k := k) rel with ⟨h1, h2⟩ | ⟨b', v', u', h1, h2, h3⟩
    · rw [h1, h2]; exact rfl
    · rw [h1, h2]; exact h3
theorem n_get2 {Q : Value → Shared → Prop} (W : IsW X) (hu : A.units + 9 < cLine) (I : Inv X pins σ H s) (g : DG X.K H a y o) (ry : RelV y u) (rd : RelV d r) (h : ∀ w' s', Inv X pins σ H s' → RelV (o.getD d) w' → Q w' s') :
    wpAny (model X.prog X.w) A (call (.builtin "dict.get") [.ref a, u, r]) Q E s := by
  rcases g with g | ⟨xs, k, b, e, hk, rfl, kd, eb, l⟩
  · exact d_get2 (by omega) I g ry rd h
  · cases (show u = Value.ref b from ry)
    obtain ⟨hs, _, ys, rel, dd⟩ := nd_at W I e hk
    refine call_meetsIn PySem.F.slot_dict_get dd.typeIs PySem.F.entry_dict_get (PySem.F.args_dict_get_3 _ _ _) (meetsH_dict_get_default (nestedKind X.prog X.w) a b hs r) ⟨room8 hu, k, ys, nest_of I kd eb, dd, h _ _ (I.tok _) ?_⟩
    rw [l]
    rcases np_find (k := k) rel with ⟨h1, h2⟩ | ⟨b', v', u', h1, h2, h3⟩
    · rw [h1, h2]; exact rd
    · rw [h1, h2]; exact h3
/-- d[y] = v -/
def NPut (K : PySem.W.Frag) (H : Hp) (a : Addr) (y v : V) (H' : Hp) : Prop := ∃ xs k b, H a = some (NDO a xs) ∧ (∀ x ∈ xs, KeyOk K H x) ∧ y = .ref b ∧ k.depth ≤ 8 ∧ Dp K H (.ref b) (kDat k) ∧ xs.length < sizeLine ∧ H' = upd H a (NDO a (stN xs k (fun p => (p.1, v)) (b, v)))
def DP (K : PySem.W.Frag) (H : Hp) (a : Addr) (y v : V) (H' : Hp) : Prop := DPut H a y v H' ∨ NPut K H a y v H'
theorem n_setItem {H' : Hp} {Q : Unit → Shared → Prop} (W : IsW X) (hu : A.units + 9 < cLine) (I : Inv X pins σ H s) (g : DP X.K H a y v H') (ry : RelV y u) (rv : RelV v r) (h : ∀ s', Inv X pins σ H' s' → Q () s') :
    wpAny (model X.prog X.w) A (setItem (.ref a) u r) Q E s := by
  rcases g with g | ⟨xs, k, b, e, hk, rfl, kd, eb, hl, rfl⟩
  · exact d_setItem (by omega) I g ry rv h
  · cases (show u = Value.ref b from ry)
    obtain ⟨hs, hz, ys, rel, dd⟩ := nd_at W I (.inl e) hk
    have hz' : ys.length ≤ sizeLine := by rw [← Paired.length rel]; exact hz
    have hl' : (stN xs k (fun p => (p.1, v)) (b, v)).length ≤ sizeLine := by have := stN_len (kvs := xs) (k := k) (old := fun p => (p.1, v)) (new := (b, v)); omega
    refine wpAny_setItem_heap (hsz := hz') (room8 hu) (nest_of I kd eb) dd fun h' dd' hs' => h _ ?_
    have he : ∃ q, h'.get? a = some q := let ⟨q, _, _, hq, _⟩ := dd'; ⟨q, hq⟩
    exact d_write I (by rw [e]; exact True.intro) hs' he (nd_new W hs hl' (np_store rel rv) dd')
theorem n_typeIs (W : IsW X) (I : Inv X pins σ H s) (g : DG X.K H a y o) : s.TypeIs (.ref a) "dict" := by
  rcases g with g | ⟨xs, k, b, e, hk, _⟩
  · exact dict_typeIs I g
  · obtain ⟨_, _, ys, _, dd⟩ := nd_at W I e hk
    exact dd.typeIs
end
/-- a is a dict -/
def IsDN (K : PySem.W.Frag) (H : Hp) (a : Addr) : Prop := IsD H a ∨ ∃ xs, (H a = some (NDO a xs) ∨ ∃ od, H a = some (.frz od (NDO a xs))) ∧ ∀ x ∈ xs, KeyOk K H x
theorem isDN_at {X : Cx} {pins : List (Addr × Obj)} {σ : St} {H : Hp} {s : Shared} {a : Addr} (W : IsW X) (I : Inv X pins σ H s) (d : IsDN X.K H a) :
    s.TypeIs (.ref a) "dict" ∧ (∀ b, Value.ref a = .ref b → ∃ ob, s.heap.get? b = some ob ∧ ob.dict = none) ∧ (a == sysModules) = false := by
  rcases d with d | ⟨xs, e, hk⟩
  · exact isD_at I d
  · obtain ⟨hs, _, ys, _, dd⟩ := nd_at W I e hk
    refine ⟨dd.typeIs, fun b q => ?_, hs⟩
    cases q
    obtain ⟨ob, _, _, h1, h2, _⟩ := dd
    exact ⟨ob, h1, h2.2.1⟩
section
variable {X : Cx} {o i e f value : Expr} {pos pos' apos cpos : Pos} {td ty tx tv : TE}
theorem pe_ndget (W : IsW X) (hu : X.A.units + 9 < cLine) (ho : PE X o td) (hi : PE X i ty) (hs : NoSl i) : PE X (.Subscript o i pos) (fun σ H Q => td σ H fun x H1 => ty σ H1 fun y H2 => ∃ a v, x = .ref a ∧ DG X.K H2 a y (some v) ∧ Q v H2) := by
  refine ⟨fun pins s σ H Q I h => ?_⟩
  refine subD_of PySem.F.slot_dict_getitem.lookup hs (thn (ho.run pins s σ H _ I h) fun u s1 ⟨x, H1, I1, rx, q1⟩ => thn (hi.run pins s1 σ H1 _ I1 q1) fun iv s2 ⟨y, H2, I2, ry, a, v, ex, g, q2⟩ => ?_)
  subst ex
  obtain rfl : u = Value.ref a := rx
  exact ⟨n_typeIs W I2 g, n_getItem W hu I2 g ry fun w' s3 I3 rw' => ⟨v, H2, I3, rw', q2⟩⟩
theorem pc_nin (W : IsW X) (hu : X.A.units + 9 < cLine) (hi : PE X i ty) (ho : PE X o td) : PC X .In i o (fun σ H Q => ty σ H fun y H1 => td σ H1 fun x H2 => ∃ a o, x = .ref a ∧ DG X.K H2 a y o ∧ Q (.bl o.isSome) H2) := by
  refine ⟨fun pins s σ H Q I h => ?_⟩
  refine thn (hi.run pins s σ H _ I h) fun iv s1 ⟨y, H1, I1, ry, q1⟩ => thn (ho.run pins s1 σ H1 _ I1 q1) fun u s2 ⟨x, H2, I2, rx, a, ov, ex, g, q2⟩ => ?_
  subst ex
  obtain rfl : u = Value.ref a := rx
  exact n_in W hu I2 g ry fun s3 I3 => ⟨.bl ov.isSome, H2, I3, rfl, q2⟩
theorem pc_nnotin (W : IsW X) (hu : X.A.units + 9 < cLine) (hi : PE X i ty) (ho : PE X o td) : PC X .NotIn i o (fun σ H Q => ty σ H fun y H1 => td σ H1 fun x H2 => ∃ a o, x = .ref a ∧ DG X.K H2 a y o ∧ Q (.bl (!o.isSome)) H2) := by
  refine ⟨fun pins s σ H Q I h => ?_⟩
  refine thn (hi.run pins s σ H _ I h) fun iv s1 ⟨y, H1, I1, ry, q1⟩ => thn (ho.run pins s1 σ H1 _ I1 q1) fun u s2 ⟨x, H2, I2, rx, a, ov, ex, g, q2⟩ => ?_
  subst ex
  obtain rfl : u = Value.ref a := rx
  exact n_notIn W hu I2 g ry fun s3 I3 => ⟨.bl (!ov.isSome), H2, I3, rfl, q2⟩
theorem ps_nput (W : IsW X) (hu : X.A.units + 9 < cLine) (ho : PE X o td) (hi : PE X i ty) (hv : PE X value tv) (hs : swapsWith value (some (.Subscript o i pos')) pos.line X.env = pure false) :
    PS X (.Assign [.Subscript o i pos'] value pos) (fun D σ H => tv σ H fun v H1 => td σ H1 fun x H2 => ty σ H2 fun y H3 => ∃ a H4, x = .ref a ∧ DP X.K H3 a y v H4 ∧ D.nx σ H4) := by
  refine ⟨fun pins s σ H D I h => ?_⟩
  refine wpAny_Assign_Subscript (thn (hv.run pins s σ H _ I h) fun r s1 ⟨v, H1, I1, rv, q1⟩ => thn (ho.run pins s1 σ H1 _ I1 q1) fun u s2 ⟨x, H2, I2, rx, q2⟩ => thn (hi.run pins s2 σ H2 _ I2 q2) fun iv s3 ⟨y, H3, I3, ry, a, H4, ex, g, q3⟩ => ?_) hs
  subst ex
  obtain rfl : u = Value.ref a := rx
  exact n_setItem W hu I3 g ry rv fun s4 I4 => ⟨σ, H4, I4, q3⟩
theorem pe_nget1 (W : IsW X) (hu : X.A.units + 9 < cLine) (ho : PE X o td) (he : PE X e ty) (m : M1 X o "get" apos e cpos) : PE X (.Call (.Attribute o "get" apos) [e] [] cpos) (fun σ H Q => td σ H fun x H1 => ∃ a, x = .ref a ∧ IsDN X.K H1 a ∧ ty σ H1 fun y H2 => ∃ o, DG X.K H2 a y o ∧ Q (o.getD .non) H2) := by
  refine ⟨fun pins s σ H Q I h => ?_⟩
  refine wpAny_Call_method m.base m.few m.line PySem.F.plainAttrs_dict PySem.F.slot_dict_get PySem.F.type_dict_get (thn (ho.run pins s σ H _ I h) fun u s1 ⟨x, H1, I1, rx, a, ex, d, q1⟩ => ?_)
  subst ex
  obtain rfl : u = Value.ref a := rx
  obtain ⟨t1, t2, _⟩ := isDN_at W I1 d
  refine ⟨t1, t2, ?_⟩
  rw [m.trees]
  refine Calls.callWith_builtin rfl (Calls.evalArgs_plain (Calls.spliced_cons (thn (he.run pins s1 σ H1 _ I1 q1) fun iv s2 ⟨y, H2, I2, ry, ov, g, q2⟩ => Calls.spliced_nil ?_)))
  exact n_get1 W hu I2 g ry fun w' s3 I3 rw' => ⟨_, H2, I3, rw', q2⟩
theorem pe_nget2 (W : IsW X) (hu : X.A.units + 9 < cLine) (ho : PE X o td) (he : PE X e ty) (hf : PE X f tx) (m : M2 X o "get" apos e f cpos) : PE X (.Call (.Attribute o "get" apos) [e, f] [] cpos) (fun σ H Q => td σ H fun x H1 => ∃ a, x = .ref a ∧ IsDN X.K H1 a ∧ ty σ H1 fun y H2 => tx σ H2 fun z H3 => ∃ o, DG X.K H3 a y o ∧ Q (o.getD z) H3) := by
  refine ⟨fun pins s σ H Q I h => ?_⟩
  refine wpAny_Call_method m.base m.few m.line PySem.F.plainAttrs_dict PySem.F.slot_dict_get PySem.F.type_dict_get (thn (ho.run pins s σ H _ I h) fun u s1 ⟨x, H1, I1, rx, a, ex, d, q1⟩ => ?_)
  subst ex
  obtain rfl : u = Value.ref a := rx
  obtain ⟨t1, t2, _⟩ := isDN_at W I1 d
  refine ⟨t1, t2, ?_⟩
  rw [m.trees]
  refine Calls.callWith_builtin rfl (Calls.evalArgs_plain (Calls.spliced_cons (thn (he.run pins s1 σ H1 _ I1 q1) fun iv s2 ⟨y, H2, I2, ry, q2⟩ => Calls.spliced_cons (thn (hf.run pins s2 σ H2 _ I2 q2) fun fv s3 ⟨z, H3, I3, rz, ov, g, q3⟩ => Calls.spliced_nil ?_))))
  exact n_get2 W hu I3 g ry rz fun w' s4 I4 rw' => ⟨_, H3, I4, rw', q3⟩
/-- {}: an empty dict for tuple keys -/
theorem nd_empty (W : IsW X) {H : Hp} (h : Heap) (hb : sysModules < h.objs.size) : ObjOk X.prog X.w H (h.push { cls := .type "dict", data := .dict #[] }) h.objs.size (NDO h.objs.size []) :=
  nd_new W (beq_eq_false_iff_ne.mpr (Ne.symm (Nat.ne_of_lt hb))) (Nat.zero_le _) .nil (Heap.DictOfH.new h)
theorem pe_ndnew (W : IsW X) : PE X (.Dict [] [] pos) (fun _ H Q => ∀ p, H p = none → Q (.ref p) (upd H p (NDO p []))) := ⟨fun pins s σ H Q I h =>
  wpAny_Dict_empty ⟨.ref s.heap.objs.size, _, I.laid (a := s.heap.objs.size) (o := NDO s.heap.objs.size []) (t' := s.toks) (fun _ _ q => Heap.get?_push_of_some _ q) (Nat.le_refl _) (nd_empty W s.heap I.big), rfl, h _ (I.hok.fresh (Nat.le_refl _))⟩⟩
/-- {k: v}, k a tuple -/
theorem dict_pairsH {prog : Program} {w : World} {A : Around} {E : Value → Shared → Prop} {s : Shared} {knd : HeapKind prog w NestedKey} {env : PySem.Env} {keys : List (Option Expr)} {values : List Expr} {pairs : List (Sem Value × Sem Value)} {Q : Value → Shared → Prop} (hu : knd.room A)
    (hshape : (evalEachOpt keys env).zip ((evalEach values env).map fun v => do let x ← v; standAt pos; pure x) = pairs.map fun p => (some p.1, p.2)) (h0 : pairs ≠ []) (hlen : pairs.length ≤ 15)
    (h : wpAny (model prog w) A (evalPairs pairs) (fun vs s₁ => ∃ ps, CarriesH knd s₁.heap vs ps ∧ s₁.heap.DictOfH knd s.heap.objs.size [] ∧
      ∀ h' tk, h'.DictOfH knd s.heap.objs.size (storedAllH [] ps) → Heap.SameBut s.heap.objs.size s₁.heap h' → Q (.ref s.heap.objs.size) { s₁ with heap := h', toks := tk }) E
      { s with heap := s.heap.push { cls := .type "dict", data := .dict #[] } }) :
    wpAny (model prog w) A (eval (.Dict keys values pos) env) Q E s := by
  rw [arm_eval_Dict, hshape, dictDisplay_pairs pairs h0 (by omega)]
  exact wpAny_bind (wpAny_standAt (wpAny_bind (wpAny_subDictH (knd := knd) (Q := fun d s' => wpAny (model prog w) A (pure (Value.ref d)) Q E s') hu hlen
    (wpAny_mono h (fun vs s₁ h₁ => by obtain ⟨ps, hc, hm, hq⟩ := h₁; exact ⟨ps, hc, hm, fun h' tk a b => wpAny_pure (hq h' tk a b)⟩) fun _ _ e => e))))
theorem pe_nd1 (W : IsW X) (hu : X.A.units + 8 < cLine) (hk : PE X i ty) (hv : PE X value tv) : PE X (.Dict [some i] [value] pos) (fun σ H Q => ∀ p, H p = none → tPairs [(ty, tv)] σ (upd H p (NDO p [])) fun ps H2 => ∃ k b z, ps = [(.ref b, z)] ∧ k.depth ≤ 8 ∧ H2 p = some (NDO p []) ∧ Dp X.K H2 (.ref b) (kDat k) ∧ Q (.ref p) (upd H2 p (NDO p [(k, b, z)]))) := by
  refine ⟨fun pins s σ H Q I q => ?_⟩
  have hn := I.hok.fresh (Nat.le_refl s.heap.objs.size)
  have I1 := I.laid (a := s.heap.objs.size) (o := NDO s.heap.objs.size []) (h' := s.heap.push { cls := .type "dict", data := .dict #[] }) (t' := s.toks) (fun _ _ q => Heap.get?_push_of_some _ q) (Nat.le_refl _) (nd_empty W s.heap I.big)
  have hp : PPs X pos [some i] [value] [(ty, tv)] := pps_cons hk hv pps_nil
  refine dict_pairsH (knd := nestedKind X.prog X.w) (pairs := pairTrees [some i] [value] X.env pos) hu rfl (by simp [pairTrees]) (by simp [pairTrees]) (thn (hp.run pins _ σ _ _ I1 (q _ hn)) fun ws s2 hh => ?_)
  obtain ⟨ps, H2, I2, rel, k, b, z, ep, kd, e, eb, q2⟩ := hh
  subst ep
  cases rel with
  | cons h t =>
    cases t
    rename_i w2
    obtain ⟨w2a, w2b⟩ := w2
    obtain ⟨h1, h2⟩ := h
    obtain rfl : w2a = Value.ref b := h1
    have kn := nest_of I2 kd eb
    obtain ⟨hs, _, ys, rel0, dd⟩ := nd_at W I2 (.inl e) (by intro x hx; cases hx)
    cases rel0
    refine ⟨[(k, b, w2b)], ⟨rfl, rfl, kn, trivial⟩, dd, fun h' tk dk hs' => ?_⟩
    have he : ∃ q, h'.get? s.heap.objs.size = some q := let ⟨q, _, _, hq, _⟩ := dk; ⟨q, hq⟩
    exact ⟨.ref s.heap.objs.size, _, d_write I2 (by rw [e]; exact True.intro) hs' he (nd_new W hs (by rw [sizeLine_eq]; exact (by decide : 1 ≤ 16777216)) (.cons ⟨rfl, rfl, h2⟩ .nil) dk), rfl, q2⟩
end
end DL

namespace DL
open PySem PySem.Spec L2
variable [TheW]
/-! ### dicts in mirrors -/
mutual
def nkOf : D → Option NestedKey
  | .none => some .none
  | .int i => some (.num i)
  | .str x => some (.text x)
  | .tuple ds => (nkAll ds).map .tup
  | _ => none
def nkAll : List D → Option (List NestedKey)
  | [] => some []
  | d :: ds => match nkOf d, nkAll ds with
    | some k, some ks => some (k :: ks)
    | _, _ => none
end
omit [TheW] in
mutual
theorem nk_dat : ∀ {d : D} {k : NestedKey}, nkOf d = some k → kDat k = d
  | .none, _, h => by simp [nkOf] at h; subst h; rfl
  | .int _, _, h => by simp [nkOf] at h; subst h; rfl
  | .str _, _, h => by simp [nkOf] at h; subst h; rfl
  | .tuple ds, _, h => by
    simp only [nkOf] at h
    cases hk : nkAll ds with
    | none => rw [hk] at h; cases h
    | some ks =>
      rw [hk] at h
      cases h
      show PyData.tuple (NestedKey.datas ks) = _
      rw [nk_dats hk]
  | .bool _, _, h => by simp [nkOf] at h
  | .list _, _, h => by simp [nkOf] at h
  | .dict _, _, h => by simp [nkOf] at h
theorem nk_dats : ∀ {ds : List D} {ks : List NestedKey}, nkAll ds = some ks → NestedKey.datas ks = ds
  | [], _, h => by simp [nkAll] at h; subst h; rfl
  | d :: ds, _, h => by
    simp only [nkAll] at h
    cases h1 : nkOf d with
    | none => rw [h1] at h; cases h
    | some k =>
      cases h2 : nkAll ds with
      | none => rw [h1, h2] at h; cases h
      | some ks =>
        rw [h1, h2] at h
        cases h
        have e1 := nk_dat h1
        have e2 := nk_dats h2
        show k.data :: NestedKey.datas ks = _
        rw [e2, show k.data = d from e1]
end
def keyN (d : D) : Option NestedKey := match d with
  | .tuple _ => (match nkOf d with
    | some k => if k.depth ≤ 8 then some k else none
    | none => none)
  | _ => none
omit [TheW] in
theorem keyN_some {d : D} {k : NestedKey} (h : keyN d = some k) : kDat k = d ∧ k.depth ≤ 8 ∧ ∃ ds, d = .tuple ds := by
  unfold keyN at h
  split at h
  · rename_i ds
    cases h1 : nkOf (.tuple ds) with
    | none => rw [h1] at h; cases h
    | some k' =>
      rw [h1] at h
      simp only at h
      split at h
      · rename_i hd
        cases h
        exact ⟨nk_dat h1, hd, ds, rfl⟩
      · cases h
  · cases h
def keyK : D → Option Key
  | .int i => some (.inl i)
  | .str x => some (.inr x)
  | _ => none
def kD : Key → D
  | .inl i => .int i
  | .inr x => .str x
omit [TheW] in
theorem keyK_some {d : D} {k : Key} (h : keyK d = some k) : d = kD k := by
  cases d <;> simp [keyK] at h <;> subst h <;> rfl
def lkK {β : Type} (kvs : List (Key × β)) (k : Key) : Option β := (kvs.find? fun x => decide (x.1 = k)).map (·.2)
def stK {β : Type} (kvs : List (Key × β)) (k : Key) (v : β) : List (Key × β) := if (lkK kvs k).isSome = true then kvs.map (fun x => if x.1 = k then (x.1, v) else x) else kvs ++ [(k, v)]
def isDict : S → Bool
  | .odk _ | .odt _ | .odl _ => true
  | _ => false
def dLook : S → D → Option (Option D)
  | .odk kvs, d => (keyK d).map fun k => lkK kvs k
  | .odt kvs, d => (keyN d).map fun k => lkN kvs k
  | .odl kvs, d => (keyN d).map fun k => lkN kvs k
  | _, _ => none
def dLen : S → Option D
  | .odk kvs => some (.int kvs.length)
  | .odt kvs => some (.int kvs.length)
  | .odl kvs => some (.int kvs.length)
  | _ => none
def dPut : S → D → D → Option S
  | .odk kvs, d, v => (keyK d).bind fun k => if kvs.length < big then some (.odk (stK kvs k v)) else none
  | .odt kvs, d, v => (keyN d).bind fun k => if kvs.length < big then some (.odt (stN kvs k (fun _ => v) v)) else none
  | _, _, _ => none
/-- the dict at a, seen -/
def DV (K : PySem.W.Frag) (P : Addr → Prop) (o : Ow) (H : Hp) (a : Addr) (s : S) : Prop := OwnOk K (hd (hid P o) H) H a s
def ROD (K : PySem.W.Frag) (G : Hp) : Option D → Option V → Prop
  | none, none => True
  | some d, some v => Dp K G v d
  | _, _ => False
section
variable {K : PySem.W.Frag} {P : Addr → Prop} {o : Ow} {ρ : Env} {σ : St} {H G : Hp} {i : Nat} {a : Addr} {s : S} {y v : V} {d : D} {r : Option D}
theorem At.dictAt (h : At K P o ρ σ H) (e : ρ[i]? = some (some s)) (hd' : isDict s = true) : ∃ a, σ[i]? = some (some (V.ref a)) ∧ DV K P o H a s := by
  have ho : s.isOwn = true := by cases s <;> first | rfl | cases hd'
  obtain ⟨a, q⟩ := h.ow i s e ho
  obtain ⟨s', h1, h2, h3⟩ := h.has i a q
  rw [e] at h1
  cases h1
  exact ⟨a, h2, h3⟩
theorem kvk_get {vs : List (Key × V)} {ds : List (Key × D)} (h : KvOk K G vs ds) (k : Key) : ROD K G (lkK ds k) (valV vs k) := by
  induction h with
  | nil => exact trivial
  | @cons k' v d vs ds hv _ ih =>
    by_cases e : k' = k
    · simpa [lkK, valV, e, ROD] using hv
    · simpa [lkK, valV, e] using ih
theorem nv_get {vs : List (NestedKey × Addr × V)} {ds : List (NestedKey × D)} (h : NvOk K G vs ds) (k : NestedKey) : ROD K G (lkN ds k) ((lkN vs k).map (·.2)) := by
  induction h with
  | nil => exact trivial
  | @cons k' b v d vs ds hd' hb hv _ ih =>
    by_cases e : k' = k
    · simpa [lkN, e, ROD] using hv
    · simpa [lkN, e] using ih
theorem nv_keys {vs : List (NestedKey × Addr × V)} {ds : List (NestedKey × D)} (h : NvOk K G vs ds) : ∀ x ∈ vs, KeyOk K G x := by
  induction h with
  | nil => intro x hx; cases hx
  | cons hd' hb hv _ ih =>
    intro x hx
    rcases List.mem_cons.mp hx with rfl | hx
    · exact ⟨hd', hb⟩
    · exact ih x hx
theorem nv_len {vs : List (NestedKey × Addr × V)} {ds : List (NestedKey × D)} (h : NvOk K G vs ds) : vs.length = ds.length := by
  induction h with
  | nil => rfl
  | cons _ _ _ _ ih => simp [ih]
theorem kv_len {vs : List (Key × V)} {ds : List (Key × D)} (h : KvOk K G vs ds) : vs.length = ds.length := by
  induction h with
  | nil => rfl
  | cons _ _ ih => simp [ih]
theorem keyK_v {k : Key} (h : Dp K G y (kD k)) : y = kV k := by
  cases k with
  | inl i => exact dp_int h
  | inr x => exact dp_str h
theorem dv_dg (h : DV K P o H a s) (hy : Dp K (hd (hid P o) H) y d) (hl : dLook s d = some r) : ∃ ov, DG K H a y ov ∧ ROD K (hd (hid P o) H) r ov := by
  have nst : ∀ (kvs : List (NestedKey × D)) (vs : List (NestedKey × Addr × V)) (k : NestedKey), keyN d = some k → r = lkN kvs k → NvOk K (hd (hid P o) H) vs kvs → (H a = some (NDO a vs) ∨ ∃ od, H a = some (.frz od (NDO a vs))) → ∃ ov, DG K H a y ov ∧ ROD K (hd (hid P o) H) r ov := by
    intro kvs vs k hk hr hn hH
    obtain ⟨e1, e2, ds, e3⟩ := keyN_some hk
    subst hr
    have hy' : Dp K H y (kDat k) := by rw [e1]; exact dp_mono ex_hd hy
    have hyr : ∃ b, y = .ref b := by
      subst e3
      obtain ⟨b, _, h1, _⟩ := dp_tup hy
      exact ⟨b, h1⟩
    obtain ⟨b, rfl⟩ := hyr
    exact ⟨_, .inr ⟨vs, k, b, hH, fun x hx => ⟨(nv_keys hn x hx).1, dp_mono ex_hd (nv_keys hn x hx).2⟩, rfl, e2, hy', rfl⟩, nv_get hn k⟩
  cases s with
  | odk kvs =>
    obtain ⟨vs, h1, h2⟩ := h
    have hl : (keyK d).map (fun k => lkK kvs k) = some r := hl
    cases hk : keyK d with
    | none => rw [hk] at hl; cases hl
    | some k =>
      rw [hk] at hl
      cases hl
      rw [keyK_some hk] at hy
      exact ⟨_, .inl (.inl ⟨vs, k, .inl h1, keyK_v hy, rfl⟩), kvk_get h2 k⟩
  | odt kvs =>
    obtain ⟨vs, h1, h2⟩ := h
    have hl : (keyN d).map (fun k => lkN kvs k) = some r := hl
    cases hk : keyN d with
    | none => rw [hk] at hl; cases hl
    | some k =>
      rw [hk] at hl
      cases hl
      exact nst kvs vs k hk rfl h2 (.inl h1)
  | odl kvs =>
    obtain ⟨vs, ⟨od, h1⟩, h2⟩ := h
    have hl : (keyN d).map (fun k => lkN kvs k) = some r := hl
    cases hk : keyN d with
    | none => rw [hk] at hl; cases hl
    | some k =>
      rw [hk] at hl
      cases hl
      exact nst kvs vs k hk rfl h2 (.inr ⟨od, h1⟩)
  | dat _ => cases hl
  | own _ => cases hl
theorem dv_is (h : DV K P o H a s) (hd' : isDict s = true) : IsDN K H a := by
  cases s with
  | odk kvs => obtain ⟨vs, h1, h2⟩ := h; exact .inl (.inl ⟨vs, .inl h1⟩)
  | odt kvs => obtain ⟨vs, h1, h2⟩ := h; exact .inr ⟨vs, .inl h1, fun x hx => ⟨(nv_keys h2 x hx).1, dp_mono ex_hd (nv_keys h2 x hx).2⟩⟩
  | odl kvs => obtain ⟨vs, h1, h2⟩ := h; exact .inr ⟨vs, .inr h1, fun x hx => ⟨(nv_keys h2 x hx).1, dp_mono ex_hd (nv_keys h2 x hx).2⟩⟩
  | dat _ => cases hd'
  | own _ => cases hd'
end
/-! ### mirrors -/
/-- a dict's question: of what it holds at a key -/
def gDix (s : S) (d : D) : Option D := match dLook s d with
  | some (some z) => some z
  | _ => none
def gDin (neg : Bool) (s : S) (d : D) : Option D := (dLook s d).map fun r => .bool (if neg = true then !r.isSome else r.isSome)
def gDg1 (s : S) (d : D) : Option D := (dLook s d).map fun r => r.getD .none
def gDg2 (s : S) (d x : D) : Option D := (dLook s d).map fun r => r.getD x
/-- NAME[k], NAME.get(k) -/
def mS1 (i : Nat) (fk : EM) (g : S → D → Option D) : EM := fun ρ => match ρ[i]? with
  | some (some s) => if isDict s = true then bindD fk (fun d ρ1 => match ρ1[i]? with
    | some (some s1) => if isDict s1 = true then optD (g s1 d) ρ1 else none
    | _ => none) ρ else none
  | _ => none
def mS1x (i : Nat) (fk fx : EM) (g : S → D → D → Option D) : EM := fun ρ => match ρ[i]? with
  | some (some s) => if isDict s = true then bindD fk (fun d => bindD fx fun x ρ1 => match ρ1[i]? with
    | some (some s1) => if isDict s1 = true then optD (g s1 d x) ρ1 else none
    | _ => none) ρ else none
  | _ => none
/-- k in NAME -/
def mS2 (i : Nat) (fk : EM) (g : S → D → Option D) : EM := bindD fk fun d ρ1 => match ρ1[i]? with
  | some (some s) => if isDict s = true then optD (g s d) ρ1 else none
  | _ => none
/-- of a new dict -/
def mF1 (fo fk : EM) (g : S → D → Option D) : EM := bindE fo fun s => if isDict s = true then bindD fk fun d => optD (g s d) else failE
def mF1x (fo fk fx : EM) (g : S → D → D → Option D) : EM := bindE fo fun s => if isDict s = true then bindD fk fun d => bindD fx fun x => optD (g s d x) else failE
def mF2 (fk fo : EM) (g : S → D → Option D) : EM := bindD fk fun d => bindE fo fun s => if isDict s = true then optD (g s d) else failE
def dSet (i : Nat) (fv fk : EM) : SM := bindS fv fun s ρ => match s.toD, ρ[i]? with
  | some v, some (some s0) => if isDict s0 = true then bindS fk (fun sk ρ1 => match sk.toD, ρ1[i]? with
    | some d, some (some s1) => (match dPut s1 d v with
      | some s2 => some (.nx (ρ1.set i (some s2)))
      | none => none)
    | _, _ => none) ρ else none
  | _, _ => none
section
variable {X : Cx} {E : XK} {np k i : Nat} {x : Str} {o e f : Expr} {fo fe ff fv : EM} {pos npos p2 apos cpos : Pos}
theorem units9 (hr : Room k X.A) : X.A.units + 9 < cLine := by have := hr.un; omega
/-- what is asked of the dict in slot i, behind e -/
theorem s1_go {K : PySem.W.Frag} {mg : Str → Option Value} {g : S → D → Option D} {σ : St} {H : Hp} {Q : VK} (h : tE K mg E (mS1 i fe g) σ H Q) : ∃ a, σ[i]? = some (some (V.ref a)) ∧ IsDN K H a ∧
    tE K mg E fe σ H fun y H1 => ∃ P o ρ s d z, At K P o ρ σ H1 ∧ isDict s = true ∧ DV K P o H1 a s ∧ Dp K (hd (hid P o) H1) y d ∧ g s d = some z ∧ ∀ v H2, Ex H1 H2 → Dp K (hd (hid P o) H2) v z → Q v H2 := by
  obtain ⟨P, o, ρ, res, a, e, p⟩ := h
  unfold mS1 at e
  cases hi : ρ[i]? with
  | none => rw [hi] at e; cases e
  | some s =>
    rw [hi] at e
    cases s with
    | none => cases e
    | some s =>
      simp only at e
      split at e
      · rename_i hd'
        obtain ⟨b, hb, hv⟩ := a.dictAt hi hd'
        refine ⟨b, hb, dv_is hv hd', ?_⟩
        refine tE_mono (fun y H1 h => ?_) (bindD_go a .refl e p)
        obtain ⟨ρ1, d, c1, c2, a1, dy, e⟩ := h
        cases hi1 : ρ1[i]? with
        | none => rw [hi1] at e; cases e
        | some s1 =>
          rw [hi1] at e
          cases s1 with
          | none => cases e
          | some s1 =>
            simp only at e
            split at e
            · rename_i hd1
              obtain ⟨z, hz, rfl⟩ := optD_some e
              obtain ⟨b', hb', hv'⟩ := a1.dictAt hi1 hd1
              rw [hb] at hb'
              cases hb'
              exact ⟨P, o, ρ1, s1, d, z, a1, hd1, hv', dy, hz, fun v H2 ex dz => p v H2 (c2.trans (.of ex)) ⟨a1.ext ex, dz⟩⟩
            · cases e
      · cases e
theorem s1x_go {K : PySem.W.Frag} {mg : Str → Option Value} {g : S → D → D → Option D} {σ : St} {H : Hp} {Q : VK} (h : tE K mg E (mS1x i fe ff g) σ H Q) : ∃ a, σ[i]? = some (some (V.ref a)) ∧ IsDN K H a ∧
    tE K mg E fe σ H fun y H1 => tE K mg E ff σ H1 fun w H1 => ∃ P o ρ s d x z, At K P o ρ σ H1 ∧ isDict s = true ∧ DV K P o H1 a s ∧ Dp K (hd (hid P o) H1) y d ∧ Dp K (hd (hid P o) H1) w x ∧ g s d x = some z ∧ ∀ v H2, Ex H1 H2 → Dp K (hd (hid P o) H2) v z → Q v H2 := by
  obtain ⟨P, o, ρ, res, a, e, p⟩ := h
  unfold mS1x at e
  cases hi : ρ[i]? with
  | none => rw [hi] at e; cases e
  | some s =>
    rw [hi] at e
    cases s with
    | none => cases e
    | some s =>
      simp only at e
      split at e
      · rename_i hd'
        obtain ⟨b, hb, hv⟩ := a.dictAt hi hd'
        refine ⟨b, hb, dv_is hv hd', ?_⟩
        refine tE_mono (fun y H1 h => ?_) (bindD_go a .refl e p)
        obtain ⟨ρ0, d, c1, c2, a0, dy, e⟩ := h
        refine tE_mono (fun w H2 h => ?_) (bindD_go a0 c2 e p)
        obtain ⟨ρ1, x, c3, c4, a1, dx, e⟩ := h
        cases hi1 : ρ1[i]? with
        | none => rw [hi1] at e; cases e
        | some s1 =>
          rw [hi1] at e
          cases s1 with
          | none => cases e
          | some s1 =>
            simp only at e
            split at e
            · rename_i hd1
              obtain ⟨z, hz, rfl⟩ := optD_some e
              obtain ⟨b', hb', hv'⟩ := a1.dictAt hi1 hd1
              rw [hb] at hb'
              cases hb'
              exact ⟨P, o, ρ1, s1, d, x, z, a1, hd1, hv', dp_mono c3.ex dy, dx, hz, fun v H2 ex dz => p v H2 (c4.trans (.of ex)) ⟨a1.ext ex, dz⟩⟩
            · cases e
      · cases e
theorem s2_go {K : PySem.W.Frag} {mg : Str → Option Value} {g : S → D → Option D} {σ : St} {H : Hp} {Q : VK} (h : tE K mg E (mS2 i fe g) σ H Q) :
    tE K mg E fe σ H fun y H1 => ∃ a P o ρ s d z, σ[i]? = some (some (V.ref a)) ∧ At K P o ρ σ H1 ∧ isDict s = true ∧ DV K P o H1 a s ∧ Dp K (hd (hid P o) H1) y d ∧ g s d = some z ∧ ∀ v H2, Ex H1 H2 → Dp K (hd (hid P o) H2) v z → Q v H2 := by
  obtain ⟨P, o, ρ, res, a, e, p⟩ := h
  refine tE_mono (fun y H1 h => ?_) (bindD_go a .refl e p)
  obtain ⟨ρ1, d, c1, c2, a1, dy, e⟩ := h
  cases hi1 : ρ1[i]? with
  | none => rw [hi1] at e; cases e
  | some s1 =>
    rw [hi1] at e
    cases s1 with
    | none => cases e
    | some s1 =>
      simp only at e
      split at e
      · rename_i hd1
        obtain ⟨z, hz, rfl⟩ := optD_some e
        obtain ⟨b', hb', hv'⟩ := a1.dictAt hi1 hd1
        exact ⟨b', P, o, ρ1, s1, d, z, hb', a1, hd1, hv', dy, hz, fun v H2 ex dz => p v H2 (c2.trans (.of ex)) ⟨a1.ext ex, dz⟩⟩
      · cases e
theorem gDix_some {s : S} {d z : D} (h : gDix s d = some z) : dLook s d = some (some z) := by
  unfold gDix at h
  split at h
  · rename_i z' hz; cases h; exact hz
  · cases h
/-- NAME[k] -/
theorem pd_sdix (W : IsW X) (hr : Room k X.A) (hN : X.N[i]? = some x) (hv : Vis X.env.scope x) (he : PD X E e fe) (hs : NoSl e := by intro _ _; rfl) (hd : (x == ("__debug__" : Str)) = false := by decide) (hcd : (x == ("__classdict__" : Str)) = false := by decide) : PD X E (.Subscript (.Name x npos) e pos) (mS1 i fe gDix) := by
  refine PE.imp (pe_ndget W (units9 hr) (pe_var hN hv hd hcd) he hs) fun σ H Q h => ?_
  obtain ⟨a, ha, _, h⟩ := s1_go h
  refine ⟨.ref a, ha, tE_mono (fun y H1 h => ?_) h⟩
  obtain ⟨P, o, ρ, s, d, z, a1, hd1, hv', dy, hz, q⟩ := h
  obtain ⟨ov, g1, g2⟩ := dv_dg hv' dy (gDix_some hz)
  cases ov with
  | none => exact False.elim g2
  | some v => exact ⟨a, v, rfl, g1, q v H1 (.refl _) g2⟩
theorem din_go {K : PySem.W.Frag} {P : Addr → Prop} {o : Ow} {H : Hp} {a : Addr} {s : S} {y : V} {d z : D} {neg : Bool} (hv : DV K P o H a s) (dy : Dp K (hd (hid P o) H) y d) (hz : gDin neg s d = some z) : ∃ ov, DG K H a y ov ∧ z = .bool (if neg = true then !ov.isSome else ov.isSome) := by
  unfold gDin at hz
  cases hl : dLook s d with
  | none => rw [hl] at hz; cases hz
  | some r =>
    rw [hl] at hz
    cases hz
    obtain ⟨ov, g1, g2⟩ := dv_dg hv dy hl
    refine ⟨ov, g1, ?_⟩
    cases r <;> cases ov <;> first | rfl | exact False.elim g2
theorem pd_sdin (W : IsW X) (hr : Room k X.A) (hN : X.N[i]? = some x) (hv : Vis X.env.scope x) (he : PD X E e fe) (hm : behindInMarks .In (.Name x npos) = false := by with_unfolding_all rfl) (hd : (x == ("__debug__" : Str)) = false := by decide) (hcd : (x == ("__classdict__" : Str)) = false := by decide) : PD X E (.Compare e [.In] [.Name x npos] pos) (mS2 i fe (gDin false)) := by
  refine PE.imp (pe_cmp (pc_nin W (units9 hr) he (pe_var hN hv hd hcd)) hm) fun σ H Q h => ?_
  refine tE_mono (fun y H1 h => ?_) (s2_go h)
  obtain ⟨a, P, o, ρ, s, d, z, ha, a1, hd1, hv', dy, hz, q⟩ := h
  obtain ⟨ov, g1, rfl⟩ := din_go hv' dy hz
  exact ⟨.ref a, ha, a, ov, rfl, g1, q _ H1 (.refl _) (.bl _)⟩
theorem pd_sdnin (W : IsW X) (hr : Room k X.A) (hN : X.N[i]? = some x) (hv : Vis X.env.scope x) (he : PD X E e fe) (hm : behindInMarks .NotIn (.Name x npos) = false := by with_unfolding_all rfl) (hd : (x == ("__debug__" : Str)) = false := by decide) (hcd : (x == ("__classdict__" : Str)) = false := by decide) : PD X E (.Compare e [.NotIn] [.Name x npos] pos) (mS2 i fe (gDin true)) := by
  refine PE.imp (pe_cmp (pc_nnotin W (units9 hr) he (pe_var hN hv hd hcd)) hm) fun σ H Q h => ?_
  refine tE_mono (fun y H1 h => ?_) (s2_go h)
  obtain ⟨a, P, o, ρ, s, d, z, ha, a1, hd1, hv', dy, hz, q⟩ := h
  obtain ⟨ov, g1, rfl⟩ := din_go hv' dy hz
  exact ⟨.ref a, ha, a, ov, rfl, g1, q _ H1 (.refl _) (.bl _)⟩
theorem pdt_sdin (W : IsW X) (hr : Room k X.A) (hN : X.N[i]? = some x) (hv : Vis X.env.scope x) (he : PD X E e fe) (hm : behindInMarks .In (.Name x npos) = false := by with_unfolding_all rfl) (hd : (x == ("__debug__" : Str)) = false := by decide) (hcd : (x == ("__classdict__" : Str)) = false := by decide) : PDT X E (.Compare e [.In] [.Name x npos] pos) (mS2 i fe (gDin false)) := by
  refine PT.imp (pt_cmp (pc_nin W (units9 hr) he (pe_var hN hv hd hcd)) hm) fun σ H Q h => ?_
  obtain ⟨P, o, ρ, res, a, e, p⟩ := h
  refine tE_mono (fun y H1 h => ?_) (s2_go ⟨P, o, ρ, res, a, e, p.val⟩)
  obtain ⟨a, P, o, ρ, s, d, z, ha, a1, hd1, hv', dy, hz, q⟩ := h
  obtain ⟨ov, g1, rfl⟩ := din_go hv' dy hz
  exact ⟨.ref a, ha, a, ov, rfl, g1, q _ H1 (.refl _) (.bl _)⟩
theorem pdt_sdnin (W : IsW X) (hr : Room k X.A) (hN : X.N[i]? = some x) (hv : Vis X.env.scope x) (he : PD X E e fe) (hm : behindInMarks .NotIn (.Name x npos) = false := by with_unfolding_all rfl) (hd : (x == ("__debug__" : Str)) = false := by decide) (hcd : (x == ("__classdict__" : Str)) = false := by decide) : PDT X E (.Compare e [.NotIn] [.Name x npos] pos) (mS2 i fe (gDin true)) := by
  refine PT.imp (pt_cmp (pc_nnotin W (units9 hr) he (pe_var hN hv hd hcd)) hm) fun σ H Q h => ?_
  obtain ⟨P, o, ρ, res, a, e, p⟩ := h
  refine tE_mono (fun y H1 h => ?_) (s2_go ⟨P, o, ρ, res, a, e, p.val⟩)
  obtain ⟨a, P, o, ρ, s, d, z, ha, a1, hd1, hv', dy, hz, q⟩ := h
  obtain ⟨ov, g1, rfl⟩ := din_go hv' dy hz
  exact ⟨.ref a, ha, a, ov, rfl, g1, q _ H1 (.refl _) (.bl _)⟩
/-- NAME.get(k), NAME.get(k, x) -/
theorem pd_sdg1 (W : IsW X) (hr : Room k X.A) (hN : X.N[i]? = some x) (hv : Vis X.env.scope x) (he : PD X E e fe) (m : M1 X (.Name x npos) "get" apos e cpos := by exact ⟨rfl, rfl, rfl, rfl⟩) (hd : (x == ("__debug__" : Str)) = false := by decide) (hcd : (x == ("__classdict__" : Str)) = false := by decide) : PD X E (.Call (.Attribute (.Name x npos) "get" apos) [e] [] cpos) (mS1 i fe gDg1) := by
  refine PE.imp (pe_nget1 W (units9 hr) (pe_var hN hv hd hcd) he m) fun σ H Q h => ?_
  obtain ⟨a, ha, hi, h⟩ := s1_go h
  refine ⟨.ref a, ha, a, rfl, hi, tE_mono (fun y H1 h => ?_) h⟩
  obtain ⟨P, o, ρ, s, d, z, a1, hd1, hv', dy, hz, q⟩ := h
  unfold gDg1 at hz
  cases hl : dLook s d with
  | none => rw [hl] at hz; cases hz
  | some r =>
    rw [hl] at hz
    cases hz
    obtain ⟨ov, g1, g2⟩ := dv_dg hv' dy hl
    refine ⟨ov, g1, q _ H1 (.refl _) ?_⟩
    cases r <;> cases ov <;> first | exact False.elim g2 | exact .non | exact g2
theorem pd_sdg2 (W : IsW X) (hr : Room k X.A) (hN : X.N[i]? = some x) (hv : Vis X.env.scope x) (he : PD X E e fe) (hf : PD X E f ff) (m : M2 X (.Name x npos) "get" apos e f cpos := by exact ⟨rfl, rfl, rfl, rfl⟩) (hd : (x == ("__debug__" : Str)) = false := by decide) (hcd : (x == ("__classdict__" : Str)) = false := by decide) : PD X E (.Call (.Attribute (.Name x npos) "get" apos) [e, f] [] cpos) (mS1x i fe ff gDg2) := by
  refine PE.imp (pe_nget2 W (units9 hr) (pe_var hN hv hd hcd) he hf m) fun σ H Q h => ?_
  obtain ⟨a, ha, hi, h⟩ := s1x_go h
  refine ⟨.ref a, ha, a, rfl, hi, tE_mono (fun y H1 h => tE_mono (fun w H2 h => ?_) h) h⟩
  obtain ⟨P, o, ρ, s, d, xx, z, a1, hd1, hv', dy, dx, hz, q⟩ := h
  unfold gDg2 at hz
  cases hl : dLook s d with
  | none => rw [hl] at hz; cases hz
  | some r =>
    rw [hl] at hz
    cases hz
    obtain ⟨ov, g1, g2⟩ := dv_dg hv' dy hl
    refine ⟨ov, g1, q _ H2 (.refl _) ?_⟩
    cases r <;> cases ov <;> first | exact False.elim g2 | exact dx | exact g2
end
end DL

namespace DL
open PySem PySem.Spec L2
variable [TheW]
/-! ### stores -/
section
variable {K : PySem.W.Frag} {P : Addr → Prop} {o : Ow} {ρ : Env} {σ : St} {H G : Hp} {i : Nat} {a : Addr} {s s2 : S} {y v : V} {d dv : D} {r : Option D}
theorem kvk_put {vs : List (Key × V)} {ds : List (Key × D)} (h : KvOk K G vs ds) (k : Key) (hv : Dp K G v dv) : KvOk K G (putK vs k v) (stK ds k dv) := by
  have rm : KvOk K G (vs.map (fun x => if x.1 = k then (x.1, v) else x)) (ds.map (fun x => if x.1 = k then (x.1, dv) else x)) := by
    induction h with
    | nil => exact .nil
    | @cons k' w d vs ds hw _ ih =>
      by_cases e : k' = k
      · simp only [List.map_cons, e, if_true]; exact .cons hv ih
      · simp only [List.map_cons, e, if_false]; exact .cons hw ih
  have ra : KvOk K G (vs ++ [(k, v)]) (ds ++ [(k, dv)]) := by
    clear rm
    induction h with
    | nil => exact .cons hv .nil
    | cons hw _ ih => exact .cons hw ih
  unfold putK stK
  have := kvk_get h k
  rw [valV_any]
  cases h1 : lkK ds k <;> cases h2 : valV vs k <;> rw [h1, h2] at this
  · exact ra
  · exact False.elim this
  · exact False.elim this
  · exact rm
theorem nv_put {vs : List (NestedKey × Addr × V)} {ds : List (NestedKey × D)} {k : NestedKey} {b : Addr} (h : NvOk K G vs ds) (hk : k.depth ≤ 8) (hb : Dp K G (.ref b) (kDat k)) (hv : Dp K G v dv) : NvOk K G (stN vs k (fun p => (p.1, v)) (b, v)) (stN ds k (fun _ => dv) dv) := by
  have rm : NvOk K G (vs.map (fun x => if x.1 = k then (x.1, (x.2.1, v)) else x)) (ds.map (fun x => if x.1 = k then (x.1, dv) else x)) := by
    induction h with
    | nil => exact .nil
    | @cons k' b' w d vs ds h1 h2 h3 _ ih =>
      by_cases e : k' = k
      · simp only [List.map_cons, e, if_true]; subst e; exact .cons h1 h2 hv ih
      · simp only [List.map_cons, e, if_false]; exact .cons h1 h2 h3 ih
  have ra : NvOk K G (vs ++ [(k, b, v)]) (ds ++ [(k, dv)]) := by
    clear rm
    induction h with
    | nil => exact .cons hk hb hv .nil
    | cons h1 h2 h3 _ ih => exact .cons h1 h2 h3 ih
  unfold stN
  have := nv_get h k
  cases h1 : lkN ds k <;> cases h2 : lkN vs k <;> rw [h1, h2] at this
  · exact ra
  · exact False.elim this
  · exact False.elim this
  · exact rm
/-- an own dict is written -/
theorem own_put (hh : o i = some a) (hw : OwnOk K (hd (hid P o) H) H a s) (hy : Dp K (hd (hid P o) H) y d) (hv : Dp K (hd (hid P o) H) v dv) (hp : dPut s d dv = some s2) :
    ∃ w, DP K H a y v (upd H a w) ∧ OwnOk K (hd (hid P o) H) (upd H a w) a s2 ∧ ∃ u, H a = some u ∧ ∀ od z, u ≠ .frz od z := by
  cases s with
  | odk kvs =>
    obtain ⟨vs, h1, h2⟩ := hw
    have hp : ((keyK d).bind fun k => if kvs.length < big then some (S.odk (stK kvs k dv)) else none) = some s2 := hp
    cases hk : keyK d with
    | none => rw [hk] at hp; cases hp
    | some k =>
      rw [hk] at hp
      have hp : (if kvs.length < big then some (S.odk (stK kvs k dv)) else none) = some s2 := hp
      split at hp
      · rename_i hl
        cases hp
        rw [keyK_some hk] at hy
        exact ⟨_, .inl (.inl ⟨vs, k, h1, keyK_v hy, by rw [kv_len h2]; exact big_lt hl, rfl⟩), ⟨_, upd_same, kvk_put h2 k hv⟩, _, h1, fun _ _ z => nomatch z⟩
      · cases hp
  | odt kvs =>
    obtain ⟨vs, h1, h2⟩ := hw
    have hp : ((keyN d).bind fun k => if kvs.length < big then some (S.odt (stN kvs k (fun _ => dv) dv)) else none) = some s2 := hp
    cases hk : keyN d with
    | none => rw [hk] at hp; cases hp
    | some k =>
      rw [hk] at hp
      have hp : (if kvs.length < big then some (S.odt (stN kvs k (fun _ => dv) dv)) else none) = some s2 := hp
      split at hp
      · rename_i hl
        cases hp
        obtain ⟨e1, e2, ds, e3⟩ := keyN_some hk
        subst e3
        obtain ⟨b, _, rfl, _⟩ := dp_tup hy
        rw [← e1] at hy
        exact ⟨_, .inr ⟨vs, k, b, h1, fun x hx => ⟨(nv_keys h2 x hx).1, dp_mono ex_hd (nv_keys h2 x hx).2⟩, rfl, e2, dp_mono ex_hd hy, by rw [nv_len h2]; exact big_lt hl, rfl⟩, ⟨_, upd_same, nv_put h2 e2 hy hv⟩, _, h1, fun _ _ z => by unfold NDO at z; cases z⟩
      · cases hp
  | dat _ => cases hp
  | own _ => cases hp
  | odl _ => cases hp
end
section
variable {X : Cx} {E : XK} {np k i : Nat} {x : Str} {o e f : Expr} {fo fe ff fv : EM} {pos npos p2 apos cpos pos' : Pos}
/-- NAME[k] = v -/
theorem pds_dset (W : IsW X) (hr : Room k X.A) (hN : X.N[i]? = some x) (hv : Vis X.env.scope x) (he : PD X E e fv) (hi : PD X E f fe) (hs : swapsWith e (some (.Subscript (.Name x npos) f pos')) pos.line X.env = pure false := by rfl) (hd : (x == ("__debug__" : Str)) = false := by decide) (hcd : (x == ("__classdict__" : Str)) = false := by decide) :
    PDS X E np (.Assign [.Subscript (.Name x npos) f pos'] e pos) (dSet i fv fe) := by
  refine PS.imp (ps_nput W (units9 hr) (pe_var hN hv hd hcd) hi he hs) fun D σ H h => ?_
  obtain ⟨P, o, ρ, fl, a, e, p⟩ := h
  refine tE_mono (fun y H1 h => ?_) (bindS_go a e p)
  obtain ⟨ρ1, s, c, ok, e⟩ := h
  cases hs : s.toD with
  | none => simp only [hs] at e; cases e
  | some dv =>
    obtain ⟨a1, dy⟩ := ok.toD hs
    simp only [hs] at e
    cases hi1 : ρ1[i]? with
    | none => rw [hi1] at e; cases e
    | some s1 =>
      rw [hi1] at e
      cases s1 with
      | none => cases e
      | some s0 =>
        simp only at e
        split at e
        · rename_i hd0
          obtain ⟨b, hb, _⟩ := a1.dictAt hi1 hd0
          refine ⟨.ref b, hb, tE_mono (fun z H2 h => ?_) (bindS_go a1 e (p.later (ChgS.of c)))⟩
          obtain ⟨ρ2, t, c2, ok2, e⟩ := h
          cases ht : t.toD with
          | none => simp only [ht] at e; cases e
          | some d =>
            obtain ⟨a2, dz⟩ := ok2.toD ht
            simp only [ht] at e
            cases hi2 : ρ2[i]? with
            | none => rw [hi2] at e; cases e
            | some s2 =>
              rw [hi2] at e
              cases s2 with
              | none => cases e
              | some s2 =>
                simp only at e
                cases hp : dPut s2 d dv with
                | none => rw [hp] at e; cases e
                | some s3 =>
                  rw [hp] at e
                  cases e
                  have ho2 : s2.isOwn = true := by
                    cases s2 <;> first | rfl | cases hp
                  obtain ⟨b2, hb2⟩ := a2.ow i s2 hi2 ho2
                  obtain ⟨s2', k1, k2, k3⟩ := a2.has i b2 hb2
                  rw [hi2] at k1
                  cases k1
                  rw [hb] at k2
                  cases k2
                  obtain ⟨w, q1, q2, u, hu, hnf⟩ := own_put hb2 k3 dz (dp_mono c2.ex dy) hp
                  exact ⟨b, _, rfl, q1, p o σ _ (((ChgS.of c).trans (.of c2)).trans (chgS_put hb2 hu hnf)) (a2.putS hb2 q2)⟩
        · cases e
/-! ### len -/
def rLenN (K : PySem.W.Frag) : List V → Hp → VK → Prop := fun xs H Q => ∃ a, xs = [.ref a] ∧ ((∃ kvs, Rd H a (.dK kvs) ∧ Q (.int kvs.length) H) ∨ ∃ vs, (H a = some (NDO a vs) ∨ ∃ od, H a = some (.frz od (NDO a vs))) ∧ (∀ x ∈ vs, KeyOk K H x) ∧ Q (.int vs.length) H)
theorem call_lenN (W : IsW X) : CallR X (.builtin "len") (rLenN X.K) := by
  intro pins s σ H xs us Q I r h
  obtain ⟨a, rfl, h⟩ := h
  obtain ⟨u, rfl, ru⟩ := vals1 r
  cases ru
  rcases h with ⟨kvs, ha, q⟩ | ⟨vs, ha, hk, q⟩
  · exact d_len I ha fun t s' I' => ⟨.int kvs.length, H, I', ⟨t, rfl⟩, q⟩
  · obtain ⟨hs, z, ys, rel, dd⟩ := nd_at W I ha hk
    have hl : vs.length = ys.length := Paired.length rel
    refine call_len_dictH hs dd (by rw [← hl]; rw [sizeLine_eq] at z; omega) ?_
    rw [← hl]
    exact ⟨.int ((vs.length : Nat) : Int), H, I.tok _, ⟨_, rfl⟩, q⟩
theorem dv_len {K : PySem.W.Frag} {P : Addr → Prop} {o : Ow} {H : Hp} {a : Addr} {s : S} {z : D} {Q : VK} (h : DV K P o H a s) (hz : dLen s = some z) (q : ∀ v, Dp K (hd (hid P o) H) v z → Q v H) : rLenN K [.ref a] H Q := by
  cases s with
  | odk kvs => obtain ⟨vs, h1, h2⟩ := h; cases hz; exact ⟨a, rfl, .inl ⟨vs, .inl h1, q _ (by rw [kv_len h2]; exact .int _)⟩⟩
  | odt kvs => obtain ⟨vs, h1, h2⟩ := h; cases hz; exact ⟨a, rfl, .inr ⟨vs, .inl h1, fun x hx => ⟨(nv_keys h2 x hx).1, dp_mono ex_hd (nv_keys h2 x hx).2⟩, q _ (by rw [nv_len h2]; exact .int _)⟩⟩
  | odl kvs => obtain ⟨vs, h1, h2⟩ := h; cases hz; exact ⟨a, rfl, .inr ⟨vs, .inr h1, fun x hx => ⟨(nv_keys h2 x hx).1, dp_mono ex_hd (nv_keys h2 x hx).2⟩, q _ (by rw [nv_len h2]; exact .int _)⟩⟩
  | dat _ => cases hz
  | own _ => cases hz
def mSlen (i : Nat) : EM := fun ρ => match ρ[i]? with
  | some (some s) => if isDict s = true then optD (dLen s) ρ else none
  | _ => none
def mFlen (fo : EM) : EM := bindE fo fun s => if isDict s = true then optD (dLen s) else failE
theorem pd_slen (W : IsW X) (B : Bi X.mg) (hN : X.N[i]? = some x) (hv : Vis X.env.scope x) (hg : Gl X "len" := by rfl) (hs : starEach [.Name x npos] X.env = (false, eval (.Name x npos) X.env) :: starEach [] X.env := by rfl) (hpl : (backTo pos (starEach ([] : List Expr) X.env)).any (·.1) = false := by rfl) (hd : (x == ("__debug__" : Str)) = false := by decide) (hcd : (x == ("__classdict__" : Str)) = false := by decide) : PD X E (.Call (.Name "len" p2) [.Name x npos] [] pos) (mSlen i) := by
  refine PE.imp (pe_callB (call_lenN W) hg B.len (by decide +kernel) (pa_cons (pe_var hN hv hd hcd) pa_nil hs) (by decide) (by decide) hs hpl) fun σ H Q h => ?_
  obtain ⟨P, o, ρ, res, a, e, p⟩ := h
  unfold mSlen at e
  cases hi : ρ[i]? with
  | none => rw [hi] at e; cases e
  | some s =>
    rw [hi] at e
    cases s with
    | none => cases e
    | some s =>
      simp only at e
      split at e
      · rename_i hd'
        obtain ⟨z, hz, rfl⟩ := optD_some e
        obtain ⟨b, hb, hv'⟩ := a.dictAt hi hd'
        exact ⟨.ref b, hb, dv_len hv' hz fun v dz => p v H .refl ⟨a, dz⟩⟩
      · cases e
/-! ### new dicts, asked at once -/
/-- f gives a new dict at a -/
theorem fresh_go {K : PySem.W.Frag} {mg : Str → Option Value} {kk : S → EM} {P : Addr → Prop} {o : Ow} {ρ : Env} {res : R × Env} {σ : St} {H : Hp} {Q : VK} (a : At K P o ρ σ H) (e : bindE fo (fun s => if isDict s = true then kk s else failE) ρ = some res) (p : Post K mg E P o σ H Q res) :
    tE K mg E fo σ H fun y H1 => ∃ b s ρ1, y = .ref b ∧ isDict s = true ∧ At K (plusA P b) o ρ1 σ H1 ∧ H b = none ∧ ¬ hid P o b ∧ OwnOk K (hd (hid (plusA P b) o) H1) H1 b s ∧ kk s ρ1 = some res ∧ Chg o H H1 := by
  refine tE_mono (fun y H1 h => ?_) (bind_go a .refl e p)
  obtain ⟨ρ1, s, c1, c2, ok, e⟩ := h
  split at e
  · rename_i hd'
    have gen : (∃ a, y = .ref a ∧ H a = none ∧ ¬ hid P o a ∧ At K (plusA P a) o ρ1 σ H1 ∧ OwnOk K (hd (hid (plusA P a) o) H1) H1 a s) → ∃ b s ρ1, y = .ref b ∧ isDict s = true ∧ At K (plusA P b) o ρ1 σ H1 ∧ H b = none ∧ ¬ hid P o b ∧ OwnOk K (hd (hid (plusA P b) o) H1) H1 b s ∧ kk s ρ1 = some res ∧ Chg o H H1 :=
      fun ⟨b, h1, h2, h3, h4, h5⟩ => ⟨b, s, ρ1, h1, hd', h4, h2, h3, h5, e, c1⟩
    cases s with
    | dat _ => cases hd'
    | own _ => cases hd'
    | odk _ => exact gen ok
    | odt _ => exact gen ok
    | odl _ => exact gen ok
  · cases e
theorem ex_plusA {P : Addr → Prop} {o : Ow} {H : Hp} {b : Addr} : Ex (hd (hid (plusA P b) o) H) (hd (hid P o) H) := ex_hd_le fun c z => z.elim (fun z => .inl (.inl z)) .inr
/-- the post at more that is hidden -/
theorem Post.hide {K : PySem.W.Frag} {mg : Str → Option Value} {P : Addr → Prop} {o : Ow} {res : R × Env} {σ : St} {H H1 : Hp} {Q : VK} {b : Addr} (p : Post K mg E P o σ H Q res) (c : Chg o H H1) (hs : ∀ s ρ', res = (.ok s, ρ') → ∃ d, s = .dat d) : Post K mg E (plusA P b) o σ H1 Q res := by
  obtain ⟨r, ρ'⟩ := res
  cases r with
  | ok s =>
    obtain ⟨d, rfl⟩ := hs s ρ' rfl
    exact fun v H' c' k => p v H' (c.trans c') ⟨k.1.less fun _ z => .inl z, dp_mono ex_plusA k.2⟩
  | ex n pl => exact fun cls dx H' c' a x => p cls dx H' (c.trans c') (a.less fun _ z => .inl z) (x.up ex_plusA)
theorem OwnOk.chg {K : PySem.W.Frag} {P : Addr → Prop} {o : Ow} {H1 H2 : Hp} {b : Addr} {s : S} (h : OwnOk K (hd (hid (plusA P b) o) H1) H1 b s) (nb : ¬ Own o b) (c : Chg o H1 H2) : OwnOk K (hd (hid (plusA P b) o) H2) H2 b s := h.imp c.ex fun u hu => c.keep b u hu nb
theorem bindD_dat {f : EM} {kk : D → EM} {ρ ρ' : Env} {s' : S} (hk : ∀ d ρ1 s' ρ', kk d ρ1 = some (.ok s', ρ') → ∃ z, s' = .dat z) (e : bindD f kk ρ = some (.ok s', ρ')) : ∃ z, s' = .dat z := by
  unfold bindD bindE at e
  cases hf : f ρ with
  | none => rw [hf] at e; cases e
  | some r =>
    obtain ⟨r, ρ1⟩ := r
    rw [hf] at e
    cases r with
    | ex c p => cases e
    | ok s =>
      simp only at e
      cases hs : s.toD with
      | none => rw [hs] at e; cases e
      | some d => rw [hs] at e; exact hk d _ _ _ e
theorem optD_dat {x : Option D} {ρ ρ' : Env} {s' : S} (e : optD x ρ = some (.ok s', ρ')) : ∃ z, s' = .dat z := by
  obtain ⟨z, hz, er⟩ := optD_some e
  cases er
  exact ⟨z, rfl⟩
/-- (..)[k] -/
theorem f1_go {K : PySem.W.Frag} {mg : Str → Option Value} {g : S → D → Option D} {σ : St} {H : Hp} {Q : VK} (h : tE K mg E (mF1 fo fe g) σ H Q) :
    tE K mg E fo σ H fun x H1 => ∃ b, x = .ref b ∧ IsDN K H1 b ∧ tE K mg E fe σ H1 fun y H2 => ∃ P o ρ s d z, isDict s = true ∧ At K P o ρ σ H2 ∧ DV K P o H2 b s ∧ Dp K (hd (hid P o) H2) y d ∧ g s d = some z ∧ ∀ v H3, Ex H2 H3 → Dp K (hd (hid P o) H3) v z → Q v H3 := by
  obtain ⟨P, o, ρ, res, a, e, p⟩ := h
  refine tE_mono (fun x H1 h => ?_) (fresh_go a e p)
  obtain ⟨b, s, ρ1, rfl, hd', a1, hb, hnb, ok, e, c1⟩ := h
  refine ⟨b, rfl, dv_is (P := plusA P b) (o := o) ok hd', ?_⟩
  have dat : ∀ s' ρ', res = (.ok s', ρ') → ∃ d, s' = .dat d := fun s' ρ' er => by
    subst er
    exact bindD_dat (fun _ _ _ _ => optD_dat) e
  refine tE_mono (fun y H2 h => ?_) (bindD_go a1 .refl e (p.hide c1 dat))
  obtain ⟨ρ2, d, c2, c3, a2, dy, e⟩ := h
  obtain ⟨z, hz, rfl⟩ := optD_some e
  refine ⟨plusA P b, o, ρ2, s, d, z, hd', a2, (ok.chg (fun z => hnb (.inr z)) c2), dy, hz, fun v H3 ex dz => ?_⟩
  exact p v H3 ((c1.trans c2).trans (.of ex)) ⟨(a2.ext ex).less fun _ z => .inl z, dp_mono ex_plusA dz⟩
theorem f1x_go {K : PySem.W.Frag} {mg : Str → Option Value} {g : S → D → D → Option D} {σ : St} {H : Hp} {Q : VK} (h : tE K mg E (mF1x fo fe ff g) σ H Q) :
    tE K mg E fo σ H fun x H1 => ∃ b, x = .ref b ∧ IsDN K H1 b ∧ tE K mg E fe σ H1 fun y H2 => tE K mg E ff σ H2 fun w H2 => ∃ P o ρ s d x z, isDict s = true ∧ At K P o ρ σ H2 ∧ DV K P o H2 b s ∧ Dp K (hd (hid P o) H2) y d ∧ Dp K (hd (hid P o) H2) w x ∧ g s d x = some z ∧ ∀ v H3, Ex H2 H3 → Dp K (hd (hid P o) H3) v z → Q v H3 := by
  obtain ⟨P, o, ρ, res, a, e, p⟩ := h
  refine tE_mono (fun x H1 h => ?_) (fresh_go a e p)
  obtain ⟨b, s, ρ1, rfl, hd', a1, hb, hnb, ok, e, c1⟩ := h
  refine ⟨b, rfl, dv_is (P := plusA P b) (o := o) ok hd', ?_⟩
  have dat : ∀ s' ρ', res = (.ok s', ρ') → ∃ d, s' = .dat d := fun s' ρ' er => by
    subst er
    exact bindD_dat (fun _ _ _ _ => bindD_dat fun _ _ _ _ => optD_dat) e
  refine tE_mono (fun y H2 h => ?_) (bindD_go a1 .refl e (p.hide c1 dat))
  obtain ⟨ρ2, d, c2, c3, a2, dy, e⟩ := h
  refine tE_mono (fun w H3 h => ?_) (bindD_go a2 c3 e (p.hide c1 dat))
  obtain ⟨ρ3, x, c4, c5, a3, dx, e⟩ := h
  obtain ⟨z, hz, rfl⟩ := optD_some e
  refine ⟨plusA P b, o, ρ3, s, d, x, z, hd', a3, ((ok.chg (fun z => hnb (.inr z)) c2).chg (fun z => hnb (.inr z)) c4), dp_mono c4.ex dy, dx, hz, fun v H3 ex dz => ?_⟩
  exact p v H3 ((c1.trans c5).trans (.of ex)) ⟨(a3.ext ex).less fun _ z => .inl z, dp_mono ex_plusA dz⟩
theorem f2_go {K : PySem.W.Frag} {mg : Str → Option Value} {g : S → D → Option D} {σ : St} {H : Hp} {Q : VK} (h : tE K mg E (mF2 fe fo g) σ H Q) :
    tE K mg E fe σ H fun y H1 => tE K mg E fo σ H1 fun x H2 => ∃ b, x = .ref b ∧ ∃ P o ρ s d z, isDict s = true ∧ At K P o ρ σ H2 ∧ DV K P o H2 b s ∧ Dp K (hd (hid P o) H2) y d ∧ g s d = some z ∧ ∀ v H3, Ex H2 H3 → Dp K (hd (hid P o) H3) v z → Q v H3 := by
  obtain ⟨P, o, ρ, res, a, e, p⟩ := h
  refine tE_mono (fun y H1 h => ?_) (bindD_go a .refl e p)
  obtain ⟨ρ1, d, c1, _, a1, dy, e⟩ := h
  refine tE_mono (fun x H2 h => ?_) (fresh_go a1 e (p.later c1))
  obtain ⟨b, s, ρ2, rfl, hd', a2, hb, hnb, ok, e, c2⟩ := h
  obtain ⟨z, hz, rfl⟩ := optD_some e
  have ex2 : Ex (hd (hid P o) H1) (hd (hid (plusA P b) o) H2) := fun u w hu => by
    obtain ⟨n, hu⟩ := hd_some.mp hu
    refine hd_some.mpr ⟨fun z => ?_, c2.keep u w hu fun z => n (.inr z)⟩
    rcases z with (z | z) | z
    · exact n (.inl z)
    · rw [z, hb] at hu; cases hu
    · exact n (.inr z)
  refine ⟨b, rfl, plusA P b, o, ρ2, s, d, z, hd', a2, ok, dp_mono ex2 dy, hz, fun v H3 ex dz => ?_⟩
  exact p v H3 ((c1.trans c2).trans (.of ex)) ⟨(a2.ext ex).less fun _ z => .inl z, dp_mono ex_plusA dz⟩
theorem pd_fdix (W : IsW X) (hr : Room k X.A) (ho : PD X E o fo) (he : PD X E e fe) (hs : NoSl e := by intro _ _; rfl) : PD X E (.Subscript o e pos) (mF1 fo fe gDix) := by
  refine PE.imp (pe_ndget W (units9 hr) ho he hs) fun σ H Q h => tE_mono (fun x H1 h => ?_) (f1_go h)
  obtain ⟨b, rfl, _, h⟩ := h
  refine tE_mono (fun y H2 h => ?_) h
  obtain ⟨P, o, ρ, s, d, z, hd1, a1, hv', dy, hz, q⟩ := h
  obtain ⟨ov, g1, g2⟩ := dv_dg hv' dy (gDix_some hz)
  cases ov with
  | none => exact False.elim g2
  | some v => exact ⟨b, v, rfl, g1, q v H2 (.refl _) g2⟩
theorem pd_fdg1 (W : IsW X) (hr : Room k X.A) (ho : PD X E o fo) (he : PD X E e fe) (m : M1 X o "get" apos e cpos := by exact ⟨rfl, rfl, rfl, rfl⟩) : PD X E (.Call (.Attribute o "get" apos) [e] [] cpos) (mF1 fo fe gDg1) := by
  refine PE.imp (pe_nget1 W (units9 hr) ho he m) fun σ H Q h => tE_mono (fun x H1 h => ?_) (f1_go h)
  obtain ⟨b, rfl, hi, h⟩ := h
  refine ⟨b, rfl, hi, tE_mono (fun y H2 h => ?_) h⟩
  obtain ⟨P, o, ρ, s, d, z, hd1, a1, hv', dy, hz, q⟩ := h
  unfold gDg1 at hz
  cases hl : dLook s d with
  | none => rw [hl] at hz; cases hz
  | some r =>
    rw [hl] at hz
    cases hz
    obtain ⟨ov, g1, g2⟩ := dv_dg hv' dy hl
    refine ⟨ov, g1, q _ H2 (.refl _) ?_⟩
    cases r <;> cases ov <;> first | exact False.elim g2 | exact .non | exact g2
theorem pd_fdg2 (W : IsW X) (hr : Room k X.A) (ho : PD X E o fo) (he : PD X E e fe) (hf : PD X E f ff) (m : M2 X o "get" apos e f cpos := by exact ⟨rfl, rfl, rfl, rfl⟩) : PD X E (.Call (.Attribute o "get" apos) [e, f] [] cpos) (mF1x fo fe ff gDg2) := by
  refine PE.imp (pe_nget2 W (units9 hr) ho he hf m) fun σ H Q h => tE_mono (fun x H1 h => ?_) (f1x_go h)
  obtain ⟨b, rfl, hi, h⟩ := h
  refine ⟨b, rfl, hi, tE_mono (fun y H2 h => tE_mono (fun w H2 h => ?_) h) h⟩
  obtain ⟨P, o, ρ, s, d, x, z, hd1, a1, hv', dy, dx, hz, q⟩ := h
  unfold gDg2 at hz
  cases hl : dLook s d with
  | none => rw [hl] at hz; cases hz
  | some r =>
    rw [hl] at hz
    cases hz
    obtain ⟨ov, g1, g2⟩ := dv_dg hv' dy hl
    refine ⟨ov, g1, q _ H2 (.refl _) ?_⟩
    cases r <;> cases ov <;> first | exact False.elim g2 | exact dx | exact g2
theorem pd_fdin (W : IsW X) (hr : Room k X.A) (he : PD X E e fe) (ho : PD X E o fo) (hm : behindInMarks .In o = false := by with_unfolding_all rfl) : PD X E (.Compare e [.In] [o] pos) (mF2 fe fo (gDin false)) := by
  refine PE.imp (pe_cmp (pc_nin W (units9 hr) he ho) hm) fun σ H Q h => tE_mono (fun y H1 h => tE_mono (fun x H2 h => ?_) h) (f2_go h)
  obtain ⟨b, rfl, P, o, ρ, s, d, z, hd1, a1, hv', dy, hz, q⟩ := h
  obtain ⟨ov, g1, rfl⟩ := din_go hv' dy hz
  exact ⟨b, ov, rfl, g1, q _ H2 (.refl _) (.bl _)⟩
theorem pd_fdnin (W : IsW X) (hr : Room k X.A) (he : PD X E e fe) (ho : PD X E o fo) (hm : behindInMarks .NotIn o = false := by with_unfolding_all rfl) : PD X E (.Compare e [.NotIn] [o] pos) (mF2 fe fo (gDin true)) := by
  refine PE.imp (pe_cmp (pc_nnotin W (units9 hr) he ho) hm) fun σ H Q h => tE_mono (fun y H1 h => tE_mono (fun x H2 h => ?_) h) (f2_go h)
  obtain ⟨b, rfl, P, o, ρ, s, d, z, hd1, a1, hv', dy, hz, q⟩ := h
  obtain ⟨ov, g1, rfl⟩ := din_go hv' dy hz
  exact ⟨b, ov, rfl, g1, q _ H2 (.refl _) (.bl _)⟩
theorem pdt_fdin (W : IsW X) (hr : Room k X.A) (he : PD X E e fe) (ho : PD X E o fo) (hm : behindInMarks .In o = false := by with_unfolding_all rfl) : PDT X E (.Compare e [.In] [o] pos) (mF2 fe fo (gDin false)) := by
  refine PT.imp (pt_cmp (pc_nin W (units9 hr) he ho) hm) fun σ H Q h => ?_
  obtain ⟨P, o, ρ, res, a, e, p⟩ := h
  refine tE_mono (fun y H1 h => tE_mono (fun x H2 h => ?_) h) (f2_go ⟨P, o, ρ, res, a, e, p.val⟩)
  obtain ⟨b, rfl, P, o, ρ, s, d, z, hd1, a1, hv', dy, hz, q⟩ := h
  obtain ⟨ov, g1, rfl⟩ := din_go hv' dy hz
  exact ⟨b, ov, rfl, g1, q _ H2 (.refl _) (.bl _)⟩
theorem pdt_fdnin (W : IsW X) (hr : Room k X.A) (he : PD X E e fe) (ho : PD X E o fo) (hm : behindInMarks .NotIn o = false := by with_unfolding_all rfl) : PDT X E (.Compare e [.NotIn] [o] pos) (mF2 fe fo (gDin true)) := by
  refine PT.imp (pt_cmp (pc_nnotin W (units9 hr) he ho) hm) fun σ H Q h => ?_
  obtain ⟨P, o, ρ, res, a, e, p⟩ := h
  refine tE_mono (fun y H1 h => tE_mono (fun x H2 h => ?_) h) (f2_go ⟨P, o, ρ, res, a, e, p.val⟩)
  obtain ⟨b, rfl, P, o, ρ, s, d, z, hd1, a1, hv', dy, hz, q⟩ := h
  obtain ⟨ov, g1, rfl⟩ := din_go hv' dy hz
  exact ⟨b, ov, rfl, g1, q _ H2 (.refl _) (.bl _)⟩
theorem pd_flen (W : IsW X) (B : Bi X.mg) (ho : PD X E o fo) (hg : Gl X "len" := by rfl) (hs : starEach [o] X.env = (false, eval o X.env) :: starEach [] X.env := by rfl) (hpl : (backTo pos (starEach ([] : List Expr) X.env)).any (·.1) = false := by rfl) : PD X E (.Call (.Name "len" p2) [o] [] pos) (mFlen fo) := by
  refine PE.imp (pe_callB (call_lenN W) hg B.len (by decide +kernel) (pa_cons ho pa_nil hs) (by decide) (by decide) hs hpl) fun σ H Q h => ?_
  obtain ⟨P, o, ρ, res, a, e, p⟩ := h
  refine tE_mono (fun x H1 h => ?_) (fresh_go a e p)
  obtain ⟨b, s, ρ1, rfl, hd', a1, hb, hnb, ok, e, c1⟩ := h
  obtain ⟨z, hz, rfl⟩ := optD_some e
  exact dv_len (P := plusA P b) (o := o) ok hz fun v dz => p v H1 c1 ⟨a1.less fun _ z => .inl z, dp_mono ex_plusA dz⟩
end
end DL

namespace DL
open PySem PySem.Spec L2
variable [TheW]
/-! ### displays of dicts -/
def mDN0 : EM := fun ρ => some (.ok (.odt []), ρ)
def mDK0 : EM := fun ρ => some (.ok (.odk []), ρ)
def mDN1 (fk fv : EM) : EM := bindD fk fun d => bindD fv fun v ρ => match keyN d with
  | some k => some (.ok (.odt [(k, v)]), ρ)
  | none => none
def parD : List EM → Env → Option (Sum (List D) (Str × Option D) × Env)
  | [], ρ => some (.inl [], ρ)
  | f :: fs, ρ => match f ρ with
    | some (.ok s, ρ1) => (match s.toD with
      | some d => (match parD fs ρ1 with
        | some (.inl ds, ρ2) => some (.inl (d :: ds), ρ2)
        | some (.inr x, ρ2) => some (.inr x, ρ2)
        | none => none)
      | none => none)
    | some (.ex c p, ρ1) => some (.inr (c, p), ρ1)
    | none => none
def nodK : List Key → Bool
  | [] => true
  | k :: ks => (ks.all fun k' => decide (k' ≠ k)) && nodK ks
def mDK (ks : List Key) (fs : List EM) : EM := fun ρ => if nodK ks = true ∧ ks.length = fs.length ∧ ks.length ≤ 15 then (match parD fs ρ with
  | some (.inl ds, ρ1) => some (.ok (.odk (ks.zip ds)), ρ1)
  | some (.inr (c, p), ρ1) => some (.ex c p, ρ1)
  | none => none) else none
section
variable {K : PySem.W.Frag} {mg : Str → Option Value} {E : XK} {P : Addr → Prop} {o : Ow} {ρ : Env} {σ : St} {H H1 : Hp} {Q : VK} {res : R × Env} {b : Addr}
theorem Post.hideX (p : Post K mg E P o σ H Q res) (c : Chg o H H1) : Post K mg E (plusA P b) o σ H1 (fun _ _ => True) res := by
  obtain ⟨r, ρ'⟩ := res
  cases r with
  | ok s => exact fun _ _ _ _ => trivial
  | ex n pl => exact fun cls dx H' c' a x => p cls dx H' (c.trans c') (a.less fun _ z => .inl z) (x.up ex_plusA)
theorem chg_new {p : Addr} {u : HO} (hp : H p = none) : Chg o H (upd H p u) := .of (.new hp)
/-- behind a new object that was changed while it was hidden -/
theorem chg_new2 {p : Addr} {u u' : HO} (hp : H p = none) (c : Chg o (upd H p u) H1) : Chg o H (upd H1 p u') := ⟨fun a w h n => by
    rw [upd_ne (ne_of_none h hp)]
    exact c.keep a w (by rw [upd_ne (ne_of_none h hp)]; exact h) n, fun a w h => by
    obtain ⟨w', h'⟩ := c.dom a w (by rw [upd_ne (ne_of_none h hp)]; exact h)
    exact ⟨w', by rw [upd_ne (ne_of_none h hp)]; exact h'⟩, fun a od w h => by
    rw [upd_ne (ne_of_none h hp)]
    exact c.frz a od w (by rw [upd_ne (ne_of_none h hp)]; exact h)⟩
theorem hd_hid_upd {p : Addr} {u : HO} : hd (hid (plusA P p) o) (upd H p u) = hd (hid (plusA P p) o) H := by
  funext z
  unfold hd
  split
  · rfl
  · rename_i hne
    exact upd_ne fun q => hne (by rw [q]; exact .inl (.inr rfl))
theorem not_hid (a : At K P o ρ σ H) {p : Addr} (hp : H p = none) : ¬ hid P o p := fun z => by
  obtain ⟨u, k⟩ := a.domH z
  rw [hp] at k; cases k
end
section
variable {X : Cx} {E : XK} {e f v : Expr} {fk fv : EM} {pos : Pos}
theorem pd_dn0 (W : IsW X) : PD X E (.Dict [] [] pos) mDN0 := PE.imp (pe_ndnew W) fun σ H Q h => by
  obtain ⟨P, o, ρ, res, a, e, p⟩ := h
  cases e
  refine fun q hq => p _ _ (chg_new hq) ⟨q, rfl, hq, not_hid a hq, a.plus hq, [], upd_same, .nil⟩
theorem pd_dk0 : PD X E (.Dict [] [] pos) mDK0 := PE.imp pe_dnewK fun σ H Q h => by
  obtain ⟨P, o, ρ, res, a, e, p⟩ := h
  cases e
  refine fun q hq => p _ _ (chg_new hq) ⟨q, rfl, hq, not_hid a hq, a.plus hq, [], upd_same, .nil⟩
theorem pd_dn1 {k : Nat} (W : IsW X) (hr : Room k X.A) (hk : PD X E e fk) (hv : PD X E v fv) : PD X E (.Dict [some e] [v] pos) (mDN1 fk fv) := PE.imp (pe_nd1 W (Nat.lt_of_succ_lt (units9 hr)) hk hv) fun σ H Q h => by
  obtain ⟨P, o, ρ, res, a, e, p⟩ := h
  intro q hq
  have nh := not_hid a hq
  have no : ¬ Own o q := fun z => nh (.inr z)
  have a0 : At X.K (plusA P q) o ρ σ (upd H q (NDO q [])) := a.plus hq
  have p0 := p.hideX (b := q) (chg_new (u := NDO q []) hq)
  refine tE_mono (fun y H1 h => ?_) (bindD_go a0 .refl e p0)
  obtain ⟨ρ1, d, c1, _, a1, dy, e⟩ := h
  refine tE_mono (fun z H2 h => ?_) (bindD_go a1 c1 e p0)
  obtain ⟨ρ2, dv, c2, c3, a2, dz, e⟩ := h
  cases hk : keyN d with
  | none => rw [hk] at e; cases e
  | some k =>
    rw [hk] at e
    cases e
    obtain ⟨e1, e2, ds, e3⟩ := keyN_some hk
    subst e3
    obtain ⟨b, _, rfl, _⟩ := dp_tup dy
    rw [← e1] at dy
    have dy2 := dp_mono c2.ex dy
    have hq2 : H2 q = some (NDO q []) := c3.keep q _ upd_same no
    refine ⟨k, b, z, rfl, e2, hq2, dp_mono ex_hd dy2, p _ _ (chg_new2 hq c3) ⟨q, rfl, hq, nh, a2.updHid (.inr rfl) no, [(k, b, z)], upd_same, ?_⟩⟩
    rw [hd_hid_upd]
    exact .cons e2 dy2 dz .nil
def trsOf (K : PySem.W.Frag) (mg : Str → Option Value) (E : XK) : List Key → List EM → List (TE × TE)
  | k :: ks, f :: fs => (tC (kV k), tE K mg E f) :: trsOf K mg E ks fs
  | _, _ => []
def PDP (X : Cx) (E : XK) (pos : Pos) (keys : List (Option Expr)) (values : List Expr) (ks : List Key) (fs : List EM) : Prop := PPs X pos keys values (trsOf X.K X.mg E ks fs)
theorem pdp_nil : PDP X E pos [] [] [] [] := pps_nil
theorem pdp_str {z : Str} {j p2} {ks : List (Option Expr)} {vs : List Expr} {kk : List Key} {fs : List EM} (hv : PD X E v fv) (hr : PDP X E pos ks vs kk fs) : PDP X E pos (some (.Constant (.str z) j p2) :: ks) (v :: vs) (.inr z :: kk) (fv :: fs) := pps_cons pe_str hv hr
theorem par_pairs {K : PySem.W.Frag} {mg : Str → Option Value} {P : Addr → Prop} {o : Ow} {σ : St} : ∀ (ks : List Key) (fs : List EM) {ρ ρ' : Env} {H : Hp} {res : Sum (List D) (Str × Option D)} {Q : List (V × V) → Hp → Prop}, ks.length = fs.length → At K P o ρ σ H → parD fs ρ = some (res, ρ') →
    (match res with
    | .inl ds => ∀ vs H', Chg o H H' → At K P o ρ' σ H' → DpAll K (hd (hid P o) H') vs ds → Q ((ks.map kV).zip vs) H'
    | .inr (c, p) => ExPost K mg E P o ρ' σ H c p) → tPairs (trsOf K mg E ks fs) σ H Q
  | [], [], ρ, ρ', H, res, Q, _, a, e, p => by
    cases e
    exact p [] H .refl a .nil
  | k :: ks, f :: fs, ρ, ρ', H, res, Q, hl, a, e, p => by
    unfold parD at e
    cases hf : f ρ with
    | none => rw [hf] at e; cases e
    | some r1 =>
      obtain ⟨r, ρ1⟩ := r1
      rw [hf] at e
      show tE K mg E f σ H fun y H1 => tPairs (trsOf K mg E ks fs) σ H1 fun ps H3 => Q ((kV k, y) :: ps) H3
      refine ⟨P, o, ρ, _, a, hf, ?_⟩
      cases r with
      | ex n pl => cases e; exact p
      | ok s =>
        intro x H1 c1 ok
        simp only at e
        cases hs : s.toD with
        | none => rw [hs] at e; cases e
        | some d =>
          rw [hs] at e
          simp only at e
          obtain ⟨a1, dx⟩ := ok.toD hs
          cases hr : parD fs ρ1 with
          | none => rw [hr] at e; cases e
          | some r2 =>
            obtain ⟨r2, ρ2⟩ := r2
            rw [hr] at e
            cases r2 with
            | inr y =>
              cases e
              obtain ⟨c, pl⟩ := y
              exact par_pairs ks fs (by simpa using hl) a1 hr (fun cls dx H' c2 a2 x => p cls dx H' (c1.trans c2) a2 x)
            | inl ds =>
              cases e
              exact par_pairs ks fs (by simpa using hl) a1 hr fun vs H2 c2 a2 k2 => p (x :: vs) H2 (c1.trans c2) a2 (.cons (dp_mono c2.ex dx) k2)
  | [], _ :: _, _, _, _, _, _, hl, _, _, _ => by simp at hl
  | _ :: _, [], _, _, _, _, _, hl, _, _, _ => by simp at hl
theorem zip_kv {K : PySem.W.Frag} {G : Hp} : ∀ {ks : List Key} {vs : List V} {ds : List D}, DpAll K G vs ds → KvOk K G (ks.zip vs) (ks.zip ds)
  | [], _, _, _ => .nil
  | _ :: _, _, _, .nil => .nil
  | k :: ks, _, _, .cons h hs => .cons h (zip_kv hs)
theorem merge_nod : ∀ (ks : List Key) (vs : List V) (acc : List (Key × V)), nodK ks = true → (∀ k ∈ ks, valV acc k = none) → mergeK acc (ks.zip vs) = acc ++ ks.zip vs
  | [], _, acc, _, _ => by simp [mergeK]
  | _ :: _, [], acc, _, _ => by simp [mergeK]
  | k :: ks, v :: vs, acc, hn, ha => by
    simp only [nodK, Bool.and_eq_true, List.all_eq_true, decide_eq_true_eq] at hn
    have e : putK acc k v = acc ++ [(k, v)] := putK_new v (ha k (by simp))
    have hk : k ∉ ks := fun z => hn.1 k z rfl
    show mergeK (putK acc k v) (ks.zip vs) = _
    rw [e, merge_nod ks vs _ hn.2 fun k' hk' => ?_]
    · simp
    · have h1 := ha k' (by simp [hk'])
      have hne : ¬ k = k' := fun z => hk (by rw [z]; exact hk')
      unfold valV at h1 ⊢
      rw [List.find?_append]
      simp only [Option.map_eq_none_iff] at h1
      rw [h1]
      simp [hne]
theorem zip_map {ks : List Key} {vs : List V} : (ks.map kV).zip vs = (ks.zip vs).map fun kv => (kV kv.1, kv.2) := by
  induction ks generalizing vs with
  | nil => simp
  | cons k ks ih => cases vs with
    | nil => simp
    | cons v vs => simp [ih]
theorem pd_dk {keys : List (Option Expr)} {values : List Expr} {ks : List Key} {fs : List EM} (h : PDP X E pos keys values ks fs) (hall : keys.all (·.isSome) = true := by rfl) (hl : keys.length = values.length := by rfl) (h0 : keys ≠ [] := by exact List.cons_ne_nil _ _) (h15 : keys.length ≤ 15 := by decide) : PD X E (.Dict keys values pos) (mDK ks fs) := PE.imp (pe_disp h hall hl h0 h15) fun σ H Q h => by
  obtain ⟨P, o, ρ, res, a, e, p⟩ := h
  unfold mDK at e
  split at e
  · rename_i hh
    obtain ⟨hn, hlen, h15⟩ := hh
    intro q hq
    have nh := not_hid a hq
    have no : ¬ Own o q := fun z => nh (.inr z)
    have a0 : At X.K (plusA P q) o ρ σ (upd H q (.dK [])) := a.plus hq
    have p0 := p.hideX (b := q) (chg_new (u := .dK []) hq)
    cases hr : parD fs ρ with
    | none => rw [hr] at e; cases e
    | some r =>
      obtain ⟨r, ρ1⟩ := r
      rw [hr] at e
      refine par_pairs ks fs hlen a0 hr ?_
      cases r with
      | inr x => obtain ⟨c, pl⟩ := x; cases e; exact p0
      | inl ds =>
        cases e
        intro vs H2 c2 a2 k2
        have hq2 : H2 q = some (.dK []) := c2.keep q _ upd_same no
        refine ⟨hq2, ks.zip vs, zip_map, by rw [List.length_zip]; omega, p _ _ (chg_new2 hq c2) ⟨q, rfl, hq, nh, a2.updHid (.inr rfl) no, mergeK [] (ks.zip vs), upd_same, ?_⟩⟩
        rw [hd_hid_upd, merge_nod ks vs [] hn (fun _ _ => rfl)]
        exact zip_kv k2
  · cases e
end
end DL

namespace DL
open PySem PySem.Spec L2
variable [TheW]
/-! ### dicts with tuple keys, walked -/
theorem Inv.frzN {X : Cx} {pins : List (Addr × Obj)} {σ : St} {H : Hp} {s : Shared} {d : Addr} {o : Obj} {xs : List (NestedKey × Addr × V)} (I : Inv X pins σ H s) (h : H d = some (.frz o (NDO d xs))) :
    (d == sysModules) = false ∧ s.heap.get? d = some o ∧ o.ExactDict ∧ ∃ (es : Array DictEntry) (ep : Nat), o.data = .dict es ep ∧ es.size = xs.length ∧
      ∀ (i : Nat) y, xs[i]? = some y → ∃ en : DictEntry, es[i]? = some en ∧ en.key = .ref y.2.1 := by
  obtain ⟨hd, ⟨hs, z, ys, pr, o', es, ep, ho, hx, hdt, he, _⟩, _, _⟩ := I.hok d _ h
  rw [hd] at ho
  cases ho
  refine ⟨hs, hd, hx, es, ep, hdt, ?_, fun i y e => ?_⟩
  · have l1 : es.size = ys.length := size_of_entries he
    have l2 : xs.length = ys.length := Paired.length pr
    omega
  · obtain ⟨b, hb, e1, e2, _⟩ := paired_get pr e
    have q := entry_at he i
    rw [hb] at q
    exact ⟨_, q, by rw [e2]; rfl⟩
def Itkn (d : Addr) (o : Obj) (xs : List (NestedKey × Addr × V)) : It :=
  ⟨fun i H => H d = some (.frz o (NDO d xs)) ∧ i < xs.length, fun i H x H' => H' = H ∧ ∃ y, xs[i]? = some y ∧ x = .ref y.2.1, fun i H => H d = some (.frz o (NDO d xs)) ∧ xs.length ≤ i⟩
theorem turn_keysN {P : Program} {w : World} {K : PySem.W.Frag} {tg : Expr} {d : Addr} {o : Obj} {es : Array DictEntry} {ep : Nat} {xs : List (NestedKey × Addr × V)} (it : Addr) (hod : o.data = .dict es ep) : Turn P w K tg (Itkn d o xs) [it] it (fun i h => h.IsKeyIter it d i xs.length ep) where
  mem := by simp
  obj := fun i h st b hb => by
    have e : b = it := by simpa using hb
    subst e
    obtain ⟨oi, e, c, dd⟩ := st
    exact ⟨oi, e, fun v z => by rw [dd] at z; cases z⟩
  keep := fun i h h' st k => st.at fun oi e => k it (by simp) oi e
  item := by
    intro X hP hw hK hc i pins s σ H E I hf st hg
    subst hP hw hK
    obtain ⟨hd, hi⟩ := hg
    obtain ⟨f0, f1, f2, f3, f4, f5⟩ := hf it (by simp)
    obtain ⟨hs, hgd, hx, es', ep', hdt, hsz, ent⟩ := Inv.frzN I hd
    obtain ⟨rfl, rfl⟩ := dict_ep hod hdt
    obtain ⟨y, hy⟩ : ∃ p, xs[i]? = some p := ⟨xs[i], List.getElem?_eq_getElem hi⟩
    obtain ⟨en, hen, hkey⟩ := ent i y hy
    refine next_key_item st hgd hdt hsz hen fun h' st' sb => ?_
    have I1 : Inv X pins σ H { s with heap := h' } := I.turned (t' := s.toks) (fun b ob hb e => (sb.2 b hb).trans e) f0 f1 f3 f4 f5
    obtain ⟨oi, e, c, dd⟩ := id st'
    exact ⟨en.key, rfl, go_of (s := { s with heap := h' }) e c dd (by decide) ⟨.ref y.2.1, H, I1, hkey, ⟨rfl, y, hy, rfl⟩, st', fun b hb => (hf b hb).1⟩⟩
  done := by
    intro X hP hw hK hc i pins s σ H E I hf st hg
    subst hP hw hK
    obtain ⟨hd, hi⟩ := hg
    obtain ⟨f0, f1, f2, f3, f4, f5⟩ := hf it (by simp)
    obtain ⟨hs, hgd, hx, es', ep', hdt, hsz, ent⟩ := Inv.frzN I hd
    obtain ⟨rfl, rfl⟩ := dict_ep hod hdt
    exact next_key_end (I.ok.hd hc) st hgd hdt hsz hi fun h' eb => ⟨rfl, I.turned (t' := s.toks) (fun b ob hb e => eb b ob hb e) f0 f1 f3 f4 f5⟩
  self := fun A i s Q E st h => by
    refine wpAny_pyIter_slot st.typeIs F.slot_dict_keyiterator_iter (wpAny_call_entry F.slot_dict_keyiterator_iter st.typeIs F.entry_dict_keyiterator_iter ?_ (F.args_dict_keyiterator_iter_1 _))
    show wpAny _ _ (ret (.ref it)) _ _ s
    exact wpAny_pure ⟨_, rfl, "dict_keyiterator", _, st.typeIs, F.slot_dict_keyiterator_next.lookup, h⟩
theorem pi_keysN {X : Cx} {tg e : Expr} {td : TE} (he : PE X e td) : PI X tg e (fun σ H R => td σ H fun x H1 => ∃ d o xs, x = .ref d ∧ H1 d = some (.frz o (NDO d xs)) ∧ R (Itkn d o xs) H1) := by
  refine ⟨fun pins s σ H R I h => ?_⟩
  refine thn (he.run pins s σ H _ I h) fun u s1 ⟨x, H1, I1, rx, d, o, xs, ex, hd, q⟩ => ?_
  subst ex
  obtain rfl : u = Value.ref d := rx
  obtain ⟨hs, hgd, hx, es, ep, hdt, hsz, ent⟩ := Inv.frzN I1 hd
  refine iter_keys hs hgd hx hdt (pi_one (tk := s1.toks) I1 _ (turn_keysN _ hdt) ⟨_, Heap.get?_push_size _ rfl, rfl, ?_⟩ q)
  rw [hsz] <;> rfl
/-- the keys of the locked dict in slot i -/
def iDk (i : Nat) : IM := fun ρ => match ρ[i]? with
  | some (some (.odl kvs)) => some (.inl (kvs.map fun x => kDat x.1), ρ)
  | _ => none
theorem nv_at {K : PySem.W.Frag} {G : Hp} {vs : List (NestedKey × Addr × V)} {ds : List (NestedKey × D)} (h : NvOk K G vs ds) : ∀ {i : Nat} {y}, vs[i]? = some y → (ds.map fun x => kDat x.1)[i]? = some (kDat y.1) ∧ Dp K G (.ref y.2.1) (kDat y.1) := by
  induction h with
  | nil => intro i y e; simp at e
  | cons h1 h2 h3 _ ih =>
    intro i y e
    cases i with
    | zero => simp at e; subst e; exact ⟨by simp, h2⟩
    | succ j => simpa using ih (by simpa using e)
theorem pdi_dk {X : Cx} {E : XK} {tg : Expr} {i : Nat} {x : Str} {npos : Pos} (hN : X.N[i]? = some x) (hv : Vis X.env.scope x) (hd : (x == ("__debug__" : Str)) = false := by decide) (hcd : (x == ("__classdict__" : Str)) = false := by decide) : PDI X E tg (.Name x npos) (iDk i) := PI.imp (pi_keysN (pe_var hN hv hd hcd)) fun σ H R h => by
  obtain ⟨P, o, ρ, res, ρ', a, e, p⟩ := h
  unfold iDk at e
  split at e
  · rename_i kvs hi
    cases e
    obtain ⟨b, q⟩ := a.ow i _ hi rfl
    obtain ⟨s', h1, h2, h3⟩ := a.has i b q
    rw [hi] at h1
    cases h1
    obtain ⟨vs, ⟨od, h4⟩, h5⟩ := h3
    refine ⟨.ref b, h2, b, od, vs, rfl, h4, p _ H .refl a ⟨fun H => H b = some (.frz od (NDO b vs)), fun i H x H' => H' = H ∧ ∃ y, vs[i]? = some y ∧ x = .ref y.2.1, ?_, fun P' H' _ fk => fk b od _ h4, fun P' i H' x H'' hi' hP ex y => ?_⟩⟩
    · have hl : (kvs.map fun x => kDat x.1).length = vs.length := by rw [List.length_map, nv_len h5]
      rw [hl]
      exact ⟨fun _ _ hi q => ⟨q, hi⟩, fun _ q => ⟨q, Nat.le_refl _⟩, fun _ _ _ _ _ _ y => y⟩
    · obtain ⟨rfl, y, hy, rfl⟩ := y
      obtain ⟨k1, k2⟩ := nv_at h5 hy
      exact ⟨Ex.refl _, _, k1, dp_mono ex k2⟩
  · cases e
/-! ### locked while a statement, an expression runs -/
def unlE (i : Nat) (ρ : Env) : Option Env := match ρ[i]? with
  | some (some (.odl kvs)) => some (ρ.set i (some (.odt kvs)))
  | _ => none
def lockS (i : Nat) (f : SM) : SM := fun ρ => match ρ[i]? with
  | some (some (.odt kvs)) => (match f (ρ.set i (some (.odl kvs))) with
    | some (.nx ρ') => (unlE i ρ').map .nx
    | _ => none)
  | _ => none
def lockE (i : Nat) (f : EM) : EM := fun ρ => match ρ[i]? with
  | some (some (.odt kvs)) => (match f (ρ.set i (some (.odl kvs))) with
    | some (.ok (.dat d), ρ') => (unlE i ρ').map fun ρ => (.ok (.dat d), ρ)
    | _ => none)
  | _ => none
section
variable {K : PySem.W.Frag} {P : Addr → Prop} {o : Ow} {ρ : Env} {σ : St} {H H' : Hp} {i : Nat} {kvs : List (NestedKey × D)}
theorem At.lockD (h : At K P o ρ σ H) (e : ρ[i]? = some (some (.odt kvs))) : ∃ a vs, o i = some a ∧ H a = some (NDO a vs) ∧ ∀ od, At K P o (ρ.set i (some (.odl kvs))) σ (upd H a (.frz od (NDO a vs))) := by
  obtain ⟨a, q⟩ := h.ow i _ e rfl
  obtain ⟨s', h1, h2, h3⟩ := h.has i a q
  rw [e] at h1
  cases h1
  obtain ⟨vs, h3, h4⟩ := h3
  exact ⟨a, vs, q, h3, fun od => h.putS (s := .odl kvs) q ⟨vs, ⟨od, upd_same⟩, h4⟩⟩
theorem ndo_nf {a : Addr} {vs : List (NestedKey × Addr × V)} : ∀ od w, NDO a vs ≠ .frz od w := fun od w z => by unfold NDO at z; cases z
theorem At.unlockD {o' : Ow} {ρ' : Env} {σ' : St} {a : Addr} {od : Obj} {vs : List (NestedKey × Addr × V)} (h : At K P o' ρ' σ' H') (q : o' i = some a) (e : ρ'[i]? = some (some (.odl kvs))) (hl : H' a = some (.frz od (NDO a vs))) : At K P o' (ρ'.set i (some (.odt kvs))) σ' (upd H' a (NDO a vs)) := by
  obtain ⟨s', h1, h2, h3⟩ := h.has i a q
  rw [e] at h1
  cases h1
  obtain ⟨vs', ⟨od', h4⟩, h5⟩ := h3
  rw [hl] at h4
  have h6 : NDO a vs = NDO a vs' := (HO.frz.inj (Option.some.inj h4)).2
  refine h.putS (s := .odt kvs) q ⟨vs', ?_, h5⟩
  rw [upd_same, h6]
/-- locked, gone on, unlocked -/
theorem chgS_lock {np : Nat} {o' : Ow} {a : Addr} {od : Obj} {vs : List (NestedKey × Addr × V)} (ho : o i = some a) (h : H a = some (NDO a vs)) (c : ChgS np o o' (upd H a (.frz od (NDO a vs))) H') : ChgS np o o' H (upd H' a (NDO a vs)) where
  keep := fun b u q n => by
    have hb : b ≠ a := fun z => n (by rw [z]; exact ⟨i, ho⟩)
    rw [upd_ne hb]
    exact c.keep b u (by rw [upd_ne hb]; exact q) n
  dom := fun b u q => by
    by_cases hb : b = a
    · subst hb; exact ⟨_, upd_same⟩
    · obtain ⟨u', z⟩ := c.dom b u (by rw [upd_ne hb]; exact q)
      exact ⟨u', by rw [upd_ne hb]; exact z⟩
  new := fun b z => by
    rcases c.new b z with z | z
    · exact .inl z
    · by_cases hb : b = a
      · subst hb; rw [upd_same] at z; cases z
      · rw [upd_ne hb] at z; exact .inr z
  par := fun j b hj q => c.par j b (hj.imp id fun ⟨od', u, z⟩ => by
    by_cases hb : b = a
    · subst hb; exact ⟨od, _, upd_same⟩
    · exact ⟨od', u, by rw [upd_ne hb]; exact z⟩) q
  frz := fun b od' u q => by
    have hb : b ≠ a := fun z => by rw [z, h] at q; exact ndo_nf _ _ (Option.some.inj q)
    rw [upd_ne hb]
    exact c.frz b od' u (by rw [upd_ne hb]; exact q)
theorem chg_lock {a : Addr} {od : Obj} {vs : List (NestedKey × Addr × V)} (ho : o i = some a) (h : H a = some (NDO a vs)) (c : Chg o (upd H a (.frz od (NDO a vs))) H') : Chg o H (upd H' a (NDO a vs)) := by
  have := chgS_lock (np := 0) ho h (ChgS.of c)
  exact ⟨this.keep, this.dom, this.frz⟩
end
theorem unlE_some {i : Nat} {ρ ρ' : Env} (h : unlE i ρ = some ρ') : ∃ kvs, ρ[i]? = some (some (.odl kvs)) ∧ ρ' = ρ.set i (some (.odt kvs)) := by
  unfold unlE at h
  split at h
  · rename_i kvs e
    cases h
    exact ⟨kvs, e, rfl⟩
  · cases h
section
variable {X : Cx} {E : XK} {np i : Nat} {st : Stmt} {e : Expr} {f : SM} {fe : EM}
theorem pds_lock (h : PDS X E np st f) : PDS X E np st (lockS i f) := PS.imp (ps_lock h) fun D σ H h => by
  obtain ⟨P, o, ρ, fl, a, e, p⟩ := h
  unfold lockS at e
  split at e
  · rename_i kvs hi
    obtain ⟨b, vs, ho, hb, ha⟩ := a.lockD hi
    refine ⟨b, NDO b vs, hb, trivial, fun od => ?_⟩
    cases hf : f (ρ.set i (some (.odl kvs))) with
    | none => rw [hf] at e; cases e
    | some r =>
      rw [hf] at e
      refine ⟨P, o, _, r, ha od, hf, ?_⟩
      cases r with
      | nx ρ' =>
        simp only at e
        cases hu : unlE i ρ' with
        | none => rw [hu] at e; cases e
        | some ρ2 =>
          rw [hu] at e
          cases e
          obtain ⟨kvs', h1, rfl⟩ := unlE_some hu
          intro o' σ' H' c' a'
          have hl : H' b = some (.frz od (NDO b vs)) := c'.frz b od _ upd_same
          have ho' : o' i = some b := c'.par i b (.inr ⟨od, _, upd_same⟩) ho
          exact ⟨hl, p o' σ' _ (chgS_lock ho hb c') (a'.unlockD ho' h1 hl)⟩
      | rt s ρ' => cases e
      | bk ρ' => cases e
      | ct ρ' => cases e
      | ex n pl ρ' => cases e
  · cases e
theorem pd_lock (h : PD X E e fe) : PD X E e (lockE i fe) := PE.imp (pe_lock h) fun σ H Q h => by
  obtain ⟨P, o, ρ, res, a, e, p⟩ := h
  unfold lockE at e
  split at e
  · rename_i kvs hi
    obtain ⟨b, vs, ho, hb, ha⟩ := a.lockD hi
    refine ⟨b, NDO b vs, hb, trivial, fun od => ?_⟩
    cases hf : fe (ρ.set i (some (.odl kvs))) with
    | none => rw [hf] at e; cases e
    | some r =>
      obtain ⟨r, ρ'⟩ := r
      rw [hf] at e
      refine ⟨P, o, _, _, ha od, hf, ?_⟩
      cases r with
      | ex n pl => cases e
      | ok s =>
        cases s with
        | dat d =>
          simp only at e
          cases hu : unlE i ρ' with
          | none => rw [hu] at e; cases e
          | some ρ2 =>
            rw [hu] at e
            cases e
            obtain ⟨kvs', h1, rfl⟩ := unlE_some hu
            intro v H' c' ok
            obtain ⟨a', dv⟩ := ok
            have hl : H' b = some (.frz od (NDO b vs)) := c'.frz b od _ upd_same
            refine ⟨hl, p v _ (chg_lock ho hb c') ⟨a'.unlockD ho h1 hl, ?_⟩⟩
            have eh : hd (hid P o) (upd H' b (NDO b vs)) = hd (hid P o) H' := by
              funext z
              unfold hd
              split
              · rfl
              · rename_i hne
                exact upd_ne fun q => hne (by rw [q]; exact .inr ⟨i, ho⟩)
            rw [eh]
            exact dv
        | own _ => cases e
        | odk _ => cases e
        | odt _ => cases e
        | odl _ => cases e
  · cases e
end
end DL

namespace DL
open PySem PySem.Spec L2
variable [TheW]
/-! ### x += an int -/
def augI (np i : Nat) (fe : EM) : SM := fun ρ => match ρ[i]? with
  | some (some (.dat (.int k))) => bindS fe (fun s ρ1 => match s.toD with
    | some (.int j) => if okset np i ρ1 = true then some (.nx (ρ1.set i (some (.dat (.int (k + j)))))) else none
    | _ => none) ρ
  | _ => none
section
variable {X : Cx} {E : XK} {np k i : Nat} {x : Str} {e : Expr} {fe : EM} {pos pos' npos p2 : Pos}
theorem pds_augI (hN : X.N.Nodup) (hi : X.N[i]? = some x) (hx : Loc X.env.scope x) (he : PD X E e fe) (hf : X.fn x = true ∨ X.env.scope.names.lookup x = some .local := by first | exact .inl rfl | exact .inr rfl | assumption) : PDS X E np (.AugAssign (.Name x pos') .Add e pos) (augI np i fe) := PS.imp (ps_aug hN hi hx he ip_add hf) fun D σ H h => by
  obtain ⟨P, o, ρ, fl, a, e, p⟩ := h
  unfold augI at e
  split at e
  · rename_i k hk
    obtain ⟨v, h1, h2⟩ := a.dat i _ hk rfl
    cases dp_int (show Dp X.K _ v (.int k) from h2)
    refine ⟨_, h1, tE_mono (fun y H1 h => ?_) (bindS_go a e p)⟩
    obtain ⟨ρ1, s, c, ok, e⟩ := h
    split at e
    · rename_i j hj
      split at e
      · rename_i hok
        cases e
        obtain ⟨a1, dy⟩ := ok.toD hj
        cases dp_int dy
        exact ⟨k, j, rfl, rfl, p (clr o i) _ H1 ((ChgS.of c).trans (chgS_clr a1 hok)) (a1.setD (.int _) (okset_lt hok))⟩
      · cases e
    · cases e
  · cases e
/-! ### max -/
def intsD : List D → Option (List Int)
  | [] => some []
  | .int i :: ds => (intsD ds).map (i :: ·)
  | _ => none
def maxL : Int → List Int → Int
  | m, [] => m
  | m, n :: ns => maxL (if n > m then n else m) ns
omit [TheW] in
theorem maxL_ge : ∀ (ns : List Int) (m : Int), m ≤ maxL m ns ∧ ∀ n ∈ ns, n ≤ maxL m ns
  | [], m => ⟨by simp [maxL], by simp⟩
  | n :: ns, m => by
    have := maxL_ge ns (if n > m then n else m)
    simp only [maxL]
    refine ⟨?_, fun x hx => ?_⟩
    · have := this.1; split at this <;> omega
    · rcases List.mem_cons.mp hx with rfl | hx
      · have := this.1; split at this <;> omega
      · exact this.2 x hx
omit [TheW] in
theorem maxL_mem : ∀ (ns : List Int) (m : Int), maxL m ns = m ∨ maxL m ns ∈ ns
  | [], m => .inl rfl
  | n :: ns, m => by
    simp only [maxL]
    rcases maxL_mem ns (if n > m then n else m) with h | h
    · rw [h]; split
      · exact .inr (by simp)
      · exact .inl rfl
    · exact .inr (by simp [h])
def gMax1 : List D → Option S
  | [.list ds] => (match intsD ds with
      | some (m :: ns) => some (.dat (.int (maxL m ns)))
      | _ => none)
  | _ => none
def gMax2 : List D → Option S
  | [.int i, .int j] => some (.dat (.int (if j > i then j else i)))
  | _ => none
theorem intsD_ok {K : PySem.W.Frag} {G : Hp} : ∀ {ds : List D} {ns : List Int} {vs : List V}, intsD ds = some ns → DpAll K G vs ds → vs = ns.map V.int
  | [], _, _, h, k => by cases h; cases k; rfl
  | .int i :: ds, ns, vs, h, k => by
    cases k with
    | cons k1 k2 =>
      unfold intsD at h
      cases hr : intsD ds with
      | none => rw [hr] at h; cases h
      | some ms => rw [hr] at h; cases h; cases dp_int k1; simp [intsD_ok hr k2]
  | .none :: _, _, _, h, _ => by cases h
  | .bool _ :: _, _, _, h, _ => by cases h
  | .str _ :: _, _, _, h, _ => by cases h
  | .list _ :: _, _, _, h, _ => by cases h
  | .tuple _ :: _, _, _, h, _ => by cases h
  | .dict _ :: _, _, _, h, _ => by cases h
theorem p_max1 (B : Bi X.mg) (hc : X.calm = true) (he : PD X E e fe) (hg : Gl X "max" := by rfl) (hs : starEach [e] X.env = (false, eval e X.env) :: starEach [] X.env := by rfl) (hpl : (backTo pos (starEach ([] : List Expr) X.env)).any (·.1) = false := by rfl) : PD X E (.Call (.Name "max" p2) [e] [] pos) (mCB gMax1 (mAc fe mA0)) := by
  refine pd_cb (id := "max") (r := fun vs H Q => ∃ (P : Addr → Prop) (ds : List D) (ns : List Int) (m : Int) (x : V), vs = [x] ∧ Dp X.K (hd P H) x (.list ds) ∧ intsD ds = some (m :: ns) ∧ Q (.int (maxL m ns)) H) ?_ ?_ hg B.max (by decide +kernel) (pda_cons he pda_nil hs) (by decide) (by decide) hs hpl
  · intro pins s σ H vs us Q I r h
    obtain ⟨P, ds, ns, m, x, rfl, hx, hi, q⟩ := h
    obtain ⟨a, xs, rfl, h1, h2⟩ := dp_lst hx
    have e := intsD_ok hi h2
    subst e
    refine cr_max hc pins s σ H [.ref a] us Q I r ⟨a, m :: ns, rfl, ex_l ex_hd h1, by simp, fun z hz1 hz2 => ?_⟩
    have g := maxL_ge ns m
    have e : z = maxL m ns := by
      have h3 : maxL m ns ≤ z := by
        rcases maxL_mem ns m with h | h
        · rw [h]; exact hz2 m (by simp)
        · exact hz2 _ (by simp [h])
      have h4 : z ≤ maxL m ns := by
        rcases List.mem_cons.mp hz1 with rfl | h
        · exact g.1
        · exact g.2 z h
      omega
    rw [e]; exact q
  · intro P H vs ds z hP hv hz Q q
    cases hv with
    | nil => cases hz
    | cons hx hr =>
      cases hr with
      | cons _ _ =>
        unfold gMax1 at hz
        split at hz
        · rename_i heq
          injection heq with _ h2
          cases h2
        · cases hz
      | nil =>
        rename_i x d
        unfold gMax1 at hz
        cases d with
        | list xs =>
          simp only at hz
          split at hz
          · rename_i m ns hi
            cases hz
            exact ⟨P, xs, ns, m, x, rfl, hx, hi, q _ H (.refl _) (.int _)⟩
          · cases hz
        | tuple xs => cases hz
        | none => cases hz
        | bool _ => cases hz
        | int _ => cases hz
        | str _ => cases hz
        | dict _ => cases hz
theorem p_max2 {f : Expr} {ff : EM} (B : Bi X.mg) (hc : X.calm = true) (he : PD X E e fe) (hf : PD X E f ff) (hg : Gl X "max" := by rfl) (hs : starEach [e, f] X.env = (false, eval e X.env) :: starEach [f] X.env := by rfl) (hs2 : starEach [f] X.env = (false, eval f X.env) :: starEach [] X.env := by rfl) (hpl : (backTo pos (starEach [f] X.env)).any (·.1) = false := by rfl) : PD X E (.Call (.Name "max" p2) [e, f] [] pos) (mCB gMax2 (mAc fe (mAc ff mA0))) := by
  refine pd_cb (id := "max") (call_max2 hc) ?_ hg B.max (by decide +kernel) (pda_cons he (pda_cons hf pda_nil hs2) hs) (by decide) (by decide) hs hpl
  intro P H vs ds z hP hv hz Q q
  unfold gMax2 at hz
  split at hz
  · cases hz
    cases hv with
    | cons h1 h2 =>
      cases h2 with
      | cons h3 h4 =>
        cases h4
        cases dp_int h1
        cases dp_int h3
        exact ⟨_, _, rfl, q _ H (.refl _) (.int _)⟩
  · cases hz
end
/-! ### a dict with text keys: sorted(d), list(d) -/
def strsK : List Key → Option (List Str)
  | [] => some []
  | .inr x :: ks => (strsK ks).map (x :: ·)
  | _ => none
def leS (a b : Str) : Bool := !decide (b.cps.toList < a.cps.toList)
omit [TheW] in
theorem leS_trans : ∀ a b c : Str, leS a b = true → leS b c = true → leS a c = true := fun a b c h1 h2 => by
  simp only [leS, Bool.not_eq_true', decide_eq_false_iff_not, List.not_lt] at *
  exact List.le_trans h1 h2
omit [TheW] in
theorem leS_total : ∀ a b : Str, (leS a b || leS b a) = true := fun a b => by
  simp only [leS, Bool.or_eq_true, Bool.not_eq_true', decide_eq_false_iff_not, List.not_lt]
  exact List.le_total _ _
omit [TheW] in
theorem leS_anti : ∀ a b : Str, leS a b = true → leS b a = true → a = b := fun a b h1 h2 => by
  simp only [leS, Bool.not_eq_true', decide_eq_false_iff_not, List.not_lt] at *
  exact PySem.W.str_of_cps (List.le_antisymm h1 h2)
omit [TheW] in
theorem rising_pw : ∀ (p : Str) (l : List Str), PyProof.Rows.risingS p l = true → (p :: l).Pairwise fun a b => leS a b = true
  | _, [], _ => List.pairwise_cons.mpr ⟨by simp, .nil⟩
  | p, x :: l, h => by
    simp only [PyProof.Rows.risingS, Bool.and_eq_true] at h
    have ih := rising_pw x l h.2
    have hpx : leS p x = true := by unfold leS; rw [PyProof.Rows.le_meets]; exact h.1
    refine List.pairwise_cons.mpr ⟨fun y hy => ?_, ih⟩
    rcases List.mem_cons.mp hy with rfl | hy
    · exact hpx
    · exact leS_trans _ _ _ hpx ((List.pairwise_cons.mp ih).1 y hy)
omit [TheW] in
theorem sortS_eq {ys ks : List Str} (hp : ys.Perm ks) (hs : PyProof.Rows.sortedS ys = true) : ys = isort leS ks := by
  have h1 : ys.Pairwise fun a b => leS a b = true := by
    cases ys with
    | nil => exact .nil
    | cons x l => exact rising_pw x l hs
  rw [isort_eq leS_trans leS_total]
  exact List.Perm.eq_of_pairwise (le := fun a b => leS a b = true) (fun a b _ _ x y => leS_anti a b x y) h1 (List.pairwise_mergeSort leS_trans leS_total ks) (hp.trans (List.mergeSort_perm ks leS).symm)
def gSortK : S → Option D
  | .odk kvs => (match strsK (kvs.map (·.1)) with
    | some ks => if ks.length < 64 then some (.list ((isort leS ks).map .str)) else none
    | none => none)
  | _ => none
def gListK : S → Option D
  | .odk kvs => if kvs.length ≤ big then some (.list (kvs.map fun x => kD x.1)) else none
  | _ => none
def mFsort (fo : EM) : EM := bindE fo fun s => if isDict s = true then optD (gSortK s) else failE
def mSlist (i : Nat) : EM := fun ρ => match ρ[i]? with
  | some (some s) => if isDict s = true then optD (gListK s) ρ else none
  | _ => none
omit [TheW] in
theorem strsK_ok : ∀ {ks : List Key} {ss : List Str}, strsK ks = some ss → ks = ss.map Sum.inr
  | [], _, h => by cases h; rfl
  | .inr x :: ks, ss, h => by
    simp only [strsK] at h
    cases hr : strsK ks with
    | none => rw [hr] at h; cases h
    | some ms => rw [hr] at h; cases h; simp [strsK_ok hr]
  | .inl _ :: _, _, h => by cases h
theorem kv_keys {K : PySem.W.Frag} {G : Hp} {vs : List (Key × V)} {ds : List (Key × D)} (h : KvOk K G vs ds) : vs.map (·.1) = ds.map (·.1) := by
  induction h with
  | nil => rfl
  | cons _ _ ih => simp [ih]
theorem strs_dpsK {K : PySem.W.Frag} {G : Hp} : ∀ (xs : List Str), DpAll K G (xs.map V.str) (xs.map PyData.str)
  | [] => .nil
  | _ :: xs => .cons (.str _) (strs_dpsK xs)
theorem keys_dps {K : PySem.W.Frag} {G : Hp} : ∀ (xs : List Key), DpAll K G (xs.map kV) (xs.map kD)
  | [] => .nil
  | .inl _ :: xs => .cons (.int _) (keys_dps xs)
  | .inr _ :: xs => .cons (.str _) (keys_dps xs)
section
variable {X : Cx} {E : XK} {np k i : Nat} {x : Str} {o e : Expr} {fo fe : EM} {pos pos' npos p2 : Pos}
theorem pd_fsort (B : Bi X.mg) (hc : X.calm = true) (hr : Room k X.A) (ho : PD X E o fo) (hg : Gl X "sorted" := by rfl) (hs : starEach [o] X.env = (false, eval o X.env) :: starEach [] X.env := by rfl) (hpl : (backTo pos (starEach ([] : List Expr) X.env)).any (·.1) = false := by rfl) : PD X E (.Call (.Name "sorted" p2) [o] [] pos) (mFsort fo) := by
  refine PE.imp (pe_callB (call_sortedD hc) hg B.sorted (by decide +kernel) (pa_cons ho pa_nil hs) (by decide) (by decide) hs hpl) fun σ H Q h => ?_
  obtain ⟨P, o, ρ, res, a, e, p⟩ := h
  refine tE_mono (fun x H1 h => ?_) (fresh_go a e p)
  obtain ⟨b, s, ρ1, rfl, hd', a1, hb, hnb, ok, e, c1⟩ := h
  obtain ⟨z, hz, rfl⟩ := optD_some e
  unfold gSortK at hz
  split at hz
  · rename_i kvs
    obtain ⟨vs, h1, h2⟩ := ok
    split at hz
    · rename_i ks hks
      split at hz
      · rename_i hl
        cases hz
        refine ⟨b, vs, ks, rfl, .inl h1, by rw [kv_keys h2]; exact strsK_ok hks, hl, fun ys q hp hsd hq => ?_⟩
        rw [sortS_eq hp hsd]
        have a2 : At X.K P o ρ1 σ H1 := a1.less fun _ z => .inl z
        refine p _ _ (c1.trans (.of (.new hq))) ⟨a2.ext (.new hq), ?_⟩
        exact vok_lst (P := hid P o) (fun _ q => a2.domH q) hq (strs_dpsK _)
      · cases hz
    · cases hz
  · cases hz
theorem pd_slist (B : Bi X.mg) (hc : X.calm = true) (hN : X.N[i]? = some x) (hv : Vis X.env.scope x) (hg : Gl X "list" := by rfl) (hs : starEach [.Name x npos] X.env = (false, eval (.Name x npos) X.env) :: starEach [] X.env := by rfl) (hpl : (backTo pos (starEach ([] : List Expr) X.env)).any (·.1) = false := by rfl) (hd : (x == ("__debug__" : Str)) = false := by decide) (hcd : (x == ("__classdict__" : Str)) = false := by decide) : PD X E (.Call (.Name "list" p2) [.Name x npos] [] pos) (mSlist i) := by
  refine PE.imp (pe_callTy (call_listD hc) hg B.list (by decide +kernel) (pa_cons (pe_var hN hv hd hcd) pa_nil hs) (by decide) (by decide) hs hpl) fun σ H Q h => ?_
  obtain ⟨P, o, ρ, res, a, e, p⟩ := h
  unfold mSlist at e
  cases hi : ρ[i]? with
  | none => rw [hi] at e; cases e
  | some s =>
    rw [hi] at e
    cases s with
    | none => cases e
    | some s =>
      simp only at e
      split at e
      · rename_i hd'
        obtain ⟨z, hz, rfl⟩ := optD_some e
        obtain ⟨b, hb, hv'⟩ := a.dictAt hi hd'
        unfold gListK at hz
        split at hz
        · rename_i kvs
          obtain ⟨vs, h1, h2⟩ := hv'
          split at hz
          · cases hz
            refine ⟨.ref b, hb, b, vs, rfl, .inl h1, fun q hq => p _ _ (.of (.new hq)) ⟨a.ext (.new hq), ?_⟩⟩
            have e1 : (vs.map fun kv => kV kv.1) = (kvs.map (·.1)).map kV := by rw [← kv_keys h2]; simp
            have e2 : (kvs.map fun x => kD x.1) = (kvs.map (·.1)).map kD := by simp
            rw [e1, e2]
            exact vok_lst (P := hid P o) (fun _ q => a.domH q) hq (keys_dps _)
          · cases hz
        · cases hz
      · cases e
end
end DL

namespace Mx
open PySem PySem.Spec PyProof.Rows L2

abbrev TK (P : Program) (w : World) : HeapKind P w (List Key) := tupleKind (mixKind P w)
abbrev thash (P : Program) (w : World) (k : List Key) : Int := tupleKeyHash (mixKind P w) k
/-- the tuple at a has the ints k -/
abbrev IsT (P : Program) (w : World) (h : Heap) (k : List Key) (a : Addr) : Prop := IsTupleKey (mixKind P w) h k a

section
variable {P : Program} {w : World} {A : Around} {E : Value → Shared → Prop} {s : Shared}

/-! ### small questions asked of tuples -/
def Flat (v : Value) : Prop := (∃ i t, v = Value.int i t) ∨ ∃ x t, v = Value.str x t
theorem items_int {k : List Key} {vs : List Value} (h : ItemsAre (mixKind P w) k vs) : ∀ v ∈ vs, Flat v := by
  induction h with
  | nil => intro v hv; cases hv
  | @cons k0 v' ks vs h1 _ ih =>
    intro v hv
    rcases List.mem_cons.mp hv with e | hv
    · rcases keyIs_shape h1 with ⟨i, t, _, e2⟩ | ⟨x, t, _, e2⟩
      · exact .inl ⟨i, t, e.trans e2⟩
      · exact .inr ⟨x, t, e.trans e2⟩
    · exact ih v hv
/-- an int is of no class statement, by value -/
theorem ofAClass_flat (n : Nat) {v : Value} (h : Flat v) : ofAClassStatement n v = pure false := by
  rcases h with ⟨i, t, rfl⟩ | ⟨i, t, rfl⟩ <;> cases n <;> rfl
theorem hashBy_flat (n : Nat) {v : Value} (h : Flat v) : ∃ b, hashByValue n v = pure b := by
  rcases h with ⟨i, t, rfl⟩ | ⟨i, t, rfl⟩
  · exact ⟨true, by cases n <;> rfl⟩
  · exact ⟨false, by cases n <;> rfl⟩
theorem ofAClass_tup {k : List Key} {b : Addr} {Q : Bool → Shared → Prop} (hk : IsT P w s.heap k b) (h : Q false s) : wpAny (model P w) A (ofAClassStatement 8 (.ref b)) Q E s := by
  have hT := hk.typeIs
  obtain ⟨o, items, n, ho, _, hd, hi⟩ := hk
  unfold ofAClassStatement
  refine wpAny_bind (wpAny_typeOf hT ?_)
  dsimp only
  have e : (("tuple" : String) == "tuple") = true := by decide
  simp only [e, if_true, Bool.not_true, Bool.false_eq_true, if_false]
  try refine wpAny_bind (wpAny_pure ?_)
  try simp only [Bool.not_true, Bool.false_eq_true, if_false]
  show wpAny _ _ (seqItems? (.ref b) >>= _) _ _ s
  refine wpAny_bind (wpAny_seqItems ho hd ?_)
  dsimp only
  refine wpAny_bind ?_
  show wpAny _ _ (forIn items _ _) _ _ s
  rw [← Array.forIn_toList]
  refine wpAny_forIn_list _ (fun rest r s' => r.1 = none ∧ s' = s ∧ ∀ v ∈ rest, Flat v) _ ?_ ?_ _ _ ⟨rfl, rfl, items_int hi⟩
  · rintro v rest r s' ⟨hr, rfl, hall⟩
    rw [ofAClass_flat _ (hall v List.mem_cons_self)]
    refine wpAny_bind (wpAny_pure ?_)
    simp only [Bool.false_eq_true, if_false]
    exact wpAny_pure ⟨rfl, rfl, fun u hu' => hall u (List.mem_cons_of_mem _ hu')⟩
  · rintro ⟨r1, r2⟩ s' ⟨hr, rfl, _⟩
    simp only at hr
    subst hr
    exact wpAny_pure h
theorem hashBy_tup {k : List Key} {b : Addr} {Q : Bool → Shared → Prop} (hk : IsT P w s.heap k b) (h : ∀ c, Q c s) : wpAny (model P w) A (hashByValue 8 (.ref b)) Q E s := by
  have hT := hk.typeIs
  obtain ⟨o, items, n, ho, _, hd, hi⟩ := hk
  unfold hashByValue
  refine wpAny_bind (wpAny_specialOf hT F.slot_tuple_hash.lookup ?_)
  show wpAny _ _ (seqItems? (.ref b) >>= _) _ _ s
  refine wpAny_bind (wpAny_seqItems ho hd ?_)
  refine wpAny_bind ?_
  show wpAny _ _ (forIn items _ _) _ _ s
  rw [← Array.forIn_toList]
  refine wpAny_forIn_list _ (fun rest r s' => r.1 = none ∧ s' = s ∧ ∀ v ∈ rest, Flat v) _ ?_ ?_ _ _ ⟨rfl, rfl, items_int hi⟩
  · rintro v rest r s' ⟨hr, rfl, hall⟩
    obtain ⟨c, hc⟩ := hashBy_flat 7 (hall v List.mem_cons_self)
    rw [hc]
    refine wpAny_bind (wpAny_pure ?_)
    cases c with
    | true =>
      simp only [Bool.not_true, Bool.false_eq_true, if_false]
      exact wpAny_pure ⟨rfl, rfl, fun u hu' => hall u (List.mem_cons_of_mem _ hu')⟩
    | false =>
      simp only [Bool.not_false, if_true]
      exact wpAny_pure (wpAny_pure (h false))
  · rintro ⟨r1, r2⟩ s' ⟨hr, rfl, _⟩
    simp only at hr
    subst hr
    exact wpAny_pure (h true)
/-- a search among tuples shows nothing -/
theorem seen_tup {k : List Key} {b : Addr} {Q : Bool → Shared → Prop} (hk : IsT P w s.heap k b) {ys : List Value} (hy : ∀ y ∈ ys, ∃ k' c, y = Value.ref c ∧ IsT P w s.heap k' c) (h : Q false s) :
    wpAny (model P w) A (searchCouldBeSeen (.ref b) ys) Q E s := by
  unfold searchCouldBeSeen
  refine wpAny_bind ?_
  refine wpAny_forIn_list _ (fun rest r s' => r.1 = none ∧ s' = s ∧ ∀ y ∈ rest, ∃ k' c, y = Value.ref c ∧ IsT P w s.heap k' c) _ ?_ ?_ _ _ ⟨rfl, rfl, hy⟩
  · rintro v rest r s' ⟨hr, rfl, hall⟩
    obtain ⟨k', c, rfl, hc⟩ := hall v List.mem_cons_self
    have rest' : ∀ y ∈ rest, ∃ k' c, y = Value.ref c ∧ IsT P w s'.heap k' c := fun u hu' => hall u (List.mem_cons_of_mem _ hu')
    dsimp only
    by_cases hv : (b == c || (carriedByValue (.ref b) && carriedByValue (.ref c))) = true
    · refine wp_if_pos hv ?_
      exact wpAny_pure ⟨rfl, rfl, rest'⟩
    · refine wp_if_neg hv ?_
      refine wpAny_bind (wpAny_eqIsQuiet_tuple hk ?_)
      simp only [Bool.not_true, Bool.false_eq_true, if_false]
      refine wpAny_bind (wpAny_eqIsQuiet_tuple hc ?_)
      simp only [Bool.not_true, Bool.false_eq_true, if_false]
      refine wpAny_bind (ofAClass_tup hk ?_)
      simp only [Bool.false_eq_true, if_false]
      refine wpAny_bind (ofAClass_tup hc ?_)
      simp only [Bool.false_eq_true, if_false]
      exact wpAny_pure ⟨rfl, rfl, rest'⟩
  · rintro ⟨r1, r2⟩ s' ⟨hr, rfl, _⟩
    simp only at hr
    subst hr
    exact wpAny_pure h

/-! ### the set of tuples -/
def rowsOf (P : Program) (w : World) (L : List (Addr × List Key)) : List (Int × Value) := L.map fun p => (thash P w p.2, Value.ref p.1)
structure SetTR (P : Program) (w : World) (h : Heap) (a : Addr) (L : List (Addr × List Key)) (es : Array (Int × Value)) (ep : Nat) (t : SetTable) : Prop where
  ob : ∃ o, h.get? a = some o ∧ o.ExactSet ∧ o.data = .set es ep t
  rows : es.toList = rowsOf P w L
  tab : TabOk t (L.map fun p => thash P w p.2)
  nd : (L.map (·.2)).Nodup
  tup : ∀ p ∈ L, IsT P w h p.2 p.1
  led : w.params.followText "set-order" = true ∨ t.led = true
  room : L.length * 5 < t.mask * 3
  few : L.length < 64
variable {a : Addr} {L : List (Addr × List Key)} {es : Array (Int × Value)} {ep : Nat} {t : SetTable}
theorem SetTR.size (R : SetTR P w s.heap a L es ep t) : es.size = L.length := by
  have h := congrArg List.length R.rows
  unfold rowsOf at h
  rw [Array.length_toList, List.length_map] at h
  exact h
theorem SetTR.fits (R : SetTR P w s.heap a L es ep t) : t.fits es.size = true := by
  have h1 := R.tab.sz
  rw [List.length_map] at h1
  have h2 := R.size
  have h3 := R.room
  unfold SetTable.fits SetTable.fill
  rw [R.tab.dm, Bool.and_eq_true, beq_iff_eq, decide_eq_true_eq]
  show t.place.size = es.size ∧ t.place.size + 0 ≤ t.mask
  omega
theorem SetTR.entry (R : SetTR P w s.heap a L es ep t) {i : Nat} {p : Addr × List Key} (h : L[i]? = some p) : es[i]? = some (thash P w p.2, Value.ref p.1) := by
  rw [← Array.getElem?_toList, R.rows]
  unfold rowsOf
  rw [List.getElem?_map, h] <;> rfl
theorem SetTR.gw (R : SetTR P w s.heap a L es ep t) : ¬ t.gaveWay = true := by
  unfold SetTable.gaveWay
  rw [mask_odd R.tab.mok]
  decide
/-- THE SEARCH: from the c-th step of the way on -/
theorem search_from (R : SetTR P w s.heap a L es ep t) {x : Addr} {k : List Key} (hx : IsT P w s.heap k x) (hu : A.units < cLine) {K : Nat} (hKf : K < 10 * SetTable.turns t.mask)
    (hK : way t.mask (thash P w k) K ∉ t.place.toList) (hKb : ∀ c, c < K → way t.mask (thash P w k) c ∈ t.place.toList) {Q : SetFound → Shared → Prop}
    (hin : k ∈ L.map (·.2) → Q (.there none) s) (hout : k ∉ L.map (·.2) → Q (.free (way t.mask (thash P w k) K) false) s) :
    ∀ (f c : Nat) (stand : Option SetTable.Probe), stand.getD (t.probeStart (thash P w k)) = nth t.mask (runAt t.mask (SetTable.bits (thash P w k) % (t.mask + 1)) (SetTable.bits (thash P w k))) c → c ≤ K → K - c < f →
      (∀ (i : Nat) p, L[i]? = some p → p.2 = k → ∃ c', c ≤ c' ∧ c' < K ∧ t.place.toList[i]? = some (way t.mask (thash P w k) c')) →
      wpAny (model P w) A (setSearchFrom a (.ref x) (thash P w k) true f stand) Q E s
  | 0, c, stand, _, _, hf, _ => absurd hf (Nat.not_lt_zero _)
  | f + 1, c, stand, hst, hc, hf, hre => by
    obtain ⟨o, ho, hex, hd⟩ := R.ob
    rw [setSearchFrom_succ]
    refine wpAny_bind (wpAny_setState_of ho hd R.fits ?_)
    dsimp only
    refine wp_if_neg R.gw ?_
    try refine wpAny_bind (wpAny_pure ?_)
    have hnd : (nth t.mask (runAt t.mask (SetTable.bits (thash P w k) % (t.mask + 1)) (SetTable.bits (thash P w k))) c).dummy = none := by
      have key : ∀ (n : Nat) (p : SetTable.Probe), p.dummy = none → (nth t.mask p n).dummy = none := by
        intro n
        induction n with
        | zero => intro p h; exact h
        | succ n ih =>
          intro p h
          refine ih (adv t.mask p) ?_
          unfold adv
          split <;> exact h
      exact key c _ rfl
    have sh : ∀ q, nth t.mask (nth t.mask (runAt t.mask (SetTable.bits (thash P w k) % (t.mask + 1)) (SetTable.bits (thash P w k))) c) q = nth t.mask (runAt t.mask (SetTable.bits (thash P w k) % (t.mask + 1)) (SetTable.bits (thash P w k))) (c + q) := fun q => (nth_add t.mask c _ q).symm
    have e1 : ∀ q, (nth t.mask (nth t.mask (runAt t.mask (SetTable.bits (thash P w k) % (t.mask + 1)) (SetTable.bits (thash P w k))) c) q).j = way t.mask (thash P w k) (c + q) := fun q => congrArg SetTable.Probe.j (sh q)
    have spec := go_spec t R.tab.ris R.tab.dm (fun i => (es[i]?.map (·.1)).getD 0) (thash P w k) (10 * SetTable.turns t.mask) (K - c) _ hnd (by omega)
      (fun q hq => by rw [e1]; exact hKb (c + q) (by omega)) (by rw [e1, show c + (K - c) = K by omega]; exact hK)
    have hashAt : ∀ (i : Nat) p, L[i]? = some p → (fun i => (es[i]?.map (·.1)).getD 0) i = thash P w p.2 := fun i p hp => by
      show (es[i]?.map (·.1)).getD 0 = _
      rw [R.entry hp] <;> rfl
    rcases spec with ⟨q, i, hq, hi, hh, hno, hpr⟩ | ⟨hno, hpr⟩
    · -- a candidate
      have hpr' : t.probe (fun i => (es[i]?.map (·.1)).getD 0) (thash P w k) (stand.getD (t.probeStart (thash P w k))) = some (.candidate (way t.mask (thash P w k) (c + q)) i (nth t.mask (runAt t.mask (SetTable.bits (thash P w k) % (t.mask + 1)) (SetTable.bits (thash P w k))) (c + (q + 1)))) := by
        rw [hst, ← e1, ← sh]
        exact hpr
      rw [hpr']
      dsimp only
      rw [e1] at hi
      -- the entry
      have hil : i < L.length := by
        have h1 : i < t.place.toList.length := (List.getElem?_eq_some_iff.mp hi).1
        have h2 := R.tab.sz
        rw [List.length_map] at h2
        rw [Array.length_toList] at h1
        omega
      have hp : L[i]? = some L[i] := List.getElem?_eq_getElem hil
      generalize hpe : L[i] = p at hp
      have hmem : p ∈ L := List.mem_of_getElem? hp
      have hpt := R.tup p hmem
      have rest : wpAny (model P w) A (searchRest a (.ref x) (thash P w k) true f es t (way t.mask (thash P w k) (c + q)) i (nth t.mask (runAt t.mask (SetTable.bits (thash P w k) % (t.mask + 1)) (SetTable.bits (thash P w k))) (c + (q + 1)))) Q E s := by
        unfold searchRest
        rw [R.entry hp]
        dsimp only
        refine wpAny_bind (wpAny_holding (wpAny_eqBool_tuple hu hpt hx ?_))
        refine wpAny_bind (wpAny_setState_of ho hd R.fits ?_)
        dsimp only
        by_cases hkk : p.2 = k
        · refine wp_if_pos (by simp [hkk]) ?_
          refine wpAny_pure (hin ?_)
          exact List.mem_map.mpr ⟨p, hmem, hkk⟩
        · refine wp_if_neg (by simp [hkk]) ?_
          try refine wpAny_bind (wpAny_pure ?_)
          rw [sameMem]
          dsimp only
          have hsl : t.slot (way t.mask (thash P w k) (c + q)) = .live i := slot_live R.tab.ris hi
          simp only [if_true, hsl, R.entry hp]
          refine wpAny_bind (wpAny_isSame_ref_self (wpAny_bind (wpAny_pure ?_)))
          simp only [if_true]
          refine wp_if_neg (by simp [hkk]) ?_
          refine search_from R hx hu hKf hK hKb hin hout f (c + (q + 1)) _ rfl (by omega) (by omega) fun i0 p0 h0 hk0 => ?_
          obtain ⟨c', a1, a2, a3⟩ := hre i0 p0 h0 hk0
          refine ⟨c', ?_, a2, a3⟩
          -- it isn't passed
          rcases Nat.lt_or_ge c' (c + q) with z | z
          · exfalso
            refine hno (c' - c) i0 (by omega) (by rw [e1, show c + (c' - c) = c' by omega]; exact a3) ?_
            exact (hashAt i0 p0 h0).trans (congrArg (thash P w) hk0)
          · rcases Nat.lt_or_ge (c + q) c' with y | y
            · omega
            · exfalso
              have ec : c' = c + q := Nat.le_antisymm y z
              rw [ec] at a3
              have s0 := slot_live R.tab.ris a3
              rw [hsl] at s0
              injection s0 with s0
              rw [← s0, hp] at h0
              exact hkk ((congrArg Prod.snd (Option.some.inj h0)).trans hk0)
      by_cases hl : t.led = true
      · refine wp_if_neg (by simp [hl]) ?_
        try refine wpAny_bind (wpAny_pure ?_)
        exact rest
      · refine wp_if_pos (by simp [hl]) ?_
        refine wpAny_bind (seen_tup hx (fun y hy => ?_) ?_)
        · obtain ⟨e, he, ee⟩ := List.mem_map.mp hy
          have he1 : e ∈ es ∧ e.1 = thash P w k := by simpa using he
          have he2 : e ∈ es.toList := by simpa using he1.1
          rw [R.rows] at he2
          obtain ⟨p2, hp2, e2⟩ := List.mem_map.mp he2
          refine ⟨p2.2, p2.1, ?_, R.tup p2 hp2⟩
          rw [← ee, ← e2]
        · refine wp_if_neg (by decide) ?_
          try refine wpAny_bind (wpAny_pure ?_)
          exact rest
    · -- the empty slot
      have hpr' : t.probe (fun i => (es[i]?.map (·.1)).getD 0) (thash P w k) (stand.getD (t.probeStart (thash P w k))) = some (.empty (way t.mask (thash P w k) K) none) := by
        have e2 : way t.mask (thash P w k) K = (nth t.mask (nth t.mask (runAt t.mask (SetTable.bits (thash P w k) % (t.mask + 1)) (SetTable.bits (thash P w k))) c) (K - c)).j := by
          rw [e1, show c + (K - c) = K by omega]
        rw [hst, e2]
        exact hpr
      rw [hpr']
      dsimp only
      refine wpAny_pure (hout fun hm => ?_)
      obtain ⟨p0, h0, hk0⟩ := List.mem_map.mp hm
      obtain ⟨i0, hi0, e0⟩ := List.getElem_of_mem h0
      have h00 : L[i0]? = some p0 := by rw [List.getElem?_eq_getElem hi0, e0]
      obtain ⟨c', a1, a2, a3⟩ := hre i0 p0 h00 hk0
      refine hno (c' - c) i0 (by omega) (by rw [e1, show c + (c' - c) = c' by omega]; exact a3) ?_
      exact (hashAt i0 p0 h00).trans (congrArg (thash P w) hk0)

/-- the search as adding asks for it -/
theorem search_at (R : SetTR P w s.heap a L es ep t) {x : Addr} {k : List Key} (hx : IsT P w s.heap k x) (hu : A.units < cLine) {Q : SetFound → Shared → Prop}
    (hin : k ∈ L.map (·.2) → Q (.there none) s)
    (hout : ∀ K, k ∉ L.map (·.2) → way t.mask (thash P w k) K ∉ t.place.toList → (∀ c, c < K → way t.mask (thash P w k) c ∈ t.place.toList) → Q (.free (way t.mask (thash P w k) K) false) s) :
    wpAny (model P w) A (setSearch a (.ref x) (thash P w k) true) Q E s := by
  have hroom := R.room
  obtain ⟨K, hKf, hK, hKb⟩ := R.tab.first (by rw [List.length_map]; omega) (thash P w k)
  have hbig : K < 100000 := by
    have : 10 * SetTable.turns t.mask ≤ 1420 := by
      unfold SetTable.turns
      rcases R.tab.mok with e | e | e <;> omega
    omega
  unfold setSearch
  refine search_from R hx hu hKf hK hKb hin (fun hn => hout K hn hK hKb) 100000 0 none rfl (Nat.zero_le _) (by omega) fun i p hp hk => ?_
  have hi : (L.map fun p => thash P w p.2)[i]? = some (thash P w k) := by rw [List.getElem?_map, hp, ← hk] <;> rfl
  have hil : i < t.place.toList.length := by
    have h1 : i < L.length := (List.getElem?_eq_some_iff.mp hp).1
    have h2 := R.tab.sz
    rw [List.length_map] at h2
    rw [Array.length_toList]
    omega
  have hj := List.getElem?_eq_getElem hil
  obtain ⟨c, hc, e⟩ := R.tab.before hK hi hj
  exact ⟨c, Nat.zero_le _, hc, by rw [hj, e]⟩
end
end Mx

namespace Mx
open PySem PySem.Spec PyProof.Rows L2
section
variable {P : Program} {w : World} {A : Around} {E : Value → Shared → Prop} {s : Shared}
/-- a tuple isn't the set -/
theorem isT_same {h h' : Heap} {k : List Key} {a b : Addr} {o : Obj} {es : Array (Int × Value)} {ep : Nat} {t : SetTable} (hb : IsT P w h k b) (ho : h.get? a = some o) (hd : o.data = .set es ep t) (hs : Heap.SameBut a h h') : IsT P w h' k b := by
  obtain ⟨o', items, n, ho', hc, hd', hi⟩ := hb
  have hne : b ≠ a := by
    rintro rfl
    obtain rfl : o' = o := Option.some.inj (ho'.symm.trans ho)
    rw [hd] at hd'
    exact nomatch hd'
  exact ⟨o', items, n, (hs.2 b hne).trans ho', hc, hd', hi⟩
theorem rows_put (L : List (Addr × List Key)) (p : Nat) (x : Addr) (k : List Key) : rowsOf P w (L.take p ++ (x, k) :: L.drop p) = (rowsOf P w L).take p ++ (thash P w k, Value.ref x) :: (rowsOf P w L).drop p := by
  unfold rowsOf
  rw [List.map_append, List.map_cons, List.map_take, List.map_drop]
theorem order_rows (L : List (Addr × List Key)) (es : Array (Int × Value)) (order : Array Nat) (hr : es.toList = rowsOf P w L) (hp : order.toList.Perm (List.range L.length)) :
    ∃ L2, (order.filterMap (es[·]?)).toList = rowsOf P w L2 ∧ L2.Perm L ∧ (L2.map fun p => thash P w p.2) = order.toList.map fun i => (es.map (·.1)).getD i 0 := by
  have hsz : es.size = L.length := by
    have h := congrArg List.length hr
    unfold rowsOf at h
    rw [Array.length_toList, List.length_map] at h
    exact h
  have ent : ∀ i (h : i < L.length), es[i]? = some (thash P w (L[i]).2, Value.ref (L[i]).1) := fun i h => by
    rw [← Array.getElem?_toList, hr]
    unfold rowsOf
    rw [List.getElem?_map, List.getElem?_eq_getElem h] <;> rfl
  have key : ∀ l : List Nat, (∀ i ∈ l, i < L.length) → ∃ L2 : List (Addr × List Key), l.filterMap (fun i => es[i]?) = rowsOf P w L2 ∧ L2 = l.filterMap (fun i => L[i]?) ∧ (L2.map fun p => thash P w p.2) = l.map fun i => (es.map (·.1)).getD i 0 := by
    intro l
    induction l with
    | nil => intro _; exact ⟨[], rfl, rfl, rfl⟩
    | cons i l ih =>
      intro hl
      have hi := hl i List.mem_cons_self
      obtain ⟨L2, e1, e2, e3⟩ := ih fun j hj => hl j (List.mem_cons_of_mem _ hj)
      refine ⟨L[i] :: L2, ?_, ?_, ?_⟩
      · rw [List.filterMap_cons_some (ent i hi), e1] <;> rfl
      · rw [List.filterMap_cons_some (List.getElem?_eq_getElem hi), e2]
      · rw [List.map_cons, List.map_cons, e3]
        have hi2 : i < (es.map (·.1)).size := by rw [Array.size_map, hsz]; exact hi
        have e4 : (es.map (·.1)).getD i 0 = thash P w (L[i]).2 := by
          have e5 : (es.map (·.1))[i]? = some (thash P w (L[i]).2) := by rw [Array.getElem?_map, ent i hi] <;> rfl
          simp [Array.getD_eq_getD_getElem?, e5]
        rw [e4]
  obtain ⟨L2, e1, e2, e3⟩ := key order.toList fun i hi => List.mem_range.mp (hp.mem_iff.mp hi)
  refine ⟨L2, by first | (rw [Array.toList_filterMap]; exact e1) | simpa using e1, ?_, e3⟩
  have h1 : L2.Perm ((List.range L.length).filterMap fun i => L[i]?) := by
    rw [e2]
    exact hp.filterMap _
  have h2 : (List.range L.length).filterMap (fun i => L[i]?) = L := by
    have key2 : ∀ n, n ≤ L.length → (List.range n).filterMap (fun i => L[i]?) = L.take n := by
      intro n
      induction n with
      | zero => intro _; rfl
      | succ n ih =>
        intro hn
        have hlt : n < L.length := hn
        rw [List.range_succ, List.filterMap_append, ih (Nat.le_of_lt hlt), List.take_succ, List.getElem?_eq_getElem hlt]
        rw [List.filterMap_cons_some (List.getElem?_eq_getElem hlt)] <;> rfl
    rw [key2 L.length (Nat.le_refl _), List.take_length]
  rw [h2] at h1
  exact h1

variable {a : Addr} {L : List (Addr × List Key)} {es : Array (Int × Value)} {ep : Nat} {t : SetTable}
/-- the table laid anew, larger -/
theorem relay_at {o : Obj} (ho : s.heap.get? a = some o) (hex : o.ExactSet) (hd : o.data = .set es ep t) (hrows : es.toList = rowsOf P w L) (hsz : t.place.size = es.size) (hdm : t.dummies = #[]) (hfl : es.size ≤ t.mask)
    (nd : (L.map (·.2)).Nodup) (tup : ∀ p ∈ L, IsT P w s.heap p.2 p.1) (ld : w.params.followText "set-order" = true ∨ t.led = true) (few : L.length < 64) {wanted M : Nat}
    (hw : SetTable.sizeAbove wanted - 1 = M) (hM : MaskOk M) (hw2 : SetTable.sizeAbove wanted ≤ 128) (hn : L.length * 5 < M * 3) {Q : Unit → Shared → Prop}
    (hQ : ∀ h' L' es' ep' t', Heap.SameBut a s.heap h' → SetTR P w h' a L' es' ep' t' → L'.Perm L → Q () { s with heap := h' }) : wpAny (model P w) A (setRelay a wanted) Q E s := by
  have hsl : es.size = L.length := by
    have h := congrArg List.length hrows
    unfold rowsOf at h
    rw [Array.length_toList, List.length_map] at h
    exact h
  have hfits : t.fits es.size = true := by
    unfold SetTable.fits SetTable.fill
    rw [hdm, Bool.and_eq_true, beq_iff_eq, decide_eq_true_eq]
    show t.place.size = es.size ∧ t.place.size + 0 ≤ t.mask
    omega
  obtain ⟨t', order, e, hp, T, em, el, ep', ed⟩ := relaid_ok t (hs := es.map (·.1)) (wanted := wanted) hw hM (by rw [Array.size_map, hsl]; omega)
  rw [Array.size_map, hsl] at hp
  obtain ⟨L2, r1, r2, r3⟩ := order_rows L es order hrows hp
  rw [← r3] at T
  have hs2 : (order.filterMap (es[·]?)).size = es.size := by
    have h := congrArg List.length r1
    unfold rowsOf at h
    rw [Array.length_toList, List.length_map, r2.length_eq] at h
    rw [h, hsl]
  rw [setRelay_eq]
  refine wpAny_bind (wpAny_setState_of ho hd hfits ?_)
  dsimp only
  refine wp_if_neg (by rw [sizeLine_eq]; omega) ?_
  try refine wpAny_bind (wpAny_pure ?_)
  rw [e]
  dsimp only
  refine wpAny_bind ?_
  refine wp_if_neg (by rw [hs2]; simp) ?_
  try refine wpAny_bind (wpAny_pure ?_)
  refine wpAny_pure ?_
  dsimp only
  refine wpAny_storeSet_of ho hd ?_ (by rw [hs2, hsl, sizeLine_eq]; omega)
  have sb : Heap.SameBut a s.heap (s.heap.update a (Obj.putSet (order.filterMap (es[·]?)) t')) := Heap.SameBut.update ..
  refine hQ _ L2 (order.filterMap (es[·]?)) (ep + 1) t' sb ?_ r2
  refine ⟨⟨_, store_at ho hd, ⟨hex.1, hex.2.1, hex.2.2⟩, rfl⟩, r1, T, ?_, fun p hpm => isT_same (tup p (r2.mem_iff.mp hpm)) ho hd sb, by rw [el]; exact ld, ?_, by rw [r2.length_eq]; exact few⟩
  · exact (r2.map (·.2)).nodup_iff.mpr nd
  · rw [r2.length_eq, em]
    exact hn

theorem _root_.L2.TabOk.plainless {t : SetTable} {hs : List Int} (T : TabOk t hs) (c : Bool) : TabOk (if c = true then t else { t with plain := false }) hs := by
  cases c
  · exact ⟨T.ris, T.dm, T.sz, T.mok, T.bd, T.reach⟩
  · exact T
/-- ADDING -/
theorem add_at (R : SetTR P w s.heap a L es ep t) {x : Addr} {k : List Key} (hx : IsT P w s.heap k x) (hu : A.units < cLine) (hfew : L.length + 1 < 64) {Q : Bool → Shared → Prop}
    (hQ : ∀ b h' L' es' ep' t', Heap.SameBut a s.heap h' → SetTR P w h' a L' es' ep' t' → (k ∈ L.map (·.2) → L' = L) → (k ∉ L.map (·.2) → L'.Perm ((x, k) :: L)) → Q b { s with heap := h' }) :
    wpAny (model P w) A (setAddHashed a (.ref x) (thash P w k)) Q E s := by
  obtain ⟨o, ho, hex, hd⟩ := R.ob
  have hsl := R.size
  have hroom := R.room
  unfold setAddHashed
  refine wpAny_holding ?_
  rw [show (100000 : Nat) = 99999 + 1 from rfl, setAddHashedIn_succ]
  refine wpAny_bind (wpAny_setState_of ho hd R.fits ?_)
  dsimp only
  refine wp_if_neg (by simp [byScan, Value.scannable]) ?_
  try refine wpAny_bind (wpAny_pure ?_)
  refine wpAny_bind (search_at R hx hu (fun hm => ?_) fun K hm hK hb => ?_)
  · dsimp only
    exact wpAny_pure (hQ false s.heap L es ep t (Heap.SameBut.refl a s.heap) R (fun _ => rfl) fun z => absurd hm z)
  · dsimp only
    refine wpAny_bind (wpAny_setState_of ho hd R.fits ?_)
    dsimp only
    obtain ⟨q1, q2, q3, q4, q5, q6, q7, q8, q9⟩ := R.tab.put hK hb
    generalize hpt : t.put (way t.mask (thash P w k) K) = pt at q1 q3 q4 q5 q6 q7 q8 q9 ⊢
    obtain ⟨t0, p⟩ := pt
    dsimp only at q1 q3 q4 q5 q6 q7 q8 q9 ⊢
    subst q1
    have anyB : ∀ (f : Bool → Sem Bool), (∀ c, wpAny (model P w) A (f c) Q E s) → wpAny (model P w) A (if t0.plain = true then hashByValue 8 (.ref x) >>= f else pure true >>= f) Q E s := fun f hf => by
      by_cases hp : t0.plain = true
      · exact wp_if_pos hp (wpAny_bind (hashBy_tup hx hf))
      · exact wp_if_neg hp (wpAny_bind (wpAny_pure (hf true)))
    refine anyB _ fun c => ?_
    have q3' := q3.plainless c
    have q4' : (if c = true then t0 else { t0 with plain := false }).mask = t.mask := by cases c <;> exact q4
    have q5' : (if c = true then t0 else { t0 with plain := false }).led = t.led := by cases c <;> exact q5
    have q9' : (if c = true then t0 else { t0 with plain := false }).fill = (List.map (fun p => thash P w p.snd) L).length + 1 := by
      cases c
      · exact q9
      · exact q9
    clear q3 q4 q5 q6 q7 q8 q9
    generalize (if c = true then t0 else { t0 with plain := false }) = t1 at q3' q4' q5' q9' ⊢
    revert q3' q4' q5' q9'
    intro q3 q4 q5 q9
    have hin : (SetTable.insertAt es (SetTable.below t.place (way t.mask (thash P w k) K)) (thash P w k, Value.ref x)).toList = rowsOf P w (L.take (SetTable.below t.place (way t.mask (thash P w k) K)) ++ (x, k) :: L.drop (SetTable.below t.place (way t.mask (thash P w k) K))) := by
      rw [SetTable.toList_insertAt, rows_put, R.rows]
    generalize hpp : SetTable.below t.place (way t.mask (thash P w k) K) = p at q2 q3 hin ⊢
    have pm := put_perm L p (x, k)
    have hlen : (L.take p ++ (x, k) :: L.drop p).length = L.length + 1 := pm.length_eq
    have hhs : (L.take p ++ (x, k) :: L.drop p).map (fun p => thash P w p.2) = (L.map fun p => thash P w p.2).take p ++ thash P w k :: (L.map fun p => thash P w p.2).drop p := by
      rw [List.map_append, List.map_cons, List.map_take, List.map_drop]
    rw [← hhs] at q3
    have nd1 : ((L.take p ++ (x, k) :: L.drop p).map (·.2)).Nodup := by
      refine (pm.map (·.2)).nodup_iff.mpr ?_
      rw [List.map_cons]
      exact List.nodup_cons.mpr ⟨hm, R.nd⟩
    have hes : (SetTable.insertAt es p (thash P w k, Value.ref x)).size = L.length + 1 := by
      have h := congrArg List.length hin
      unfold rowsOf at h
      rw [Array.length_toList, List.length_map, hlen] at h
      exact h
    generalize SetTable.insertAt es p (thash P w k, Value.ref x) = es1 at hin hes ⊢
    generalize L.take p ++ (x, k) :: L.drop p = L1 at pm hlen q3 nd1 hin
    refine wpAny_bind (wpAny_storeSet_of ho hd ?_ (by rw [hes, sizeLine_eq]; omega))
    have sb : Heap.SameBut a s.heap (s.heap.update a (Obj.putSet es1 t1)) := Heap.SameBut.update ..
    have ho1 := store_at (es' := es1) (t' := t1) ho hd
    generalize s.heap.update a (Obj.putSet es1 t1) = h1 at sb ho1 ⊢
    have tup1 : ∀ p ∈ L1, IsT P w h1 p.2 p.1 := fun p hp => by
      rcases List.mem_cons.mp (pm.mem_iff.mp hp) with e | hp
      · rw [e]; exact isT_same hx ho hd sb
      · exact isT_same (R.tup p hp) ho hd sb
    have ld1 : w.params.followText "set-order" = true ∨ t1.led = true := by rw [q5]; exact R.led
    by_cases hf : t1.tooFull = true
    · first
        | (refine wpAny_bind ?_; refine wp_if_pos (by simp [hf]) ?_)
        | (refine wp_if_pos (by simp [hf]) ?_; refine wpAny_bind ?_)
      have hfull : (L.length + 1) * 5 ≥ t1.mask * 3 := by
        have h := hf
        unfold SetTable.tooFull at h
        rw [decide_eq_true_eq, q9, List.length_map] at h
        exact h
      rw [hsl]
      have hsz1 : t1.place.size = es1.size := by
        have h := q3.sz
        rw [List.length_map, hlen] at h
        rw [h, hes]
      have cases2 : (t.mask = 7 ∧ L.length = 4) ∨ (t.mask = 31 ∧ L.length = 18) := by
        rcases R.tab.mok with e | e | e
        · left; rw [q4, e] at hfull; rw [e] at hroom; exact ⟨e, by omega⟩
        · right; rw [q4, e] at hfull; rw [e] at hroom; exact ⟨e, by omega⟩
        · exfalso; rw [q4, e] at hfull; omega
      have go : ∀ M, SetTable.sizeAbove (SetTable.grown (L.length + 1)) - 1 = M → MaskOk M → SetTable.sizeAbove (SetTable.grown (L.length + 1)) ≤ 128 → (L.length + 1) * 5 < M * 3 →
          wpAny (model P w) A (setRelay a (SetTable.grown (L.length + 1))) (fun _ s' => wpAny (model P w) A (pure true) Q E s') E { s with heap := h1 } := fun M h1' h2' h3' h4' => by
        refine relay_at (s := { s with heap := h1 }) ho1 ⟨hex.1, hex.2.1, hex.2.2⟩ rfl hin hsz1 q3.dm (by rw [hes, q4]; rcases cases2 with ⟨e, e2⟩ | ⟨e, e2⟩ <;> omega) nd1 tup1 ld1 (by rw [hlen]; exact hfew) h1' h2' h3' (by rw [hlen]; exact h4') ?_
        intro h2 L2 es2 ep2 t2 sb2 R2 pm2
        refine wpAny_pure (hQ true h2 L2 es2 ep2 t2 (sb.trans sb2) R2 (fun z => absurd z hm) fun _ => pm2.trans pm)
      rcases cases2 with ⟨_, e2⟩ | ⟨_, e2⟩
      · refine go 31 (by rw [e2, size_20]) (.inr (.inl rfl)) (by rw [e2, size_20]; decide) (by omega)
      · refine go 127 (by rw [e2, size_76]) (.inr (.inr rfl)) (by rw [e2, size_76]; decide) (by omega)
    · first
        | refine wp_if_neg (by simp [hf]) ?_
        | (refine wpAny_bind ?_; refine wp_if_neg (by simp [hf]) ?_; refine wpAny_pure ?_)
      refine wpAny_pure (hQ true h1 L1 es1 (ep + 1) t1 sb ⟨⟨_, ho1, ⟨hex.1, hex.2.1, hex.2.2⟩, rfl⟩, hin, q3, nd1, tup1, ld1, ?_, by rw [hlen]; exact hfew⟩ (fun z => absurd z hm) fun _ => pm)
      have h := hf
      unfold SetTable.tooFull at h
      rw [decide_eq_true_eq, q9, List.length_map] at h
      rw [hlen]
      omega
end
end Mx

namespace Mx
open PySem PySem.Spec PyProof.Rows L2

/-- what the set has got from the first i items -/
structure Got (ks : List (Addr × List Key)) (i : Nat) (L : List (Addr × List Key)) : Prop where
  sub : ∀ p ∈ L, p ∈ ks.take i
  all : ∀ p ∈ ks.take i, p.2 ∈ L.map (·.2)
  len : L.length ≤ i
theorem Got.zero (ks : List (Addr × List Key)) : Got ks 0 [] := ⟨fun p h => (by cases h), fun p h => (by simp at h), Nat.le_refl _⟩
theorem Got.same {ks L : List (Addr × List Key)} {i : Nat} {x : Addr × List Key} (g : Got ks i L) (h : ks[i]? = some x) (hm : x.2 ∈ L.map (·.2)) : Got ks (i + 1) L := by
  refine ⟨fun p hp => ?_, fun p hp => ?_, Nat.le_succ_of_le g.len⟩
  · rw [take_next h]
    exact List.mem_append_left _ (g.sub p hp)
  · rw [take_next h] at hp
    rcases List.mem_append.mp hp with z | z
    · exact g.all p z
    · rw [List.mem_singleton.mp z]; exact hm
theorem Got.more {ks L L' : List (Addr × List Key)} {i : Nat} {x : Addr × List Key} (g : Got ks i L) (h : ks[i]? = some x) (pm : L'.Perm (x :: L)) : Got ks (i + 1) L' := by
  refine ⟨fun p hp => ?_, fun p hp => ?_, ?_⟩
  · rw [take_next h]
    rcases List.mem_cons.mp (pm.mem_iff.mp hp) with e | z
    · rw [e]; exact List.mem_append_right _ (List.mem_singleton.mpr rfl)
    · exact List.mem_append_left _ (g.sub p z)
  · rw [(pm.map (·.2)).mem_iff, List.map_cons]
    rw [take_next h] at hp
    rcases List.mem_append.mp hp with z | z
    · exact List.mem_cons_of_mem _ (g.all p z)
    · rw [List.mem_singleton.mp z]; exact List.mem_cons_self
  · rw [pm.length_eq, List.length_cons]
    exact Nat.succ_le_succ g.len

section
variable {P : Program} {w : World} {A : Around} {E : Value → Shared → Prop} {s : Shared}
theorem isT_keep {h h' : Heap} {k : List Key} {b : Addr} (x : IsT P w h k b) (hk : ∀ c o, h.get? c = some o → h'.get? c = some o) : IsT P w h' k b := by
  obtain ⟨o, items, n, ho, r⟩ := x
  exact ⟨o, items, n, hk b o ho, r⟩
theorem SetTR.keep {h h' : Heap} {a : Addr} {L : List (Addr × List Key)} {es : Array (Int × Value)} {ep : Nat} {t : SetTable} (R : SetTR P w h a L es ep t) (ha : ∀ o, h.get? a = some o → h'.get? a = some o) (ht : ∀ p ∈ L, IsT P w h' p.2 p.1) : SetTR P w h' a L es ep t := by
  obtain ⟨o, ho, r⟩ := R.ob
  exact ⟨⟨o, ha o ho, r⟩, R.rows, R.tab, R.nd, ht, R.led, R.room, R.few⟩
/-- a new set -/
theorem setTR_fresh {h : Heap} {a : Addr} (ho : h.get? a = some { cls := .type "set", dict := none, data := .set #[] 0 (.fresh 0 0 (!w.params.followText "set-order")) }) : SetTR P w h a [] #[] 0 (.fresh 0 0 (!w.params.followText "set-order")) where
  ob := ⟨_, ho, ⟨rfl, rfl, rfl⟩, rfl⟩
  rows := rfl
  tab := ⟨List.Pairwise.nil, rfl, rfl, .inl rfl, fun x hx => (by cases hx), fun i h j hi => (by simp at hi)⟩
  nd := List.nodup_nil
  tup := fun p hp => (by cases hp)
  led := by
    show _ ∨ (!w.params.followText "set-order") = true
    cases w.params.followText "set-order"
    · exact .inr rfl
    · exact .inl rfl
  room := by
    show 0 * 5 < 7 * 3
    decide
  few := by
    show 0 < 64
    decide

/-- set.update's loop -/
theorem set_update_tups {I : Addr} {fp wr : List Addr} {G : Array GenState → Array GenState → Prop} {n : Nat} {Pv : Nat → Value → Prop} {St : Nat → Shared → Prop} {R : Result → Shared → Prop}
    (W : WalksS P w A.in1 I fp wr G n Pv St) (S : Addr) (hSf : S ∉ fp) (ks : List (Addr × List Key)) (hn : n = ks.length) (hfew : ks.length < 64) (hval : ∀ i v, Pv i v → ∃ p, ks[i]? = some p ∧ v = .ref p.1)
    (h0 : Heap) (hk : ∀ p ∈ ks, IsT P w h0 p.2 p.1) (hS0 : h0.get? S = none) (hw0 : ∀ b ∈ wr, h0.get? b = none) (hu : A.in1.units < cLine) :
    ∀ (k i : Nat) (s : Shared), n - i = k → i ≤ n → St i s → (∀ b o, h0.get? b = some o → s.heap.get? b = some o) → (∃ L es ep t, SetTR P w s.heap S L es ep t ∧ Got ks i L) →
      (∀ s' L es ep t, Moved (S :: wr) G s s' → SetTR P w s'.heap S L es ep t → Got ks n L → (∀ b o, h0.get? b = some o → s'.heap.get? b = some o) → R (.ok (.ret .none)) s') →
      codeAny (model P w) A (.builtin "set.update.loop" ⟨[.ref S, .ref I], []⟩) R s := by
  have hSw : S ∉ wr := fun h => hSf (W.sub _ h)
  have hsub : ∀ b ∈ wr, b ∈ S :: wr := fun b hb => List.mem_cons_of_mem _ hb
  have keepM : ∀ {s s' : Shared}, Moved wr G s s' → (∀ b o, h0.get? b = some o → s.heap.get? b = some o) → ∀ b o, h0.get? b = some o → s'.heap.get? b = some o := fun hm hkp b o e =>
    hm.heap b o (fun hb => by rw [hw0 b hb] at e; cases e) (hkp b o e)
  intro k
  induction k with
  | zero =>
    intro i s hk' hi hst hkp ⟨L, es, ep, t, hS, g⟩ hR
    have hin : i = n := by omega
    subst hin
    refine codeAny_builtin F.entry_set_update_loop ?_
    rw [Around.under_plainId F.plain_set_update_loop _]
    show wpAny _ A.in1 (pyNext (.ref I) >>= _) _ _ s
    refine wpAny_bind (W.done s _ _ hst fun s' hm => ?_)
    show wpAny _ A.in1 (ret Value.none) _ _ s'
    have hkp' := keepM hm hkp
    have sub : ∀ p ∈ L, p ∈ ks := fun p hp => List.mem_of_mem_take (g.sub p hp)
    exact wpAny_pure (hR s' L es ep t (hm.mono hsub) (hS.keep (fun o e => hm.heap S o hSw e) fun p hp => isT_keep (hk p (sub p hp)) hkp') g hkp')
  | succ k ih =>
    intro i s hk' hi hst hkp ⟨L, es, ep, t, hS, g⟩ hR
    have hlt : i < n := by omega
    refine codeAny_builtin F.entry_set_update_loop ?_
    rw [Around.under_plainId F.plain_set_update_loop _]
    show wpAny _ A.in1 (pyNext (.ref I) >>= _) _ _ s
    refine wpAny_bind (W.item i s _ _ hlt hst fun v s' hP hst' hm => ?_)
    obtain ⟨p, hp, rfl⟩ := hval i v hP
    have hkp' := keepM hm hkp
    have sub : ∀ p ∈ L, p ∈ ks := fun p hp => List.mem_of_mem_take (g.sub p hp)
    have hS' : SetTR P w s'.heap S L es ep t := hS.keep (fun o e => hm.heap S o hSw e) fun q hq => isT_keep (hk q (sub q hq)) hkp'
    have hx : IsT P w s'.heap p.2 p.1 := isT_keep (hk p (List.mem_of_getElem? hp)) hkp'
    show wpAny _ A.in1 (holding [Value.ref p.1] (setAdd S (.ref p.1)) >>= _) _ _ s'
    refine wpAny_bind (wpAny_holding ?_)
    unfold setAdd
    refine wpAny_holding ?_
    refine wpAny_bind (wpAny_pyHash_tuple hu hx ?_)
    refine add_at (s := { s' with toks := s'.toks + (p.2.length + 1) }) hS' hx hu (by have := g.len; omega) fun b h' L' es' ep' t' hsb hS2 c1 c2 => ?_
    have g' : Got ks (i + 1) L' := by
      rcases Classical.em (p.2 ∈ L.map (·.2)) with c | c
      · rw [c1 c]; exact g.same hp c
      · exact g.more hp (c2 c)
    have hkp2 : ∀ b o, h0.get? b = some o → h'.get? b = some o := fun b o e => (hsb.2 b (fun z => by rw [z, hS0] at e; cases e)).trans (hkp' b o e)
    refine wpAny_pure ⟨plainId_quiet F.plain_set_update_loop _, ih (i + 1) _ (by omega) hlt (W.frame _ s' _ _ hst' (Nat.le_add_right _ _) fun b hb o e => ?_) hkp2 ⟨L', es', ep', t', hS2, g'⟩ fun s'' L2 es2 ep2 t2 hm'' hS'' g'' hkp'' => ?_⟩
    · rw [hsb.2 b (fun h : b = S => hSf (by rw [← h]; exact hb))]; exact e
    · refine hR s'' L2 es2 ep2 t2 (Moved.trans W.gtrans ((hm.mono hsub).then_heap (Nat.le_add_right _ _) fun b o hb e => ?_) hm'') hS'' g'' hkp''
      rw [hsb.2 b (fun h : b = S => hb (by rw [h]; exact List.mem_cons_self))]; exact e

set_option maxRecDepth 100000 in
set_option maxHeartbeats 3200000 in
/-- set(xs) -/
theorem call_set_tups {l : Addr} {items : Array Value} (ks : List (Addr × List Key)) {Q : Value → Shared → Prop} (hh : A.handled = none) (hl : s.heap.IsList l items) (hit : items.toList = ks.map fun p => Value.ref p.1)
    (hk : ∀ p ∈ ks, IsT P w s.heap p.2 p.1) (hfew : ks.length < 64) (hu : A.units + 3 < cLine)
    (h : ∀ (h' : Heap) (tk : Nat) L es ep t, SetTR P w h' s.heap.objs.size L es ep t → Got ks ks.length L → (∀ b o, s.heap.get? b = some o → h'.get? b = some o) → Q (.ref s.heap.objs.size) { s with heap := h', toks := tk }) :
    wpAny (model P w) A (call (.type "set") [.ref l]) Q E s := by
  have hisz : items.size = ks.length := by
    have q := congrArg List.length hit
    rw [Array.length_toList, List.length_map] at q
    exact q
  obtain ⟨c, tl, hmro⟩ := F.called_set.mro
  have hmade := F.called_set.made
  have hsub := F.called_set.sub
  refine wpAny_call (codeAny_of_tree ?_)
  show wpAny _ _ (callAny (.type "set") _) _ _ _
  refine wpAny_pure ⟨Code.quiet_builtin _ (by decide +kernel), codeAny_builtin F.entry_type_call ?_⟩
  rw [Around.under_plain (weight_type_call_type "set" [.ref l] []) rfl]
  have h1 := F.called_set.notType
  have h2 := F.called_set.canCreate
  have hct := F.typeCall_set_1 (.ref l)
  repeat (any_goals (first | assumption | wp_step))

  refine codeAny_mono (code_set_led1 (.ref l) (E := E) (Q₁ := fun obj s₁ => obj = .ref s.heap.objs.size ∧ s₁ = { s with heap := s.heap.push { cls := .type "set", dict := none, data := .set #[] 0 (.fresh 0 0 (!w.params.followText "set-order")) } }) ⟨rfl, rfl⟩) fun r s₁ hr => ?_
  cases r with
  | error e => exact hr
  | ok fl =>
    cases fl with
    | ret obj =>
      obtain ⟨rfl, rfl⟩ := hr
      have hS : (s.heap.push { cls := .type "set", dict := none, data := .set #[] 0 (.fresh 0 0 (!w.params.followText "set-order")) }).get? s.heap.objs.size = some { cls := .type "set", dict := none, data := .set #[] 0 (.fresh 0 0 (!w.params.followText "set-order")) } := Heap.get?_push_size _ rfl
      have hT : Shared.TypeIs { s with heap := s.heap.push { cls := .type "set", dict := none, data := .set #[] 0 (.fresh 0 0 (!w.params.followText "set-order")) } } (.ref s.heap.objs.size) "set" := ⟨_, hS, rfl⟩
      have hli := F.called_set.init.lookup
      have hbi := F.called_set.init.bind (.ref s.heap.objs.size)
      repeat (any_goals (first | assumption | wp_step))

      refine codeAny_mono (codeAny_call_builtin (R := wants (fun r s₂ => r = .none ∧ ∃ h' tk L es ep t, s₂ = { s with heap := h', toks := tk } ∧ SetTR P w h' s.heap.objs.size L es ep t ∧ Got ks ks.length L ∧
          (∀ b o, s.heap.get? b = some o → h'.get? b = some o)) E) F.called_set.init.plain F.entry_set_init (check_set_init_1 hT ?_)) fun r₂ s₂ hr₂ => ?_
      · obtain ⟨ol, hol, hcl, nl, hdl⟩ := hl
        obtain ⟨ocls, odict, odata, oslots⟩ := ol
        simp only at hcl hdl
        subst hcl; subst hdl
        have hol' : (s.heap.push { cls := .type "set", dict := none, data := .set #[] 0 (.fresh 0 0 (!w.params.followText "set-order")) }).get? l = some { cls := .type "list", dict := odict, data := .seq items nl, slots := oslots } := Heap.get?_push_of_some _ hol
        have hsls := F.sub_list_set
        have hslf := F.sub_list_frozenset
        have hne : (Value.type "list" == Value.type "dict") = false := by decide
        have hl1 : (s.heap.push { cls := .type "set", dict := none, data := .set #[] 0 (.fresh 0 0 (!w.params.followText "set-order")) }).IsList l items := ⟨_, hol', rfl, nl, rfl⟩
        unfold Builtin.«set.__init__» noKeywords Builtin.Frozenset.updateFrom
        generalize hPI : pyIter = PI
        wp_walk
        subst hPI

        refine wpAny_pyIter_list hl1 ?_
        refine wpAny_bind (wpAny_runValue ?_)
        have hlS : l < s.heap.objs.size := Heap.lt_size hol
        have hh3 : A.in1.in1.in1.handled = none := by simp [hh]
        have hz1 : (s.heap.push { cls := .type "set", dict := none, data := .set #[] 0 (.fresh 0 0 (!w.params.followText "set-order")) }).objs.size = s.heap.objs.size + 1 := Heap.size_push ..
        have hneI : l ≠ (s.heap.push { cls := .type "set", dict := none, data := .set #[] 0 (.fresh 0 0 (!w.params.followText "set-order")) }).objs.size := by
          rw [Heap.size_push]; exact Nat.ne_of_lt (Nat.lt_succ_of_lt hlS)
        have hSf : s.heap.objs.size ∉ [(s.heap.push { cls := .type "set", dict := none, data := .set #[] 0 (.fresh 0 0 (!w.params.followText "set-order")) }).objs.size, l] := by
          rw [Heap.size_push]; simp only [List.mem_cons, List.mem_singleton, List.not_mem_nil, or_false, not_or]
          exact ⟨Nat.ne_of_lt (Nat.lt_succ_self _), Nat.ne_of_gt hlS⟩
        have hval : ∀ (i : Nat) (v : Value), items[i]? = some v → ∃ p, ks[i]? = some p ∧ v = .ref p.1 := fun i v hv => by
          have q : items.toList[i]? = some v := by rw [Array.getElem?_toList]; exact hv
          rw [hit, List.getElem?_map] at q
          cases hq : ks[i]? with
          | none => rw [hq] at q; cases q
          | some p =>
            rw [hq] at q
            exact ⟨p, rfl, (Option.some.inj q).symm⟩
        have none_of : ∀ b, s.heap.objs.size ≤ b → s.heap.get? b = none := fun b hb => by
          cases q : s.heap.get? b with
          | none => rfl
          | some o => exact absurd (Nat.lt_of_lt_of_le (Heap.lt_size q) hb) (Nat.lt_irrefl _)
        refine set_update_tups ((Walks.list hh3 _ l hneI items).toS) s.heap.objs.size
          hSf ks hisz hfew hval s.heap hk (none_of _ (Nat.le_refl _)) (fun b hb => none_of b (by
            rw [List.mem_singleton.mp hb, Heap.size_push]
            exact Nat.le_succ _)) hu (items.size - 0) 0 _ (by omega) (Nat.zero_le _)
          ⟨⟨_, Heap.get?_push_size _ rfl, rfl, rfl⟩, (hl1.push _)⟩ (fun b o e => Heap.get?_push_of_some _ (Heap.get?_push_of_some _ e)) ?hS0 ?hR
        case hS0 =>
          have hget : ((s.heap.push { cls := .type "set", dict := none, data := .set #[] 0 (.fresh 0 0 (!w.params.followText "set-order")) }).push { cls := .type "list_iterator", data := .fields #[.ref l, .int 0 0] }).get? s.heap.objs.size
              = some { cls := .type "set", dict := none, data := .set #[] 0 (.fresh 0 0 (!w.params.followText "set-order")) } := Heap.get?_push_of_some _ hS
          exact ⟨[], #[], 0, _, setTR_fresh hget, Got.zero ks⟩
        case hR =>
          intro s' L es ep t hm hS' g' hkp
          obtain ⟨h', g2, d', tk', os'⟩ := s'
          have eg : g2 = s.gens := hm.gens
          have ed : d' = s.drawn := hm.drawn
          have eo : os' = s.os := hm.os
          subst eg; subst ed; subst eo
          show wpAny _ _ _ _ _ _
          refine wpAny_pure ?_
          show wpAny _ _ (ret Value.none) _ _ _
          rw [hisz] at g'
          exact wpAny_pure ⟨rfl, h', tk', L, es, ep, t, rfl, hS', g', hkp⟩

      · cases r₂ with
        | error e => exact hr₂
        | ok fl₂ =>
          cases fl₂ with
          | ret r =>
            obtain ⟨rfl, h', tk, L, es, ep, t, rfl, hS', g', hk'⟩ := hr₂
            repeat (any_goals (first | assumption | wp_step))
            exact h _ _ _ _ _ _ hS' g' hk'
          | _ => exact hr₂.elim
    | _ => exact hr.elim

end
end Mx


namespace Mx
open PySem PySem.Spec PyProof.Rows L2
/-! ### set(xs) of a tuple -/
section
variable {P : Program} {w : World} {A : Around} {E : Value → Shared → Prop} {s : Shared}
set_option maxHeartbeats 3200000 in
theorem set_of_tuple {l : Addr} {items : Array Value} (ks : List (Addr × List Key)) {Q : Value → Shared → Prop} (hh : A.handled = none) (hl : s.heap.IsTuple l items) (hit : items.toList = ks.map fun p => Value.ref p.1)
    (hk : ∀ p ∈ ks, IsT P w s.heap p.2 p.1) (hfew : ks.length < 64) (hu : A.units + 3 < cLine)
    (h : ∀ (h' : Heap) (tk : Nat) L es ep t, SetTR P w h' s.heap.objs.size L es ep t → Got ks ks.length L → (∀ b o, s.heap.get? b = some o → h'.get? b = some o) → Q (.ref s.heap.objs.size) { s with heap := h', toks := tk }) :
    wpAny (model P w) A (call (.type "set") [.ref l]) Q E s := by
  have hisz : items.size = ks.length := by
    have q := congrArg List.length hit
    rw [Array.length_toList, List.length_map] at q
    exact q
  obtain ⟨c, tl, hmro⟩ := F.called_set.mro
  have hmade := F.called_set.made
  have hsub := F.called_set.sub
  refine wpAny_call (codeAny_of_tree ?_)
  show wpAny _ _ (callAny (.type "set") _) _ _ _
  refine wpAny_pure ⟨Code.quiet_builtin _ (by decide +kernel), codeAny_builtin F.entry_type_call ?_⟩
  rw [Around.under_plain (weight_type_call_type "set" [.ref l] []) rfl]
  have h1 := F.called_set.notType
  have h2 := F.called_set.canCreate
  have hct := F.typeCall_set_1 (.ref l)
  repeat (any_goals (first | assumption | wp_step))

  refine codeAny_mono (code_set_led1 (.ref l) (E := E) (Q₁ := fun obj s₁ => obj = .ref s.heap.objs.size ∧ s₁ = { s with heap := s.heap.push { cls := .type "set", dict := none, data := .set #[] 0 (.fresh 0 0 (!w.params.followText "set-order")) } }) ⟨rfl, rfl⟩) fun r s₁ hr => ?_
  cases r with
  | error e => exact hr
  | ok fl =>
    cases fl with
    | ret obj =>
      obtain ⟨rfl, rfl⟩ := hr
      have hS : (s.heap.push { cls := .type "set", dict := none, data := .set #[] 0 (.fresh 0 0 (!w.params.followText "set-order")) }).get? s.heap.objs.size = some { cls := .type "set", dict := none, data := .set #[] 0 (.fresh 0 0 (!w.params.followText "set-order")) } := Heap.get?_push_size _ rfl
      have hT : Shared.TypeIs { s with heap := s.heap.push { cls := .type "set", dict := none, data := .set #[] 0 (.fresh 0 0 (!w.params.followText "set-order")) } } (.ref s.heap.objs.size) "set" := ⟨_, hS, rfl⟩
      have hli := F.called_set.init.lookup
      have hbi := F.called_set.init.bind (.ref s.heap.objs.size)
      repeat (any_goals (first | assumption | wp_step))

      refine codeAny_mono (codeAny_call_builtin (R := wants (fun r s₂ => r = .none ∧ ∃ h' tk L es ep t, s₂ = { s with heap := h', toks := tk } ∧ SetTR P w h' s.heap.objs.size L es ep t ∧ Got ks ks.length L ∧
          (∀ b o, s.heap.get? b = some o → h'.get? b = some o)) E) F.called_set.init.plain F.entry_set_init (check_set_init_1 hT ?_)) fun r₂ s₂ hr₂ => ?_
      · obtain ⟨ol, hol, hcl, nl, hdl⟩ := hl
        obtain ⟨ocls, odict, odata, oslots⟩ := ol
        simp only at hcl hdl
        subst hcl; subst hdl
        have hol' : (s.heap.push { cls := .type "set", dict := none, data := .set #[] 0 (.fresh 0 0 (!w.params.followText "set-order")) }).get? l = some { cls := .type "tuple", dict := odict, data := .seq items nl, slots := oslots } := Heap.get?_push_of_some _ hol
        have hsls := F.sub_tuple_set
        have hslf := F.sub_tuple_frozenset
        have hne : (Value.type "tuple" == Value.type "dict") = false := by decide
        have hl1 : (s.heap.push { cls := .type "set", dict := none, data := .set #[] 0 (.fresh 0 0 (!w.params.followText "set-order")) }).IsTuple l items := ⟨_, hol', rfl, nl, rfl⟩
        unfold Builtin.«set.__init__» noKeywords Builtin.Frozenset.updateFrom
        generalize hPI : pyIter = PI
        wp_walk
        subst hPI

        refine wpAny_pyIter_tuple hl1 ?_
        refine wpAny_bind (wpAny_runValue ?_)
        have hlS : l < s.heap.objs.size := Heap.lt_size hol
        have hh3 : A.in1.in1.in1.handled = none := by simp [hh]
        have hz1 : (s.heap.push { cls := .type "set", dict := none, data := .set #[] 0 (.fresh 0 0 (!w.params.followText "set-order")) }).objs.size = s.heap.objs.size + 1 := Heap.size_push ..
        have hneI : l ≠ (s.heap.push { cls := .type "set", dict := none, data := .set #[] 0 (.fresh 0 0 (!w.params.followText "set-order")) }).objs.size := by
          rw [Heap.size_push]; exact Nat.ne_of_lt (Nat.lt_succ_of_lt hlS)
        have hSf : s.heap.objs.size ∉ [(s.heap.push { cls := .type "set", dict := none, data := .set #[] 0 (.fresh 0 0 (!w.params.followText "set-order")) }).objs.size, l] := by
          rw [Heap.size_push]; simp only [List.mem_cons, List.mem_singleton, List.not_mem_nil, or_false, not_or]
          exact ⟨Nat.ne_of_lt (Nat.lt_succ_self _), Nat.ne_of_gt hlS⟩
        have hval : ∀ (i : Nat) (v : Value), items[i]? = some v → ∃ p, ks[i]? = some p ∧ v = .ref p.1 := fun i v hv => by
          have q : items.toList[i]? = some v := by rw [Array.getElem?_toList]; exact hv
          rw [hit, List.getElem?_map] at q
          cases hq : ks[i]? with
          | none => rw [hq] at q; cases q
          | some p =>
            rw [hq] at q
            exact ⟨p, rfl, (Option.some.inj q).symm⟩
        have none_of : ∀ b, s.heap.objs.size ≤ b → s.heap.get? b = none := fun b hb => by
          cases q : s.heap.get? b with
          | none => rfl
          | some o => exact absurd (Nat.lt_of_lt_of_le (Heap.lt_size q) hb) (Nat.lt_irrefl _)
        refine set_update_tups ((Walks.tuple hh3 _ l hneI items).toS) s.heap.objs.size
          hSf ks hisz hfew hval s.heap hk (none_of _ (Nat.le_refl _)) (fun b hb => none_of b (by
            rw [List.mem_singleton.mp hb, Heap.size_push]
            exact Nat.le_succ _)) hu (items.size - 0) 0 _ (by omega) (Nat.zero_le _)
          ⟨⟨_, Heap.get?_push_size _ rfl, rfl, rfl⟩, (hl1.push _)⟩ (fun b o e => Heap.get?_push_of_some _ (Heap.get?_push_of_some _ e)) ?hS0 ?hR
        case hS0 =>
          have hget : ((s.heap.push { cls := .type "set", dict := none, data := .set #[] 0 (.fresh 0 0 (!w.params.followText "set-order")) }).push { cls := .type "tuple_iterator", data := .fields #[.ref l, .int 0 0] }).get? s.heap.objs.size
              = some { cls := .type "set", dict := none, data := .set #[] 0 (.fresh 0 0 (!w.params.followText "set-order")) } := Heap.get?_push_of_some _ hS
          exact ⟨[], #[], 0, _, setTR_fresh hget, Got.zero ks⟩
        case hR =>
          intro s' L es ep t hm hS' g' hkp
          obtain ⟨h', g2, d', tk', os'⟩ := s'
          have eg : g2 = s.gens := hm.gens
          have ed : d' = s.drawn := hm.drawn
          have eo : os' = s.os := hm.os
          subst eg; subst ed; subst eo
          show wpAny _ _ _ _ _ _
          refine wpAny_pure ?_
          show wpAny _ _ (ret Value.none) _ _ _
          rw [hisz] at g'
          exact wpAny_pure ⟨rfl, h', tk', L, es, ep, t, rfl, hS', g', hkp⟩

      · cases r₂ with
        | error e => exact hr₂
        | ok fl₂ =>
          cases fl₂ with
          | ret r =>
            obtain ⟨rfl, h', tk, L, es, ep, t, rfl, hS', g', hk'⟩ := hr₂
            repeat (any_goals (first | assumption | wp_step))
            exact h _ _ _ _ _ _ hS' g' hk'
          | _ => exact hr₂.elim
    | _ => exact hr.elim

end
/-! ### sorted -/
def keyV : Key → V
  | .inl i => .int i
  | .inr x => .str x
def keyDt : Key → PyData
  | .inl i => .int i
  | .inr x => .str x
def rowK (r : List Key) : PyData := .tuple (r.map keyDt)
section
variable {P : Program} {w : World} {A : Around} {E : Value → Shared → Prop} {s : Shared}
theorem each_refs : ∀ {L1 : List (Addr × List Key)} {R : Value → Addr × List Key → Prop}, (∀ p ∈ L1, R (.ref p.1) p) → PySem.W.EachIs R (L1.map fun q => Value.ref q.1) L1
  | [], _, _ => .nil
  | p :: L1, _, h => .cons (h p (by simp)) (each_refs fun q hq => h q (by simp [hq]))
theorem refs_each : ∀ {us : List Value} {L1 : List (Addr × List Key)}, PySem.W.EachIs (fun v p => v = Value.ref p.1) us L1 → us = L1.map fun q => Value.ref q.1
  | _, _, .nil => rfl
  | _, _, .cons h t => by rw [h, refs_each t]; rfl
set_option maxHeartbeats 3200000 in
theorem sorted_setT {a : Addr} {L : List (Addr × List Key)} {es : Array (Int × Value)} {ep : Nat} {t : SetTable} {Q : Value → Shared → Prop} (R : SetTR P w s.heap a L es ep t) (hh : A.handled = none)
    (hr : ∀ p ∈ L, ∃ as, Reads s.heap (.ref p.1) (rowK p.2) as) (hal : PySem.W.AllAlike (L.map fun p => rowK p.2)) (hk : PySem.W.Sortable (L.map fun p => rowK p.2)) (hu : ∀ p ∈ L, A.units + 2 + (rowK p.2).depth < cLine)
    (hQ : ∀ s' p (out : Array Value) (c : Nat) (L' : List (Addr × List Key)), (∀ b o, s.heap.get? b = some o → s'.heap.get? b = some o) → s'.gens = s.gens → s'.os = s.os → s.heap.objs.size ≤ p →
      s'.heap.get? p = some (seqObj "list" out c) → out.toList = L'.map (fun q => Value.ref q.1) → L'.Perm L → L'.Pairwise (fun q r => PySem.W.dataLt (rowK r.2) (rowK q.2) = false) → Q (.ref p) s') :
    wpAny (model P w) A (call (.builtin "sorted") [.ref a]) Q E s := by
  obtain ⟨o, ho, hex, hd⟩ := R.ob
  have hsz := R.size
  have hfew := R.few
  refine Calls.call_function_entry kind_sorted plain_sorted entry_sorted (args_sorted1 _) ?_
  unfold Builtin.«sorted»
  refine wpAny_bind (m := checkCount "sorted" 1 1 _) (wpAny_pure ?_)
  refine wpAny_bind (collect_set (A := A.in1) hh ⟨o, ho, hex.1, hd⟩ R.fits (by unfold scanBound; omega) R.tab.ris R.led fun s1 vs k1 hz g1 o1 pm => ?_)
  have hes : es.toList.map (·.2) = L.map fun q => Value.ref q.1 := by
    rw [R.rows]
    unfold rowsOf
    rw [List.map_map] <;> rfl
  rw [hes] at pm
  have ord : ∀ vs : List Value, (∀ v ∈ vs, ∃ q ∈ L, v = Value.ref q.1) → ∃ L1 : List (Addr × List Key), vs = L1.map (fun q => Value.ref q.1) ∧ ∀ q ∈ L1, q ∈ L := by
    intro vs
    induction vs with
    | nil => intro _; exact ⟨[], rfl, fun q hq => (by cases hq)⟩
    | cons v vs ih =>
      intro hv
      obtain ⟨q, hq, e⟩ := hv v List.mem_cons_self
      obtain ⟨L1, e1, hs⟩ := ih fun u hu => hv u (List.mem_cons_of_mem _ hu)
      refine ⟨q :: L1, by rw [List.map_cons, e, e1], fun r hr => ?_⟩
      rcases List.mem_cons.mp hr with z | z
      · rw [z]; exact hq
      · exact hs r z
  have one : ∀ q ∈ L, ∀ r ∈ L, q.1 = r.1 → q = r := fun q hq r hr e => by
    have a1 := R.tup q hq
    have a2 := R.tup r hr
    rw [e] at a1
    have e2 : q.2 = r.2 := a1.inj a2
    exact Prod.ext e e2
  have perm_of : ∀ L1 : List (Addr × List Key), (∀ q ∈ L1, q ∈ L) → (L1.map (fun q => Value.ref q.1)).Perm (L.map fun q => Value.ref q.1) → L1.Perm L := by
    intro L1 hs pm1
    have nL : L.Nodup := nodup_of_map R.nd
    have nref : (L.map fun q => Value.ref q.1).Nodup := by
      refine List.pairwise_map.mpr (List.Pairwise.imp_of_mem (fun {q r} hq hr hne e => ?_) nL)
      injection e with e
      exact hne (one q hq r hr e)
    have n1 : L1.Nodup := nodup_of_map (pm1.nodup_iff.mpr nref)
    refine (List.perm_ext_iff_of_nodup n1 nL).mpr fun q => ⟨hs q, fun hq => ?_⟩
    have hm : Value.ref q.1 ∈ L1.map (fun q => Value.ref q.1) := pm1.mem_iff.mpr (List.mem_map.mpr ⟨q, hq, rfl⟩)
    obtain ⟨r, hr, e⟩ := List.mem_map.mp hm
    injection e with e
    rw [← one r (hs r hr) q hq e]
    exact hr
  obtain ⟨L1, rfl, hs1⟩ := ord vs fun v hv => by
    obtain ⟨q, hq, e⟩ := List.mem_map.mp (pm.mem_iff.mp hv)
    exact ⟨q, hq, e.symm⟩
  have p1 := perm_of L1 hs1 pm
  have hvl : L1.length < 64 := by rw [p1.length_eq]; exact hfew
  have hL : (L1.map fun q => Value.ref q.1).length ≤ sizeLine := by rw [sizeLine_eq, List.length_map]; omega
  refine wpAny_bind (wpAny_newList ?_ hL)
  have hoL : (s1.heap.push (seqObj "list" (L1.map fun q => Value.ref q.1).toArray 0)).get? s1.heap.objs.size = some (seqObj "list" (L1.map fun q => Value.ref q.1).toArray 0) := Heap.get?_push_size _ rfl
  have pmm := p1.map (fun p => rowK p.2)
  have hal1 : PySem.W.AllAlike (L1.map fun p => rowK p.2) := fun d hd d' hd' => hal d (pmm.mem_iff.mp hd) d' (pmm.mem_iff.mp hd')
  have hk1 : PySem.W.Sortable (L1.map fun p => rowK p.2) := hk.imp (fun h d hd => h d (pmm.mem_iff.mp hd)) (fun h d hd => h d (pmm.mem_iff.mp hd))
  have ne1 : ∀ b o, s.heap.get? b = some o → b ≠ s1.heap.objs.size := fun b o e => Nat.ne_of_lt (Nat.lt_of_lt_of_le (Heap.lt_size e) hz)
  have er : PySem.W.EachIs (fun v p => ∃ as, Reads (PySem.W.sortingHeap (s1.heap.push (seqObj "list" (L1.map fun q => Value.ref q.1).toArray 0)) s1.heap.objs.size (L1.map fun q => Value.ref q.1)) v ((fun p : Addr × List Key => rowK p.2) p) as) (L1.map fun q => Value.ref q.1) L1 := each_refs fun p hp => by
    obtain ⟨as, r⟩ := hr p (hs1 p hp)
    exact ⟨as, PyProof.Rows.Reads.keeps (fun b o e => PySem.W.sortingHeap_old (ne1 b o e) (Heap.get?_push_of_some _ (k1 b o e))) r⟩
  have S := PySem.W.SortsAt.data (prog := P) (w := w) (A := A.in1.in1) (s := { s1 with heap := PySem.W.sortingHeap (s1.heap.push (seqObj "list" (L1.map fun q => Value.ref q.1).toArray 0)) s1.heap.objs.size (L1.map fun q => Value.ref q.1) })
    (PySem.W.each_map (R := fun v d => ∃ as, Reads (PySem.W.sortingHeap (s1.heap.push (seqObj "list" (L1.map fun q => Value.ref q.1).toArray 0)) s1.heap.objs.size (L1.map fun q => Value.ref q.1)) v d as) (fun p : Addr × List Key => rowK p.2) er) hal1 hk1 (PySem.W.bound_map (enc := fun p : Addr × List Key => rowK p.2) fun p hp => hu p (hs1 p hp))
  refine wpAny_bind (wpAny_holding (wpAny_call_entry_kw slot_list_sort ⟨_, hoL, rfl⟩ entry_list_sort ?body (args_list_sort _)))
  case body =>
    show wpAny (model P w) A.in1.in1 (Builtin.«list.sort» ⟨[.ref s1.heap.objs.size], []⟩) _ _ _
    refine PySem.W.list_sort_vals (s := { s1 with heap := s1.heap.push (seqObj "list" (L1.map fun q => Value.ref q.1).toArray 0) }) hoL S hL ?_
    have e0 : PySem.W.EachIs (fun v p => v = Value.ref p.1) (L1.map fun q => Value.ref q.1) L1 := each_refs fun p _ => rfl
    have eo := PySem.W.sortVals_data (enc := fun p : Addr × List Key => rowK p.2) false e0 er hal1
    have eo' := refs_each eo
    generalize hout : PySem.W.sortVals (PySem.W.dataKind (PySem.W.sortingHeap (s1.heap.push (seqObj "list" (L1.map fun q => Value.ref q.1).toArray 0)) s1.heap.objs.size (L1.map fun q => Value.ref q.1)) (L1.map fun p => rowK p.2)) false (L1.map fun q => Value.ref q.1) (L1.map fun q => Value.ref q.1) = out at eo eo' ⊢
    have tot : PySem.W.TotalLe (PySem.W.dataLe false (fun p : Addr × List Key => rowK p.2)) := PySem.W.sortLe_total _ _ _
    have pw := List.pairwise_mergeSort (fun a b c => tot.trans a b c) (fun a b => by have := tot.total a b; simpa using this) L1
    obtain ⟨c, hc⟩ := sortedHeap_at (vs := L1.map fun q => Value.ref q.1) (out := out.toArray) hoL
    refine ⟨_, rfl, wpAny_pure ⟨_, rfl, hQ _ s1.heap.objs.size out.toArray c (L1.mergeSort (PySem.W.dataLe false fun p : Addr × List Key => rowK p.2)) (fun b u e => ?_) g1 o1 hz hc (by simpa using eo') ((List.mergeSort_perm _ _).trans p1) (pw.imp fun h => ?_)⟩⟩
    · have q := k1 b u e
      have hlt := Heap.lt_size q
      show (sortedHeap (s1.heap.push (seqObj "list" (L1.map fun q => Value.ref q.1).toArray 0)) s1.heap.objs.size (L1.map fun q => Value.ref q.1) out.toArray).get? b = some u
      rw [sortedHeap_old (Nat.ne_of_lt hlt) (by rw [size_push']; exact Nat.lt_succ_of_lt hlt)]
      exact Heap.get?_push_of_some _ q
    · rw [PySem.W.dataLe_eq] at h
      have h : (!PySem.W.dataLt _ _) = true := h
      simpa using h
end
end Mx

namespace Mx
open PySem PySem.Spec PyProof.Rows L2
/-- the set at a, without the tuples themselves -/
structure SetT0 (P : Program) (w : World) (h : Heap) (a : Addr) (L : List (Addr × List Key)) : Prop where
  ex : ∃ (es : Array (Int × Value)) (ep : Nat) (t : SetTable), (∃ o, h.get? a = some o ∧ o.ExactSet ∧ o.data = .set es ep t) ∧ es.toList = rowsOf P w L ∧ TabOk t (L.map fun p => thash P w p.2) ∧ (L.map (·.2)).Nodup ∧
    (w.params.followText "set-order" = true ∨ t.led = true) ∧ L.length * 5 < t.mask * 3 ∧ L.length < 64
def SetTO (P : Program) (w : World) (a : Addr) (L : List (Addr × List Key)) : HO := .ext fun h => SetT0 P w h a L
theorem SetTR.t0 {P : Program} {w : World} {h : Heap} {a : Addr} {L : List (Addr × List Key)} {es : Array (Int × Value)} {ep : Nat} {t : SetTable} (R : SetTR P w h a L es ep t) : SetT0 P w h a L :=
  ⟨es, ep, t, R.ob, R.rows, R.tab, R.nd, R.led, R.room, R.few⟩
theorem SetT0.full {P : Program} {w : World} {h : Heap} {a : Addr} {L : List (Addr × List Key)} (R : SetT0 P w h a L) (ht : ∀ p ∈ L, IsT P w h p.2 p.1) : ∃ es ep t, SetTR P w h a L es ep t := by
  obtain ⟨es, ep, t, h1, h2, h3, h4, h6, h7, h8⟩ := R.ex
  exact ⟨es, ep, t, h1, h2, h3, h4, ht, h6, h7, h8⟩
theorem setTO_new {P : Program} {w : World} {H : Hp} {h : Heap} {a : Addr} {L : List (Addr × List Key)} (R : SetT0 P w h a L) : ObjOk P w H h a (SetTO P w a L) := by
  have ⟨es, ep, t, ⟨o, ho, r⟩, q⟩ := R.ex
  refine ⟨R, ⟨o, ho⟩, fun h1 h2 p k => ?_⟩
  have ⟨es', ep', t', ⟨o', ho', r'⟩, q'⟩ := SetT0.ex p
  exact ⟨es', ep', t', ⟨o', k o' ho', r'⟩, q'⟩
theorem items_of_vals {P : Program} {w : World} : ∀ {k : List Key} {us : List Value}, Vals (k.map keyV) us → ItemsAre (mixKind P w) k us
  | [], _, .nil => .nil
  | .inl n :: k, _, .cons r t => by
    obtain ⟨tk, rfl⟩ := r
    exact .cons (mixKind_int P w n tk) (items_of_vals t)
  | .inr n :: k, _, .cons r t => by
    obtain ⟨tk, rfl⟩ := r
    exact .cons (mixKind_str P w n tk) (items_of_vals t)
theorem refs_of_vals : ∀ {ks : List (Addr × List Key)} {us : List Value}, Vals (ks.map fun p => V.ref p.1) us → us = ks.map fun p => Value.ref p.1
  | [], _, .nil => rfl
  | p :: ks, _, .cons r t => by
    cases r
    rw [refs_of_vals t] <;> rfl
theorem vals_of_refs : ∀ (ks : List (Addr × List Key)), Vals (ks.map fun p => V.ref p.1) (ks.map fun p => Value.ref p.1)
  | [] => .nil
  | p :: ks => .cons rfl (vals_of_refs ks)
end Mx
namespace Mx
open PySem PySem.Spec L2
section
variable {X : Cx}
theorem isT_of {pins : List (Addr × Obj)} {σ : St} {H : Hp} {s : Shared} {b : Addr} {k : List Key} (I : Inv X pins σ H s) (h : SqT X.K H b (k.map keyV)) : IsT X.prog X.w s.heap k b := by
  obtain ⟨its, r, ⟨o, ho, hc, n, hd⟩, _⟩ := I.tuple h
  exact ⟨o, its.toArray, n, ho, hc, hd, by simpa using items_of_vals r⟩
/-- set(xs), xs a list or a tuple of flat tuples -/
def rSetOfK (K : PySem.W.Frag) (P : Program) (w : World) : List V → Hp → VK → Prop := fun xs H Q => ∃ (l : Addr) (ks : List (Addr × List Key)), xs = [V.ref l] ∧ (SqL K H l (ks.map fun p => V.ref p.1) ∨ SqT K H l (ks.map fun p => V.ref p.1)) ∧ (∀ p ∈ ks, SqT K H p.1 (p.2.map keyV)) ∧ ks.length < 64 ∧
  ∀ a L, H a = none → (L.map (·.2)).Nodup → (∀ p ∈ L, p ∈ ks) → (∀ p ∈ ks, p.2 ∈ L.map (·.2)) → Q (.ref a) (upd H a (SetTO P w a L))
theorem cr_setOfK (hc : X.calm = true) (hu : X.A.units + 64 < cLine) : CallR X (.type "set") (rSetOfK X.K X.prog X.w) := by
  intro pins s σ H xs us Q I r h
  obtain ⟨l, ks, rfl, hl, hk, hf, q⟩ := h
  rw [Vals.ref1 r]
  have hn : H s.heap.objs.size = none := I.hok.fresh (Nat.le_refl _)
  rcases hl with hl | hl
  · obtain ⟨its, rv, pl, hz⟩ := I.list hl
    refine call_set_tups (P := X.prog) (w := X.w) ks (I.ok.hd hc) pl.isList (by simpa using refs_of_vals rv) (fun p hp => isT_of I (hk p hp)) hf (by omega) fun h' tk L es ep t R g k => ?_
    refine ⟨.ref s.heap.objs.size, upd H s.heap.objs.size (SetTO X.prog X.w s.heap.objs.size L), I.laid (t' := tk) k (Nat.le_refl _) (setTO_new R.t0), rfl, q _ L hn R.nd (fun p hp => ?_) fun p hp => ?_⟩
    · exact List.mem_of_mem_take (g.sub p hp)
    · exact g.all p (by rw [List.take_length]; exact hp)
  · obtain ⟨its, rv, pl, hz⟩ := I.tuple hl
    refine set_of_tuple (P := X.prog) (w := X.w) ks (I.ok.hd hc) pl (by simpa using refs_of_vals rv) (fun p hp => isT_of I (hk p hp)) hf (by omega) fun h' tk L es ep t R g k => ?_
    refine ⟨.ref s.heap.objs.size, upd H s.heap.objs.size (SetTO X.prog X.w s.heap.objs.size L), I.laid (t' := tk) k (Nat.le_refl _) (setTO_new R.t0), rfl, q _ L hn R.nd (fun p hp => ?_) fun p hp => ?_⟩
    · exact List.mem_of_mem_take (g.sub p hp)
    · exact g.all p (by rw [List.take_length]; exact hp)
end
end Mx
namespace DL
open PySem PySem.Spec L2
variable [TheW]
/-! ### sorted(set(xs)), xs flat tuples of whole numbers and texts -/
theorem mkeys_dps {K : PySem.W.Frag} {H : Hp} : ∀ ks : List Key, DpAll K H (ks.map Mx.keyV) (ks.map Mx.keyDt)
  | [] => .nil
  | .inl n :: ks => .cons (.int n) (mkeys_dps ks)
  | .inr n :: ks => .cons (.str n) (mkeys_dps ks)
def keyOfD : D → Option Key
  | .int i => some (.inl i)
  | .str x => some (.inr x)
  | _ => none
def keysOfD : List D → Option (List Key)
  | [] => some []
  | d :: ds => match keyOfD d, keysOfD ds with
    | some k, some ks => some (k :: ks)
    | _, _ => none
def rowsKOf : List D → Option (List (List Key))
  | [] => some []
  | .tuple d :: ds => (match keysOfD d, rowsKOf ds with
    | some k, some ks => some (k :: ks)
    | _, _ => none)
  | _ => none
omit [TheW] in
theorem anyK {r : List Key} {rs : List (List Key)} : (rs.any fun q => decide (q = r)) = true ↔ r ∈ rs := by simp
def ddK : List (List Key) → List (List Key)
  | [] => []
  | r :: rs => if (rs.any fun q => decide (q = r)) = true then ddK rs else r :: ddK rs
omit [TheW] in
theorem ddK_mem {r : List Key} : ∀ {rs : List (List Key)}, r ∈ ddK rs ↔ r ∈ rs
  | [] => Iff.rfl
  | q :: rs => by
    unfold ddK
    split
    · rename_i h
      rw [ddK_mem, List.mem_cons]
      exact ⟨.inr, fun z => z.elim (fun e => by subst e; exact anyK.mp h) id⟩
    · rw [List.mem_cons, List.mem_cons, ddK_mem]
omit [TheW] in
theorem ddK_nodup : ∀ (rs : List (List Key)), (ddK rs).Nodup
  | [] => .nil
  | q :: rs => by
    unfold ddK
    split
    · exact ddK_nodup rs
    · rename_i h
      exact List.nodup_cons.mpr ⟨fun z => h (anyK.mpr (ddK_mem.mp z)), ddK_nodup rs⟩
def leK (a b : List Key) : Bool := leD (Mx.rowK a) (Mx.rowK b)
def setSortK (rs : List (List Key)) : List (List Key) := isort leK (ddK rs)
def gSetSortK (d : D) : Option S := match seqOf d with
  | some ds => (match rowsKOf ds with
    | some rs => if (decide (rs.length < 64) && sortable (rs.map Mx.rowK)) = true then some (.dat (.list ((setSortK rs).map Mx.rowK))) else none
    | none => none)
  | none => none
omit [TheW] in
theorem leK_trans (a b c : List Key) (h : leK a b = true) (h' : leK b c = true) : leK a c = true := leD_total.trans _ _ _ h h'
omit [TheW] in
theorem leK_total (a b : List Key) : (leK a b || leK b a) = true := by
  have := leD_total.total (Mx.rowK a) (Mx.rowK b)
  unfold leK
  simpa using this
omit [TheW] in
theorem setSortK_eq0 (rs : List (List Key)) : setSortK rs = (ddK rs).mergeSort leK := isort_eq leK_trans leK_total _
omit [TheW] in
theorem setSortK_perm (rs : List (List Key)) : (setSortK rs).Perm (ddK rs) := by rw [setSortK_eq0]; exact List.mergeSort_perm _ _
omit [TheW] in
theorem setSortK_mem {rs : List (List Key)} {r : List Key} : r ∈ setSortK rs ↔ r ∈ rs := (setSortK_perm rs).mem_iff.trans ddK_mem
omit [TheW] in
theorem setSortK_nodup (rs : List (List Key)) : (setSortK rs).Nodup := (setSortK_perm rs).nodup_iff.mpr (ddK_nodup rs)
omit [TheW] in
theorem setSortK_le (rs : List (List Key)) : (setSortK rs).Pairwise fun a b => leK a b = true := by rw [setSortK_eq0]; exact List.pairwise_mergeSort leK_trans leK_total (ddK rs)
omit [TheW] in
theorem toksK_inj : ∀ {a b : List Key}, PySem.W.keyToksAll (a.map Mx.keyDt) = PySem.W.keyToksAll (b.map Mx.keyDt) → a = b
  | [], [], _ => rfl
  | [], y :: b, h => by simp [PySem.W.keyToksAll] at h
  | x :: a, [], h => by simp [PySem.W.keyToksAll] at h
  | .inl x :: a, .inl y :: b, h => by
    simp [PySem.W.keyToksAll, PySem.W.keyToks, Mx.keyDt] at h
    rw [h.1, toksK_inj h.2]
  | .inl x :: a, .inr y :: b, h => by simp [PySem.W.keyToksAll, PySem.W.keyToks, Mx.keyDt] at h
  | .inr x :: a, .inl y :: b, h => by simp [PySem.W.keyToksAll, PySem.W.keyToks, Mx.keyDt] at h
  | .inr x :: a, .inr y :: b, h => by
    simp [PySem.W.keyToksAll, PySem.W.keyToks, Mx.keyDt] at h
    have e : x = y := PySem.W.str_of_cps (by rw [h.1])
    rw [e, toksK_inj h.2]
omit [TheW] in
theorem leK_anti {a b : List Key} (h : leK a b = true) (h' : leK b a = true) : a = b := by
  unfold leK leD at h h'
  simp only [Bool.not_eq_true'] at h h'
  exact toksK_inj (PyProof.Rows.lex_total (O := PyProof.Rows.itemOrd) _ _ h' h)
omit [TheW] in
theorem setSortK_eq {ks L : List (List Key)} (hn : L.Nodup) (hp : L.Pairwise fun a b => leK a b = true) (hm : ∀ r, r ∈ L ↔ r ∈ ks) : L = setSortK ks :=
  List.Perm.eq_of_pairwise (le := fun a b => leK a b = true) (fun a b _ _ x y => leK_anti x y) hp (setSortK_le ks) ((List.perm_ext_iff_of_nodup hn (setSortK_nodup ks)).mpr fun r => (hm r).trans setSortK_mem.symm)
theorem keys_of_dps {K : PySem.W.Frag} {H : Hp} : ∀ {vs : List V} {ds : List D} {ks : List Key}, DpAll K H vs ds → keysOfD ds = some ks → vs = ks.map Mx.keyV
  | _, _, _, .nil, e => by cases e; rfl
  | _, _, _, .cons (d := d) (ds := ds) h hs, e => by
    unfold keysOfD at e
    split at e
    · rename_i k ks e1 e2
      cases e
      have := keys_of_dps hs e2
      subst this
      cases d <;> simp only [keyOfD] at e1 <;> cases e1
      · cases h; rfl
      · cases h; rfl
    · cases e
theorem rowsK_dps {K : PySem.W.Frag} {H : Hp} : ∀ {vs : List V} {ds : List D} {rs : List (List Key)}, DpAll K H vs ds → rowsKOf ds = some rs → ∃ ks : List (Addr × List Key), vs = ks.map (fun p => V.ref p.1) ∧ rs = ks.map (·.2) ∧ ∀ p ∈ ks, SqT K H p.1 (p.2.map Mx.keyV)
  | _, _, _, .nil, e => by cases e; exact ⟨[], rfl, rfl, fun _ h => by simp at h⟩
  | _, _, _, .cons (d := d) (ds := ds) h hs, e => by
    unfold rowsKOf at e
    split at e
    · rename_i e0; cases e0
    · rename_i d' ds' e0
      cases e0
      split at e
      · rename_i x xs e1 e2
        cases e
        obtain ⟨ks, k1, k2, k3⟩ := rowsK_dps hs e2
        obtain ⟨a, ws, rfl, q1, q2⟩ := dp_tup h
        have := keys_of_dps q2 e1
        subst this
        refine ⟨(a, x) :: ks, by rw [k1]; rfl, by rw [k2]; rfl, fun p hp => ?_⟩
        rcases List.mem_cons.mp hp with rfl | hp
        · exact q1
        · exact k3 p hp
      · cases e
    · cases e
theorem refsK_dps {K : PySem.W.Frag} {H : Hp} : ∀ {L : List (Addr × List Key)}, (∀ p ∈ L, SqT K H p.1 (p.2.map Mx.keyV)) → DpAll K H (L.map fun p => V.ref p.1) ((L.map (·.2)).map Mx.rowK)
  | [], _ => .nil
  | p :: L, h => .cons (.tup (h p (by simp)) (mkeys_dps _)) (refsK_dps fun q hq => h q (by simp [hq]))
def rSortedK (K : PySem.W.Frag) (P : Program) (w : World) : List V → Hp → VK → Prop := fun vs H Q => ∃ (a : Addr) (L : List (Addr × List Key)), vs = [V.ref a] ∧ H a = some (Mx.SetTO P w a L) ∧ (∀ p ∈ L, SqT K H p.1 (p.2.map Mx.keyV)) ∧ PySem.W.AllAlike (L.map fun p => Mx.rowK p.2) ∧ PySem.W.Sortable (L.map fun p => Mx.rowK p.2) ∧ (∀ p ∈ L, (Mx.rowK p.2).depth ≤ 100) ∧
  ∀ (L' : List (Addr × List Key)) (p : Addr), L'.Perm L → L'.length < 64 → L'.Pairwise (fun q r => leK q.2 r.2 = true) → H p = none → Q (.ref p) (upd H p (.lst (L'.map fun q => V.ref q.1)))
theorem cr_sortedK {X : Cx} (hc : X.calm = true) (hu : X.A.units + 110 < cLine) : CallR X (.builtin "sorted") (rSortedK X.K X.prog X.w) := by
  intro pins s σ H vs us Q I r h
  obtain ⟨a, L, rfl, ha, hk, hal, hso, hdp, q⟩ := h
  have R0 : Mx.SetT0 X.prog X.w s.heap a L := (I.hok a _ ha).1
  obtain ⟨es, ep, t, R⟩ := R0.full fun p hp => Mx.isT_of I (hk p hp)
  rw [Vals.ref1 r]
  refine Mx.sorted_setT R (I.ok.hd hc) (fun p hp => Dp.reads I _ _ (.ref p.1) (.tup (hk p hp) (mkeys_dps _)) rfl) hal hso (fun p hp => by have := hdp p hp; omega) fun s' p out c L' k g o hp hg hout pm pw => ?_
  have hfew : L'.length < 64 := by rw [pm.length_eq]; exact R.few
  have hlen : (L'.map fun q => V.ref q.1).length ≤ sizeLine := by rw [List.length_map, sizeLine_eq]; omega
  have hn : H p = none := I.hok.fresh hp
  have hv : Vals (L'.map fun q => V.ref q.1) out.toList := by rw [hout]; exact Mx.vals_of_refs L'
  have J : Inv X pins σ (upd H p (.lst (L'.map fun q => V.ref q.1))) { s with heap := s'.heap, gens := s'.gens, drawn := s'.drawn, toks := s'.toks } :=
    I.call (ch := []) (Un.laid k hp hn) (I.hok.laid k hp ⟨hlen, out.toList, c, hv, hg⟩) (by rw [g]; exact I.bare) (fun _ z => nomatch z)
  have e : s' = { s with heap := s'.heap, gens := s'.gens, drawn := s'.drawn, toks := s'.toks } := by
    cases s'
    cases s
    cases o
    rfl
  rw [e]
  refine ⟨.ref p, _, J, rfl, q L' p pm hfew (pw.imp fun h => ?_) hn⟩
  unfold leK leD
  rw [h]
  rfl
def mSK (f : EM) : EM := bindD f fun d => optS (gSetSortK d)
section
variable {X : Cx} {E : XK} {e : Expr} {fe : EM} {pos : Pos}
theorem pd_sortsetK {p1 p2 pos2 : Pos} (hc : X.calm = true) (hu : X.A.units + 110 < cLine) (hg : Gl X "sorted") (hm : X.mg "sorted" = none) (hg2 : Gl X "set") (hm2 : X.mg "set" = none) (he : PD X E e fe)
    (hs1 : starEach [e] X.env = (false, eval e X.env) :: starEach [] X.env := by rfl) (hpl : (backTo pos2 (starEach ([] : List Expr) X.env)).any (·.1) = false := by rfl)
    (hs2 : starEach [.Call (.Name "set" p2) [e] [] pos2] X.env = (false, eval (.Call (.Name "set" p2) [e] [] pos2) X.env) :: starEach [] X.env := by rfl) (hpl2 : (backTo pos (starEach ([] : List Expr) X.env)).any (·.1) = false := by rfl) :
    PD X E (.Call (.Name "sorted" p1) [.Call (.Name "set" p2) [e] [] pos2] [] pos) (mSK fe) := by
  have h1 := pe_callTy (p := p2) (Mx.cr_setOfK hc (by omega)) hg2 hm2 PyProof.Rows.boot_set (pa_cons he pa_nil hs1) (by decide) (by decide) hs1 hpl
  have h2 := pe_callB (p := p1) (cr_sortedK hc hu) hg hm (by rfl) (pa_cons h1 pa_nil hs2) (by decide) (by decide) hs2 hpl2
  refine PE.imp h2 fun σ H Q h => ?_
  obtain ⟨P, o, ρ, res, a, e, p⟩ := h
  refine tE_mono (fun x H1 h => ?_) (bindD_go a .refl e p)
  obtain ⟨ρ1, d, _, c1, a1, k, h⟩ := h
  obtain ⟨z, hz, rfl⟩ := optS_some h
  unfold gSetSortK at hz
  split at hz
  · rename_i ds hds
    split at hz
    · rename_i rs hrs
      split at hz
      · rename_i ok
        cases hz
        obtain ⟨l, vs, rfl, hl, kd⟩ := seq_dp k hds
        obtain ⟨ks, rfl, rfl, hk⟩ := rowsK_dps kd hrs
        rw [Bool.and_eq_true, decide_eq_true_eq] at ok
        obtain ⟨o1, o2⟩ := ok
        unfold sortable at o2
        simp only [Bool.and_eq_true] at o2
        obtain ⟨⟨⟨h1, h2⟩, h3⟩, h4⟩ := o2
        refine ⟨l, ks, rfl, hl.elim (fun z => .inl (ex_l ex_hd z)) (fun z => .inr (ex_t ex_hd z)), fun p hp => ex_t ex_hd (hk p hp), by simpa using o1, fun a L ha hnd hL1 hL2 => ?_⟩
        have hL : ∀ p ∈ L, SqT X.K (hd (hid P o) H1) p.1 (p.2.map Mx.keyV) := fun p hp => hk p (hL1 p hp)
        have hmem : ∀ r, r ∈ L.map (·.2) ↔ r ∈ ks.map (·.2) := fun r => by
          constructor
          · intro h
            obtain ⟨p, hp, rfl⟩ := List.mem_map.mp h
            exact List.mem_map.mpr ⟨p, hL1 p hp, rfl⟩
          · intro h
            obtain ⟨p, hp, rfl⟩ := List.mem_map.mp h
            exact hL2 p hp
        have ex1 : Ex H1 (upd H1 a (Mx.SetTO X.prog X.w a L)) := Ex.new ha
        have hsub : ∀ d ∈ L.map (fun p => Mx.rowK p.2), d ∈ (ks.map (·.2)).map Mx.rowK := fun d hd => by
          obtain ⟨p, hp, rfl⟩ := List.mem_map.mp hd
          exact List.mem_map.mpr ⟨p.2, List.mem_map.mpr ⟨p, hL1 p hp, rfl⟩, rfl⟩
        have al := allAlike_ok h1
        have so := sortable_ok h2
        rw [List.map_id] at al so
        refine ⟨a, L, rfl, by simp [upd], fun p hp => ex_t ex1 (ex_t ex_hd (hL p hp)), fun d hd d' hd' => al d (hsub d hd) d' (hsub d' hd'), so.imp (fun h d hd => h d (hsub d hd)) (fun h d hd => h d (hsub d hd)), fun p hp => ?_, fun L' q pm _ pw hq => ?_⟩
        · exact of_decide_eq_true (List.all_eq_true.mp h3 _ (hsub _ (List.mem_map.mpr ⟨p, hp, rfl⟩)))
        have hL' : L'.map (·.2) = setSortK (ks.map (·.2)) := setSortK_eq ((pm.map (·.2)).nodup_iff.mpr hnd) (List.pairwise_map.mpr pw) fun r => by rw [← hmem r]; exact (pm.map (·.2)).mem_iff
        have hdp := refsK_dps (L := L') fun p hp => hL p (pm.mem_iff.mp hp)
        rw [hL'] at hdp
        have c2 : Chg o H1 (upd (upd H1 a (Mx.SetTO X.prog X.w a L)) q (.lst (L'.map fun p => V.ref p.1))) := .of (ex1.trans (.new hq))
        have a2 := a1.ext (ex1.trans (Ex.new (o := .lst (L'.map fun p => V.ref p.1)) hq))
        refine p _ _ (c1.trans c2) ⟨a2, new_lst (fun b hb => ?_) hq (dps_mono (ex_hd_hd ex1) hdp)⟩
        obtain ⟨u, hu⟩ := a1.domH hb
        exact ⟨u, ex1 b u hu⟩
      · cases hz
    · cases hz
  · cases hz
theorem p_sk {p2 p3 pos2 : Pos} {k : Nat} (B : Bi X.mg) (hc : X.calm = true) (hr : Room k X.A) (he : PD X E e fe) (hg : Gl X "sorted" := by rfl) (hg2 : Gl X "set" := by rfl)
    (hs1 : starEach [e] X.env = (false, eval e X.env) :: starEach [] X.env := by rfl) (hpl : (backTo pos2 (starEach ([] : List Expr) X.env)).any (·.1) = false := by rfl)
    (hs2 : starEach [.Call (.Name "set" p2) [e] [] pos2] X.env = (false, eval (.Call (.Name "set" p2) [e] [] pos2) X.env) :: starEach [] X.env := by rfl) (hpl2 : (backTo pos (starEach ([] : List Expr) X.env)).any (·.1) = false := by rfl) :
    PD X E (.Call (.Name "sorted" p3) [.Call (.Name "set" p2) [e] [] pos2] [] pos) (mSK fe) := pd_sortsetK hc (units110 hr) hg B.sorted hg2 B.set he hs1 hpl hs2 hpl2
end
end DL

namespace DL
open PySem PySem.Spec L2
variable [TheW]
/-! ### (..) * n -/
def gRepT : D → D → Option D
  | .tuple xs, .int k => if xs ≠ [] ∧ 2 ≤ k ∧ k ≤ 1000 ∧ xs.length ≤ 1000 then some (.tuple (List.replicate k.toNat xs).flatten) else none
  | _, _ => none
theorem repT_ok {K : PySem.W.Frag} : OpD K (rRepT K) gRepT := by
  intro P H x y d e z hP hx hy hz Q q
  unfold gRepT at hz
  split at hz
  · split at hz
    · rename_i hl
      cases hz
      obtain ⟨a, vs, rfl, h1, h2⟩ := dp_tup hx
      cases dp_int hy
      have l1 := dps_len h2
      refine ⟨a, _, vs, rfl, rfl, ex_t ex_hd h1, fun e => ?_, hl.2.1, hl.2.2.1, by omega, fun p hp => q _ _ (.new hp) (new_tup hP hp (dps_rep h2 _))⟩
      subst e
      cases h2
      exact hl.1 rfl
    · cases hz
  · cases hz
section
variable {X : Cx} {E : XK} {a b : Expr} {fa fb : EM} {pos : Pos}
theorem p_rept (ha : PD X E a fa) (hb : PD X E b fb) : PD X E (.BinOp a .Mult b pos) (op2 gRepT fa fb) := pd_op op_repT repT_ok ha hb
end
end DL

namespace DL
open PySem PySem.Spec L2
variable [TheW]
/-! ### return NAME, the name one's own object -/
def isMov : S → Bool
  | .own _ => true
  | .odk _ => true
  | .odt _ => true
  | _ => false
def retO (np i : Nat) : SM := fun ρ => if np ≤ i then (match ρ[i]? with
  | some (some s) => if isMov s = true then some (.rt s (ρ.set i none)) else none
  | _ => none) else none
section
variable {K : PySem.W.Frag} {P : Addr → Prop} {o : Ow} {ρ : Env} {σ : St} {H : Hp} {i : Nat}
theorem hid_mov {a : Addr} (ho : o i = some a) (h : At K P o ρ σ H) : hid (plusA P a) (clr o i) = hid P o := by
  funext b
  refine propext ⟨fun z => ?_, fun z => ?_⟩
  · rcases z with (z | z) | z
    · exact .inl z
    · exact .inr ⟨i, by rw [ho, z]⟩
    · exact .inr (own_clr z)
  · rcases z with z | ⟨j, z⟩
    · exact .inl (.inl z)
    · by_cases hj : j = i
      · subst hj
        rw [ho] at z
        cases z
        exact .inl (.inr rfl)
      · exact .inr ⟨j, by unfold clr; rw [if_neg hj]; exact z⟩
theorem At.mov {s : S} (h : At K P o ρ σ H) (e : ρ[i]? = some (some s)) (hs : isMov s = true) : ∃ a, o i = some a ∧ σ[i]? = some (some (V.ref a)) ∧ ¬ Own (clr o i) a ∧ ¬ Lk H a ∧ At K (plusA P a) (clr o i) (ρ.set i none) σ H ∧ OwnOk K (hd (hid (plusA P a) (clr o i)) H) H a s := by
  have how : s.isOwn = true := by cases s <;> first | rfl | cases hs
  obtain ⟨a, ho⟩ := h.ow i _ e how
  obtain ⟨s', h1, h2, h3⟩ := h.has i a ho
  rw [e] at h1
  cases h1
  have eh := hid_mov ho h
  have cl : ∀ j b, clr o i j = some b → j ≠ i ∧ o j = some b := fun j b q => by
    unfold clr at q
    split at q
    · cases q
    · rename_i hne
      exact ⟨hne, q⟩
  have hna : ¬ Own (clr o i) a := fun ⟨j, z⟩ => by
    obtain ⟨hne, z⟩ := cl j a z
    exact hne (h.inj j i a z ho)
  have hl : ¬ Lk H a := fun ⟨od, u, z⟩ => by
    obtain ⟨w, hw⟩ := h3.there
    cases s with
    | dat d => cases hs
    | own xs => obtain ⟨vs, k, _⟩ := h3; rw [z] at k; cases k
    | odk xs => obtain ⟨vs, k, _⟩ := h3; rw [z] at k; cases k
    | odt xs => obtain ⟨vs, k, _⟩ := h3; rw [z] at k; cases k
    | odl xs => cases hs
  refine ⟨a, ho, h2, hna, hl, ⟨by simp [h.len], fun b q => ?_, fun j j' b q q' => h.inj j j' b (cl j b q).2 (cl j' b q').2, fun j b q z => ?_, fun j b q => ?_, fun j d q hd' => ?_, fun j t q hs' => ?_⟩, by rw [eh]; exact h3⟩
  · rcases q with q | q
    · exact h.dom b q
    · subst q; exact h3.there
  · obtain ⟨hne, q⟩ := cl j b q
    rcases z with z | z
    · exact h.dis j b q z
    · subst z; exact hne (h.inj j i _ q ho)
  · obtain ⟨hne, q⟩ := cl j b q
    obtain ⟨t, k1, k2, k3⟩ := h.has j b q
    exact ⟨t, by rw [List.getElem?_set_ne (Ne.symm hne)]; exact k1, k2, by rw [eh]; exact k3⟩
  · have hj : j ≠ i := fun z => by
      subst z
      rw [List.getElem?_set_self (List.getElem?_eq_some_iff.mp e).1] at q
      cases q
    rw [List.getElem?_set_ne (Ne.symm hj)] at q
    rw [eh]
    exact h.dat j d q hd'
  · have hj : j ≠ i := fun z => by
      subst z
      rw [List.getElem?_set_self (List.getElem?_eq_some_iff.mp e).1] at q
      cases q
    rw [List.getElem?_set_ne (Ne.symm hj)] at q
    obtain ⟨b, q⟩ := h.ow j t q hs'
    exact ⟨b, by unfold clr; rw [if_neg hj]; exact q⟩
end
section
variable {X : Cx} {E : XK} {np i : Nat} {x : Str} {pos p : Pos}
theorem pds_retO (hN : X.N[i]? = some x) (hv : Vis X.env.scope x) (hd : (x == ("__debug__" : Str)) = false := by decide) (hcd : (x == ("__classdict__" : Str)) = false := by decide) : PDS X E np (.Return (some (.Name x p)) pos) (retO np i) := PS.imp (ps_ret (pe_var hN hv hd hcd)) fun D σ H h => by
  obtain ⟨P, o, ρ, fl, a, e, p⟩ := h
  unfold retO at e
  split at e
  · rename_i hi
    split at e
    · rename_i s hs
      split at e
      · rename_i hm
        cases e
        obtain ⟨b, ho, hσ, h1, h2, h3, h4⟩ := a.mov hs hm
        refine ⟨.ref b, hσ, p (clr o i) σ (.ref b) H ⟨fun _ _ h _ => h, fun _ _ h => ⟨_, h⟩, fun _ z => .inl (own_clr z), fun j c hj q => ?_, fun _ _ _ h => h⟩ ?_⟩
        · unfold clr
          rw [if_neg fun z => ?_]
          · exact q
          · subst z
            rcases hj with hj | hj
            · omega
            · rw [ho] at q
              cases q
              exact h2 hj
        · cases s with
          | dat d => cases hm
          | own xs => exact ⟨b, rfl, .inl ⟨i, ho⟩, h1, h3, h4⟩
          | odk xs => exact ⟨b, rfl, .inl ⟨i, ho⟩, h1, h3, h4⟩
          | odt xs => exact ⟨b, rfl, .inl ⟨i, ho⟩, h1, h3, h4⟩
          | odl xs => cases hm
      · cases e
    · cases e
  · cases e
end
end DL

namespace DL
open PySem PySem.Spec L2
variable [TheW]
/-! ### a, b, c = x, y, z where some of the names are cells: by a tuple -/
theorem parS_go2 {K : PySem.W.Frag} {mg : Str → Option Value} {E : XK} {np : Nat} {is : List Nat} {fs : List EM} {σ : St} {H : Hp} {D : Ends} (h : tS K mg E np (parS np is fs) D σ H) : tAll K mg E fs σ H fun vs H1 => vs.length = is.length ∧ ∀ H2, Ex H1 H2 → D.nx (setV is vs σ) H2 := by
  obtain ⟨P, o, ρ, fl, a, e, p⟩ := h
  unfold parS at e
  cases hr : parE fs ρ with
  | none => rw [hr] at e; cases e
  | some r =>
    obtain ⟨res, ρ1⟩ := r
    rw [hr] at e
    refine par_go fs a hr ?_
    cases res with
    | inr y =>
      obtain ⟨c, pl⟩ := y
      cases e
      exact p.exp rfl
    | inl ss =>
      intro vs as H1 c1 a1 k1 hn
      simp only at e
      cases hs : setAll np is ss ρ1 with
      | none => rw [hs] at e; cases e
      | some ρ2 =>
        rw [hs] at e
        cases e
        obtain ⟨o', h1, h2, h3⟩ := set_go (H0 := H) is a1 k1 hn hs
        have hl : ∀ (is : List Nat) {ss : List S} {vs : List V} {as : List Addr} {G : Hp} {ρ ρ' : Env}, Hld K G H1 vs ss as → setAll np is ss ρ = some ρ' → vs.length = is.length := by
          intro is
          induction is with
          | nil => intro ss vs as G ρ ρ' k e; cases k <;> first | rfl | cases e
          | cons i is ih =>
            intro ss vs as G ρ ρ' k e
            cases k with
            | nil => cases e
            | dat _ k =>
              unfold setAll at e
              split at e
              · simp [ih k e]
              · cases e
            | own _ _ k =>
              unfold setAll at e
              split at e
              · simp [ih k e]
              · cases e
        exact ⟨hl is k1 hs, fun H2 ex => p o' _ H2 (ChgS.trans (o1 := o') (H1 := H1) ⟨c1.keep, c1.dom, h1, fun j b hj q => h2 j b (hj.imp id fun ⟨od, u, z⟩ => ⟨od, u, c1.frz b od u z⟩) q, c1.frz⟩ (.of (.of ex))) (h3.ext ex)⟩
section
variable {X : Cx} {E : XK} {np i j l : Nat} {x y z : Str} {a b c : Expr} {fa fb fc : EM} {px py pz pt pos : Pos} {kt k2 pt2}
theorem pds_parT2 (hc : X.calm = true) (hN : X.N.Nodup) (hi : X.N[i]? = some x) (hj : X.N[j]? = some y)
    (hx : Loc X.env.scope x) (hy : Loc X.env.scope y) (ha : PD X E a fa) (hb : PD X E b fb)
    (hfx : X.fn x = true ∨ X.env.scope.names.lookup x = some .local := by first | exact .inl rfl | exact .inr rfl | assumption) (hfy : X.fn y = true ∨ X.env.scope.names.lookup y = some .local := by first | exact .inl rfl | exact .inr rfl | assumption)
    (hs : swapsWithSole [.Tuple [.Name x px, .Name y py] kt pt] (.Tuple [a, b] k2 pt2) pos.line X.env = pure false := by rfl)
    (hw : swappedStores [.Tuple [.Name x px, .Name y py] kt pt] (.Tuple [a, b] k2 pt2) X.env = pure none := by rfl)
    (h1 : (assignEach [.Tuple [.Name x px, .Name y py] kt pt] X.env).map (·.2) = [assign (.Tuple [.Name x px, .Name y py] kt pt) X.env] := by rfl)
    (g1 : (assignEach (.Name x px :: [.Name y py]) X.env).map (·.2) = assign (.Name x px) X.env :: (assignEach [.Name y py] X.env).map (·.2) := by rfl)
    (g2 : (assignEach (.Name y py :: []) X.env).map (·.2) = assign (.Name y py) X.env :: (assignEach [] X.env).map (·.2) := by rfl)
    (g3 : (assignEach [.Name x px, .Name y py] X.env).length = 2 := by rfl) (g4 : (assignEach [.Name x px, .Name y py] X.env).findIdx? (·.1) = none := by rfl)
    (hs1 : starEach [a, b] X.env = (false, eval a X.env) :: starEach [b] X.env := by rfl) (hs2 : starEach [b] X.env = (false, eval b X.env) :: starEach [] X.env := by rfl) :
    PDS X E np (.Assign [.Tuple [.Name x px, .Name y py] kt pt] (.Tuple [a, b] k2 pt2) pos) (parS np [i, j] [fa, fb]) :=
  PS.imp (ps_asg (pe_tup (pa_cons ha (pa_cons hb pa_nil hs2) hs1)) (pg_tup hc (pgs_cons (pg_name hN hi hx hfx) (pgs_cons (pg_name hN hj hy hfy) pgs_nil g2) g1) g3 g4) hs hw h1) fun D σ H h => by
  have := parS_go2 h
  refine tE_mono (fun v H1 h => tE_mono (fun w H2 h => ?_) h) this
  exact ⟨by show 2 ≤ sizeLine; rw [sizeLine_eq]; omega, fun q hq => ⟨q, [v, w], rfl, .inl (.inl (by simp [upd])), rfl, v, [w], rfl, w, [], rfl, rfl, h.2 _ (.new hq)⟩⟩
theorem pds_parT3 (hc : X.calm = true) (hN : X.N.Nodup) (hi : X.N[i]? = some x) (hj : X.N[j]? = some y) (hl : X.N[l]? = some z)
    (hx : Loc X.env.scope x) (hy : Loc X.env.scope y) (hz : Loc X.env.scope z) (ha : PD X E a fa) (hb : PD X E b fb) (hcc : PD X E c fc)
    (hfx : X.fn x = true ∨ X.env.scope.names.lookup x = some .local := by first | exact .inl rfl | exact .inr rfl | assumption) (hfy : X.fn y = true ∨ X.env.scope.names.lookup y = some .local := by first | exact .inl rfl | exact .inr rfl | assumption)
    (hfz : X.fn z = true ∨ X.env.scope.names.lookup z = some .local := by first | exact .inl rfl | exact .inr rfl | assumption)
    (hs : swapsWithSole [.Tuple [.Name x px, .Name y py, .Name z pz] kt pt] (.Tuple [a, b, c] k2 pt2) pos.line X.env = pure false := by rfl)
    (hw : swappedStores [.Tuple [.Name x px, .Name y py, .Name z pz] kt pt] (.Tuple [a, b, c] k2 pt2) X.env = pure none := by rfl)
    (h1 : (assignEach [.Tuple [.Name x px, .Name y py, .Name z pz] kt pt] X.env).map (·.2) = [assign (.Tuple [.Name x px, .Name y py, .Name z pz] kt pt) X.env] := by rfl)
    (g0 : (assignEach (.Name x px :: [.Name y py, .Name z pz]) X.env).map (·.2) = assign (.Name x px) X.env :: (assignEach [.Name y py, .Name z pz] X.env).map (·.2) := by rfl)
    (g1 : (assignEach (.Name y py :: [.Name z pz]) X.env).map (·.2) = assign (.Name y py) X.env :: (assignEach [.Name z pz] X.env).map (·.2) := by rfl)
    (g2 : (assignEach (.Name z pz :: []) X.env).map (·.2) = assign (.Name z pz) X.env :: (assignEach [] X.env).map (·.2) := by rfl)
    (g3 : (assignEach [.Name x px, .Name y py, .Name z pz] X.env).length = 3 := by rfl) (g4 : (assignEach [.Name x px, .Name y py, .Name z pz] X.env).findIdx? (·.1) = none := by rfl)
    (hs1 : starEach [a, b, c] X.env = (false, eval a X.env) :: starEach [b, c] X.env := by rfl) (hs2 : starEach [b, c] X.env = (false, eval b X.env) :: starEach [c] X.env := by rfl) (hs3 : starEach [c] X.env = (false, eval c X.env) :: starEach [] X.env := by rfl) :
    PDS X E np (.Assign [.Tuple [.Name x px, .Name y py, .Name z pz] kt pt] (.Tuple [a, b, c] k2 pt2) pos) (parS np [i, j, l] [fa, fb, fc]) :=
  PS.imp (ps_asg (pe_tup (pa_cons ha (pa_cons hb (pa_cons hcc pa_nil hs3) hs2) hs1)) (pg_tup hc (pgs_cons (pg_name hN hi hx hfx) (pgs_cons (pg_name hN hj hy hfy) (pgs_cons (pg_name hN hl hz hfz) pgs_nil g2) g1) g0) g3 g4) hs hw h1) fun D σ H h => by
  have := parS_go2 h
  refine tE_mono (fun u H1 h => tE_mono (fun v H2 h => tE_mono (fun w H3 h => ?_) h) h) this
  exact ⟨by show 3 ≤ sizeLine; rw [sizeLine_eq]; omega, fun q hq => ⟨q, [u, v, w], rfl, .inl (.inl (by simp [upd])), rfl, u, [v, w], rfl, v, [w], rfl, w, [], rfl, rfl, h.2 _ (.new hq)⟩⟩
end
end DL

namespace DL
open PySem PySem.Spec L2
variable [TheW]
/-! ### < of alike data -/
def notNone : D → Bool
  | .none => false
  | _ => true
def gLtA (d e : D) : Option D := if (PySem.W.alike d e && notNone d && decide (d.depth ≤ 60)) = true then some (.bool (PySem.W.dataLt d e)) else none
def rLtA (K : PySem.W.Frag) : R2 := fun x y H Q => ∃ d e, Dp K H x d ∧ Dp K H y e ∧ PySem.W.alike d e = true ∧ notNone d = true ∧ d.depth ≤ 60 ∧ Q (.bl (PySem.W.dataLt d e)) H
theorem op_ltA {X : Cx} (hu : X.A.units + 64 < cLine) : OpR X (compareOp .Lt) (rLtA X.K) := by
  intro pins s σ H x y v u Q I rx ry h
  obtain ⟨d, e, hx, hy, ha, hn, hd, q⟩ := h
  obtain ⟨as, ra⟩ := Dp.reads I _ _ v hx rx
  obtain ⟨bs, rb⟩ := Dp.reads I _ _ u hy ry
  refine PySem.W.lt_data ra rb ha (fun e => by subst e; cases hn) (by omega) ⟨.bl _, H, I, rfl, q⟩
theorem ltA_ok {K : PySem.W.Frag} : OpD K (rLtA K) gLtA := by
  intro P H x y d e z hP hx hy hz Q q
  unfold gLtA at hz
  split at hz
  · rename_i h
    cases hz
    simp only [Bool.and_eq_true, decide_eq_true_eq] at h
    exact ⟨d, e, dp_mono ex_hd hx, dp_mono ex_hd hy, h.1.1, h.1.2, h.2, q _ H (.refl _) (.bl _)⟩
  · cases hz
section
variable {X : Cx} {E : XK} {a b : Expr} {fa fb : EM} {pos : Pos} {k : Nat}
theorem v_lta (hr : Room k X.A) (ha : PD X E a fa) (hb : PD X E b fb) (hm : behindInMarks .Lt b = false := by with_unfolding_all rfl) : PD X E (.Compare a [.Lt] [b] pos) (op2 gLtA fa fb) := pd_cmp (op_ltA hr.units) ltA_ok ha hb hm
theorem t_lta (hr : Room k X.A) (ha : PD X E a fa) (hb : PD X E b fb) (hm : behindInMarks .Lt b = false := by with_unfolding_all rfl) : PDT X E (.Compare a [.Lt] [b] pos) (op2 gLtA fa fb) := pdt_cmp (op_ltA hr.units) ltA_ok ha hb hm
end
end DL

namespace DL
open PySem PySem.Spec L2
variable [TheW]
/-! ### a, b = a list -/
def gTl (n : Nat) (ts : List D → Env → Option Env) : TgM := fun d ρ => match d with
  | .list ds => if ds.length = n then ts ds ρ else none
  | _ => none
theorem pdg_tupL {X : Cx} {np : Nat} {es : List Expr} {Ts : List D → Env → Option Env} {sl : List Nat} {pos : Pos} {k n : Nat} (hc : X.calm = true) (h : PDGs X np es Ts sl) (hn : (assignEach es X.env).length = n := by rfl) (hst : (assignEach es X.env).findIdx? (·.1) = none := by rfl) : PDG X np (.Tuple es k pos) (gTl n Ts) sl := PG.imp (pg_lst hc h hn hst) fun v σ H Q h => by
  obtain ⟨P, o, ρ, d, ρ', a, r, e, p⟩ := h
  unfold gTl at e
  split at e
  · rename_i ds
    obtain ⟨ad, xs, rfl, hq, hs⟩ := dp_lst r
    split at e
    · rename_i hl
      exact ⟨ad, xs, rfl, ex_l ex_hd hq, by rw [dps_len hs]; exact hl, P, o, ρ, ds, ρ', a, hs, e, p⟩
    · cases e
  · cases e
end DL

namespace DL
open PySem PySem.Spec L2
/-! ### reckoning with mirrors -/
def thenD (r : Option (R × Env)) (k : D → EM) : Option (R × Env) := match r with
  | some (.ok s, ρ1) => (match s.toD with
    | some d => k d ρ1
    | none => none)
  | some (.ex c p, ρ1) => some (.ex c p, ρ1)
  | none => none
def thenS (r : Option (R × Env)) (k : S → SM) : Option Fl := match r with
  | some (.ok s, ρ1) => k s ρ1
  | some (.ex c p, ρ1) => some (.ex c p ρ1)
  | none => none
def thenQ (r : Option Fl) (g : SM) : Option Fl := match r with
  | some (.nx ρ1) => g ρ1
  | r => r
def thenA {α : Type} (r : Option (Sum (List Arg) (Str × Option D) × Env)) (x : Str × Option D → Env → Option α) (k : List Arg → Env → Option α) : Option α := match r with
  | some (.inl as, ρ1) => k as ρ1
  | some (.inr y, ρ1) => x y ρ1
  | none => none
def runK (np : Nat) (ρ : Env) (r : Option Fl) : Option (R × Env) := match r with
  | some (.rt s ρ') => if np ≤ ρ'.length then some (.ok s, restP ρ ρ') else none
  | some (.nx ρ') => if np ≤ ρ'.length then some (.ok (.dat .none), restP ρ ρ') else none
  | _ => none
section
variable {c : Prop} [Decidable c] {x y : Option (R × Env)} {xs ys : List D} {d : D} {s : S} {ρ ρ1 ρ2 : Env} {k : D → EM} {kS : S → SM} {u v : Option Fl} {f g : SM} {fa fb : EM} {np n i : Nat}
@[simp] theorem bindD_eq {f : EM} : bindD f k ρ = thenD (f ρ) k := by
  unfold bindD bindE thenD
  cases h : f ρ with
  | none => rfl
  | some r =>
    obtain ⟨r, ρ1⟩ := r
    cases r with
    | ex _ _ => rfl
    | ok s =>
      simp only
      cases s.toD <;> rfl
@[simp] theorem bindS_eq {f : EM} : bindS f kS ρ = thenS (f ρ) kS := (rfl)
@[simp] theorem seqS_eq : seqS f g ρ = thenQ (f ρ) g := (rfl)
@[simp] theorem thenD_ok : thenD (some (.ok (.dat d), ρ)) k = k d ρ := (rfl)
@[simp] theorem thenD_own : thenD (some (.ok (.own xs), ρ)) k = k (.list xs) ρ := (rfl)
@[simp] theorem thenD_none : thenD none k = none := (rfl)
@[simp] theorem thenD_ite : thenD (if c then x else y) k = if c then thenD x k else thenD y k := by split <;> rfl
@[simp] theorem thenS_ok : thenS (some (.ok s, ρ)) kS = kS s ρ := (rfl)
@[simp] theorem thenS_none : thenS none kS = none := (rfl)
@[simp] theorem thenS_ite : thenS (if c then x else y) kS = if c then thenS x kS else thenS y kS := by split <;> rfl
@[simp] theorem thenQ_nx : thenQ (some (.nx ρ)) g = g ρ := (rfl)
@[simp] theorem thenQ_rt : thenQ (some (.rt s ρ)) g = some (.rt s ρ) := (rfl)
@[simp] theorem thenQ_bk : thenQ (some (.bk ρ)) g = some (.bk ρ) := (rfl)
@[simp] theorem thenQ_ct : thenQ (some (.ct ρ)) g = some (.ct ρ) := (rfl)
@[simp] theorem thenQ_none : thenQ none g = none := (rfl)
@[simp] theorem thenQ_ite : thenQ (if c then u else v) g = if c then thenQ u g else thenQ v g := by split <;> rfl
@[simp] theorem runQ_eq {loc : Nat} : runQ np loc f ρ = if ρ.length = np then runK np ρ (f (ρ ++ List.replicate loc none)) else none := (rfl)
@[simp] theorem runK_rt : runK np ρ (some (.rt s ρ1)) = if np ≤ ρ1.length then some (.ok s, restP ρ ρ1) else none := (rfl)
@[simp] theorem runK_nx : runK np ρ (some (.nx ρ1)) = if np ≤ ρ1.length then some (.ok (.dat .none), restP ρ ρ1) else none := (rfl)
@[simp] theorem runK_none : runK np ρ none = none := (rfl)
@[simp] theorem runK_ite : runK np ρ (if c then u else v) = if c then runK np ρ u else runK np ρ v := by split <;> rfl
@[simp] theorem boolK_b {b : Bool} : boolK fa fb (.bool b) ρ = if b = true then fa ρ else fb ρ := by cases b <;> rfl
@[simp] theorem boolS_b {b : Bool} : boolS f g (.dat (.bool b)) ρ = if b = true then f ρ else g ρ := by cases b <;> rfl
@[simp] theorem op2_eq {h : D → D → Option D} : op2 h fa fb ρ = thenD (fa ρ) fun x ρ => thenD (fb ρ) fun y => optD (h x y) := by
  unfold op2
  rw [bindD_eq]
  congr 1
  funext x ρ
  rw [bindD_eq]
@[simp] theorem op1_eq {h : D → Option D} : op1 h fa ρ = thenD (fa ρ) fun x => optD (h x) := bindD_eq
@[simp] theorem mAnd_eq : mAnd fa fb ρ = thenD (fa ρ) (boolK fb (retD (.bool false))) := bindD_eq
@[simp] theorem mOr_eq : mOr fa fb ρ = thenD (fa ρ) (boolK (retD (.bool true)) fb) := bindD_eq
@[simp] theorem mNot_eq : mNot fa ρ = thenD (fa ρ) (boolK (retD (.bool false)) (retD (.bool true))) := bindD_eq
@[simp] theorem mIfE_eq {ft : EM} : mIfE ft fa fb ρ = thenD (ft ρ) (boolK fa fb) := bindD_eq
@[simp] theorem mChain_eq {h h' : D → D → Option D} {fc : EM} : mChain h h' fa fb fc ρ = thenD (fa ρ) fun x ρ => thenD (fb ρ) fun y ρ => thenD (optD (h x y) ρ) (boolK (fun ρ => thenD (fc ρ) fun z => optD (h' y z)) (retD (.bool false))) := by
  unfold mChain
  rw [bindD_eq]
  congr 1
  funext x ρ
  rw [bindD_eq]
  congr 1
  funext y ρ
  rw [bindD_eq]
  congr 2
  funext ρ
  rw [bindD_eq]
@[simp] theorem retD_eq : retD d ρ = some (.ok (.dat d), ρ) := (rfl)
@[simp] theorem mC_eq : mC d ρ = some (.ok (.dat d), ρ) := (rfl)
@[simp] theorem optD_s : optD (some d) ρ = some (.ok (.dat d), ρ) := (rfl)
@[simp] theorem optD_n : optD none ρ = none := (rfl)
@[simp] theorem optD_ite {a b : Option D} : optD (if c then a else b) ρ = if c then optD a ρ else optD b ρ := by split <;> rfl
@[simp] theorem optS_s : optS (some s) ρ = some (.ok s, ρ) := (rfl)
@[simp] theorem optS_n : optS none ρ = none := (rfl)
@[simp] theorem optS_ite {a b : Option S} : optS (if c then a else b) ρ = if c then optS a ρ else optS b ρ := by split <;> rfl
theorem mV0 {o : Option S} : mV 0 (some (.dat d) :: ρ) = some (.ok (.dat d), some (.dat d) :: ρ) := (rfl)
theorem mV_s {e : Option S} (h : ρ[i]? = some (some (.dat d))) : mV i ρ = some (.ok (.dat d), ρ) := by unfold mV; rw [h]
@[simp] theorem ifS_eq {ft : EM} : ifS ft f g ρ = thenS (ft ρ) (boolS f g) := (rfl)
@[simp] theorem retS_eq' {e : EM} : retS' e ρ = thenS (e ρ) fun s ρ => some (.rt s ρ) := (rfl)
@[simp] theorem retNS_eq : retNS ρ = some (.rt (.dat .none) ρ) := (rfl)
@[simp] theorem nextS_eq : nextS ρ = some (.nx ρ) := (rfl)
@[simp] theorem brkS_eq : brkS ρ = some (.bk ρ) := (rfl)
@[simp] theorem cntS_eq : cntS ρ = some (.ct ρ) := (rfl)
@[simp] theorem failS_eq : failS ρ = none := (rfl)
@[simp] theorem dropS_eq {e : EM} : dropS e ρ = thenS (e ρ) fun _ ρ => some (.nx ρ) := (rfl)
@[simp] theorem asgN_eq {e : EM} : asgN np i e ρ = thenS (e ρ) fun s ρ => if okset np i ρ = true then some (.nx (ρ.set i (some s))) else none := (rfl)
@[simp] theorem asgT_eq {T : TgM} {e : EM} : asgT T e ρ = thenS (e ρ) fun s ρ => match s.toD with
  | some d => (match T d ρ with
    | some ρ' => some (.nx ρ')
    | none => none)
  | none => none := (rfl)
/- arguments -/
@[simp] theorem mA0_eq : mA0 ρ = some (.inl [], ρ) := (rfl)
theorem mAc_ok {fs : AM} (h : fa ρ = some (.ok (.dat d), ρ1)) : mAc fa fs ρ = consA (.dat d) (fs ρ1) := by unfold mAc; rw [h]; rfl
def argK (fs : AM) (r : Option (R × Env)) : Option (Sum (List Arg) (Str × Option D) × Env) := match r with
  | some (.ok s, ρ1) => (match s.toD with
    | some d => consA (.dat d) (fs ρ1)
    | none => none)
  | some (.ex c p, ρ1) => some (.inr (c, p), ρ1)
  | none => none
@[simp] theorem mAc_eq {fs : AM} : mAc fa fs ρ = argK fs (fa ρ) := (rfl)
@[simp] theorem argK_ok {fs : AM} : argK fs (some (.ok (.dat d), ρ)) = consA (.dat d) (fs ρ) := (rfl)
@[simp] theorem argK_own {fs : AM} : argK fs (some (.ok (.own xs), ρ)) = consA (.dat (.list xs)) (fs ρ) := (rfl)
@[simp] theorem argK_none {fs : AM} : argK fs none = none := (rfl)
@[simp] theorem argK_ite {fs : AM} : argK fs (if c then x else y) = if c then argK fs x else argK fs y := by split <;> rfl
@[simp] theorem consA_in {a : Arg} {as : List Arg} : consA a (some (.inl as, ρ)) = some (.inl (a :: as), ρ) := (rfl)
@[simp] theorem consA_none {a : Arg} : consA a none = none := (rfl)
@[simp] theorem consA_ite {a : Arg} {p q : Option (Sum (List Arg) (Str × Option D) × Env)} : consA a (if c then p else q) = if c then consA a p else consA a q := by split <;> rfl
@[simp] theorem thenA_in {α : Type} {as : List Arg} {xx : Str × Option D → Env → Option α} {kk : List Arg → Env → Option α} : thenA (some (.inl as, ρ)) xx kk = kk as ρ := (rfl)
@[simp] theorem thenA_none {α : Type} {xx : Str × Option D → Env → Option α} {kk : List Arg → Env → Option α} : thenA none xx kk = none := (rfl)
@[simp] theorem thenA_ite {α : Type} {p q : Option (Sum (List Arg) (Str × Option D) × Env)} {xx : Str × Option D → Env → Option α} {kk : List Arg → Env → Option α} : thenA (if c then p else q) xx kk = if c then thenA p xx kk else thenA q xx kk := by split <;> rfl
def optB {α β : Type} (o : Option α) (k : α → Option β) : Option β := match o with
  | some a => k a
  | none => none
@[simp] theorem optB_s {α β : Type} {a : α} {k : α → Option β} : optB (some a) k = k a := (rfl)
@[simp] theorem optB_n {α β : Type} {k : α → Option β} : optB none k = none := (rfl)
@[simp] theorem mCB_eq {h : List D → Option S} {fs : AM} : mCB h fs ρ = thenA (fs ρ) (fun y ρ => some (.ex y.1 y.2, ρ)) fun as ρ => optB (datsOf as) fun ds => optS (h ds) ρ := by
  unfold mCB thenA optB
  rcases fs ρ with _ | ⟨as | ⟨_, _⟩, _⟩
  · rfl
  · simp only
    cases datsOf as <;> rfl
  · rfl
@[simp] theorem datsOf_nil : datsOf [] = some [] := (rfl)
@[simp] theorem datsOf_cons {as : List Arg} : datsOf (.dat d :: as) = (datsOf as).map (d :: ·) := (rfl)
def callK (F : EM) (as : List Arg) (ρ : Env) : Option (R × Env) := if nodupN (refsOf as) = true then optB (F (argEnv as ρ)) fun r => if r.2.length = as.length then some (r.1, putBack as r.2 ρ) else none else none
@[simp] theorem callM_eq {F : EM} {fs : AM} : callM F fs ρ = thenA (fs ρ) (fun y ρ => some (.ex y.1 y.2, ρ)) (callK F) := by
  unfold callM thenA callK optB
  rcases fs ρ with _ | ⟨_ | ⟨_, _⟩, ρ1⟩
  · rfl
  · simp only
    split
    · cases F _ with
      | none => rfl
      | some r => rfl
    · rfl
  · rfl
/-- a call with data alone -/
def allDat : List D → List Arg := List.map .dat
theorem putBack_dat : ∀ (ds : List D) (ρc ρ : Env), putBack (ds.map Arg.dat) ρc ρ = ρ
  | [], _, _ => by simp [putBack]
  | _ :: ds, [], _ => by simp [putBack]
  | _ :: ds, _ :: ρc, ρ => by simp [putBack, putBack_dat ds]
theorem refs_dat : ∀ ds : List D, refsOf (ds.map Arg.dat) = []
  | [] => rfl
  | _ :: ds => by simpa [refsOf] using refs_dat ds
end
/-- what a def answers for data -/
def Ans (F : EM) (ds : List D) (d : D) : Prop := ∃ ρ', ρ'.length = ds.length ∧ F (ds.map fun d => some (.dat d)) = some (.ok (.dat d), ρ')
theorem callK_dat {F : EM} {ds : List D} {d : D} {ρ : Env} (h : Ans F ds d) : callK F (ds.map Arg.dat) ρ = some (.ok (.dat d), ρ) := by
  obtain ⟨ρ', hl, h⟩ := h
  unfold callK
  rw [refs_dat]
  have e : argEnv (ds.map Arg.dat) ρ = ds.map fun d => some (.dat d) := by simp [argEnv, argS]
  rw [e, h]
  simp [nodupN, optB, hl, putBack_dat]
@[simp] theorem callK1 {F : EM} {a d : D} {ρ : Env} (h : Ans F [a] d) : callK F [.dat a] ρ = some (.ok (.dat d), ρ) := callK_dat h
@[simp] theorem callK2 {F : EM} {a b d : D} {ρ : Env} (h : Ans F [a, b] d) : callK F [.dat a, .dat b] ρ = some (.ok (.dat d), ρ) := callK_dat h
@[simp] theorem callK3 {F : EM} {a b c d : D} {ρ : Env} (h : Ans F [a, b, c] d) : callK F [.dat a, .dat b, .dat c] ρ = some (.ok (.dat d), ρ) := callK_dat h
@[simp] theorem callK0 {F : EM} {d : D} {ρ : Env} (h : Ans F [] d) : callK F [] ρ = some (.ok (.dat d), ρ) := callK_dat (ds := []) h
/-! ### comprehensions -/
def thenI {α : Type} (r : Option (Sum (List D) (Str × Option D) × Env)) (x : Str × Option D → Env → Option α) (k : List D → Env → Option α) : Option α := match r with
  | some (.inl ds, ρ1) => k ds ρ1
  | some (.inr y, ρ1) => x y ρ1
  | none => none
theorem iSeq_ok {f : EM} {ρ ρ1 : Env} {d : D} {ds : List D} (h : f ρ = some (.ok (.dat d), ρ1)) (hs : seqOf d = some ds) : iSeq f ρ = some (.inl ds, ρ1) := by
  unfold iSeq
  rw [h]
  simp [S.toD, hs]
theorem iCB_ok {g : List D → Option (List D)} {fs : AM} {ρ ρ1 : Env} {as : List Arg} {ds rs : List D} (h : fs ρ = some (.inl as, ρ1)) (h1 : datsOf as = some ds) (h2 : g ds = some rs) : iCB g fs ρ = some (.inl rs, ρ1) := by
  unfold iCB
  rw [h]
  simp [h1, h2]
/-- one turn of a clause at the wiped env w -/
structure TurnC (T : TgM) (ft fe : EM) (vs : List Nat) (w : Env) (d : D) (p : Bool) (x : D) : Prop where
  go : ∃ ρ1, T d w = some ρ1 ∧ ∃ ρ2, ft ρ1 = some (.ok (.dat (.bool p)), ρ2) ∧
    (if p = true then ∃ s ρ3, fe ρ2 = some (.ok s, ρ3) ∧ s.toD = some x ∧ noOwn ρ3 vs = true ∧ wipeE ρ3 vs = w else noOwn ρ2 vs = true ∧ wipeE ρ2 vs = w)
theorem loopC_eq {T : TgM} {ft fe : EM} {vs : List Nat} {w : Env} (hw : noOwn w vs = true) {p : D → Bool} {g : D → D} : ∀ (ds acc : List D), (∀ d ∈ ds, TurnC T ft fe vs w d (p d) (g d)) → acc.length + ds.length ≤ big →
    loopC T ft fe vs acc ds w = some (acc ++ (ds.filter p).map g, w)
  | [], acc, _, _ => by simp [loopC, hw]
  | d :: ds, acc, h, hl => by
    obtain ⟨ρ1, h1, ρ2, h2, h3⟩ := (h d (by simp)).go
    unfold loopC
    simp only [h1, h2]
    cases hp : p d with
    | false =>
      rw [hp] at h3
      simp only [Bool.false_eq_true, if_false] at h3
      simp only [h3.1, if_true, h3.2, List.filter_cons, hp, Bool.false_eq_true, if_false]
      exact loopC_eq hw ds acc (fun d hd => h d (by simp [hd])) (by simp at hl; omega)
    | true =>
      rw [hp] at h3
      simp only [if_true] at h3
      obtain ⟨s, ρ3, h4, h5, h6, h7⟩ := h3
      have hlt : acc.length < big := by simp at hl; omega
      simp only [h4, h5, hlt, h6, and_self, if_true, h7, List.filter_cons, hp, List.map_cons]
      rw [loopC_eq hw ds (acc ++ [g d]) (fun d hd => h d (by simp [hd])) (by simp at hl ⊢; omega)]
      simp
theorem restE_self {ρ : Env} : ∀ {vs : List Nat}, restE ρ (wipeE ρ vs) vs = ρ := by
  intro vs
  apply List.ext_getElem?
  intro i
  by_cases hi : i ∈ vs
  · exact restE_in (wipeE_len ρ vs).symm hi
  · rw [restE_out hi, wipeE_out hi]
theorem noOwn_wipe {ρ : Env} {vs : List Nat} (h : noOwn ρ vs = true) : noOwn (wipeE ρ vs) vs = true := by
  unfold noOwn at h ⊢
  rw [List.all_eq_true] at h ⊢
  intro i hi
  have := h i hi
  split
  · rename_i s hs
    obtain ⟨h1, h2⟩ := wipeE_some hs
    exact (h2 hi).elim
  · rfl
theorem compE_eq {ow : Bool} {fi : IM} {T : TgM} {ft fe : EM} {vs : List Nat} {ρ ρ1 : Env} {ds : List D} (p : D → Bool) (g : D → D) (hi : fi ρ = some (.inl ds, ρ1)) (hn : noOwn ρ1 vs = true) (ht : ∀ d ∈ ds, TurnC T ft fe vs (wipeE ρ1 vs) d (p d) (g d)) (hl : ds.length ≤ big) :
    compE ow fi T ft fe vs ρ = some (.ok (if ow = true then .own ((ds.filter p).map g) else .dat (.list ((ds.filter p).map g))), ρ1) := by
  unfold compE
  simp only [hi, hn, if_true]
  rw [loopC_eq (noOwn_wipe hn) ds [] ht (by simpa using hl)]
  simp only [List.nil_append, restE_self]
/-- one turn of the outer clause -/
structure TurnC2 (T : TgM) (ft : EM) (fi1 : IM) (T1 : TgM) (ft1 fe : EM) (vs vs1 : List Nat) (w : Env) (d : D) (xs : List D) : Prop where
  go : ∃ ρ1, T d w = some ρ1 ∧ ∃ ρ2, ft ρ1 = some (.ok (.dat (.bool true)), ρ2) ∧ ∃ ds1 ρ3, fi1 ρ2 = some (.inl ds1, ρ3) ∧ noOwn ρ3 vs1 = true ∧ noOwn (wipeE ρ3 vs1) vs = true ∧ wipeE (wipeE ρ3 vs1) vs = w ∧ ∃ (p : D → Bool) (g : D → D), xs = (ds1.filter p).map g ∧ (∀ e ∈ ds1, TurnC T1 ft1 fe vs1 (wipeE ρ3 vs1) e (p e) (g e)) ∧ ds1.length ≤ 1000
theorem loopC2_eq {T : TgM} {ft : EM} {fi1 : IM} {T1 : TgM} {ft1 fe : EM} {vs vs1 : List Nat} {w : Env} (hw : noOwn w vs = true) {g : D → List D} : ∀ (ds acc : List D), (∀ d ∈ ds, TurnC2 T ft fi1 T1 ft1 fe vs vs1 w d (g d)) → acc.length + 1000 * ds.length ≤ big →
    loopC2 T ft fi1 T1 ft1 fe vs vs1 acc ds w = some (acc ++ ds.flatMap g, w)
  | [], acc, _, _ => by simp [loopC2, hw]
  | d :: ds, acc, h, hl => by
    obtain ⟨ρ1, h1, ρ2, h2, ds1, ρ3, h3, h4, h5, h6, p, f, hx, ht, hlen⟩ := (h d (by simp)).go
    unfold loopC2
    have hl2 := List.length_filter_le p ds1
    simp only [h1, h2, h3, h4, if_true]
    rw [loopC_eq (noOwn_wipe h4) ds1 acc ht (by simp at hl; omega)]
    simp only [h5, if_true, h6, ← hx]
    rw [loopC2_eq hw ds _ (fun d hd => h d (by simp [hd])) (by simp [hx] at hl ⊢; omega)]
    simp
theorem compE2_eq {ow : Bool} {fi : IM} {T : TgM} {ft : EM} {fi1 : IM} {T1 : TgM} {ft1 fe : EM} {vs vs1 : List Nat} {ρ ρ1 : Env} {ds : List D} (g : D → List D) (hi : fi ρ = some (.inl ds, ρ1)) (hn : noOwn ρ1 vs = true) (ht : ∀ d ∈ ds, TurnC2 T ft fi1 T1 ft1 fe vs vs1 (wipeE ρ1 vs) d (g d)) (hl : ds.length ≤ 1000) :
    compE2 ow fi T ft fi1 T1 ft1 fe vs vs1 ρ = some (.ok (if ow = true then .own (ds.flatMap g) else .dat (.list (ds.flatMap g))), ρ1) := by
  unfold compE2
  simp only [hi, hn, if_true]
  rw [loopC2_eq (noOwn_wipe hn) ds [] ht (by unfold big; simp; omega)]
  simp only [List.nil_append, restE_self]
/-! ### loops -/
/-- an invariant of the items done -/
theorem loopS_inv {T : TgM} {fb : SM} (I : List D → Env → Prop) : ∀ (ds pre : List D) {ρ : Env}, I pre ρ → (∀ pre d post ρ, pre ++ d :: post = pre ++ d :: post → I pre ρ → d ∈ ds → ∃ ρ1, T d ρ = some ρ1 ∧ ∃ ρ2, (fb ρ1 = some (.nx ρ2) ∨ fb ρ1 = some (.ct ρ2)) ∧ I (pre ++ [d]) ρ2) →
    ∃ ρ', loopS T fb ds ρ = some (.nx ρ') ∧ I (pre ++ ds) ρ'
  | [], pre, ρ, h, _ => ⟨ρ, rfl, by simpa using h⟩
  | d :: ds, pre, ρ, h, hs => by
    obtain ⟨ρ1, h1, ρ2, h2, h3⟩ := hs pre d [] ρ rfl h (by simp)
    obtain ⟨ρ', h4, h5⟩ := loopS_inv I ds (pre ++ [d]) h3 fun pre d post ρ e hI hd => hs pre d post ρ e hI (by simp [hd])
    refine ⟨ρ', ?_, by simpa using h5⟩
    unfold loopS
    rcases h2 with h2 | h2 <;> simp only [h1, h2, h4]
theorem forS_inv {fi : IM} {T : TgM} {fb : SM} {ρ ρ1 : Env} {ds : List D} (I : List D → Env → Prop) (hi : fi ρ = some (.inl ds, ρ1)) (h0 : I [] ρ1) (hs : ∀ pre d ρ, I pre ρ → d ∈ ds → ∃ ρ1, T d ρ = some ρ1 ∧ ∃ ρ2, (fb ρ1 = some (.nx ρ2) ∨ fb ρ1 = some (.ct ρ2)) ∧ I (pre ++ [d]) ρ2) :
    ∃ ρ', forS fi T fb ρ = some (.nx ρ') ∧ I ds ρ' := by
  obtain ⟨ρ', h1, h2⟩ := loopS_inv I ds [] h0 fun pre d _ ρ _ => hs pre d ρ
  refine ⟨ρ', ?_, by simpa using h2⟩
  unfold forS
  simp only [hi, h1]
@[simp] theorem gLt_ii {i j : Int} : gLt (.int i) (.int j) = some (.bool (decide (i < j))) := (rfl)
section
variable {ρ : Env} {i j np : Nat} {d e : D} {xs ys : List D} {a b : Int} {s : S} {o : Option S} {as bs : Env}
@[simp] theorem x_mV : mV i ρ = (match ρ[i]? with
  | some (some (.dat d)) => some (.ok (.dat d), ρ)
  | _ => none) := (rfl)
def okAt (b : Bool) (o : Option (Option S)) : Bool := match o with
  | some (some s) => !isLck s && (b || !s.isOwn)
  | _ => true
@[simp] theorem x_okset : okset np i ρ = (decide (i < ρ.length) && okAt (decide (np ≤ i)) ρ[i]?) := (rfl)
@[simp] theorem okAt_0 {b : Bool} : okAt b none = true := (rfl)
@[simp] theorem okAt_1 {b : Bool} : okAt b (some none) = true := (rfl)
@[simp] theorem okAt_2 {b : Bool} : okAt b (some (some (.dat d))) = true := by cases b <;> rfl
@[simp] theorem okAt_3 {b : Bool} : okAt b (some (some (.own xs))) = b := by cases b <;> rfl
@[simp] theorem okAt_4 {b : Bool} {xs : List (Key × D)} : okAt b (some (some (.odk xs))) = b := by cases b <;> rfl
@[simp] theorem okAt_5 {b : Bool} {xs : List (NestedKey × D)} : okAt b (some (some (.odt xs))) = b := by cases b <;> rfl
/-- a slot of data alone -/
def oD (o : Option D) : Option S := o.map S.dat
instance : Coe (Option D) (Option S) := ⟨oD⟩
@[simp] theorem oD_n : oD none = none := (rfl)
@[simp] theorem oD_s : oD (some d) = some (.dat d) := (rfl)
@[simp] theorem okAt_6 {b : Bool} {x : Option D} : okAt b (some (oD x)) = true := by cases x <;> cases b <;> rfl
@[simp] theorem x_isOwn1 : S.isOwn (.dat d) = false := (rfl)
@[simp] theorem x_isOwn2 : S.isOwn (.own xs) = true := (rfl)
@[simp] theorem x_toD1 : S.toD (.dat d) = some d := (rfl)
@[simp] theorem x_toD2 : S.toD (.own xs) = some (.list xs) := (rfl)
@[simp] theorem x_rest0 : restP [] bs = [] := by cases bs <;> rfl
@[simp] theorem x_rest1 : restP (some s :: as) (o :: bs) = (if s.isOwn = true then o else some s) :: restP as bs := (rfl)
@[simp] theorem x_gIsi {T : String} : gIsi T d = some (.bool (isiT T d)) := (rfl)
@[simp] theorem x_gB {f : Int → Int → Bool} : gB f (.int a) (.int b) = some (.bool (f a b)) := (rfl)
@[simp] theorem x_add1 : gAdd (.int a) (.int b) = some (.int (a + b)) := (rfl)
@[simp] theorem x_add2 : gAdd (.tuple xs) (.tuple ys) = if xs.length + ys.length ≤ big then some (.tuple (xs ++ ys)) else none := (rfl)
@[simp] theorem x_add3 : gAdd (.list xs) (.list ys) = if xs.length + ys.length ≤ big then some (.list (xs ++ ys)) else none := (rfl)
@[simp] theorem x_gI0 {f : Int → Int → Int} : gI0 f (.int a) (.int b) = some (.int (f a b)) := (rfl)
@[simp] theorem x_gEq : gEq d e = if eqOk d e = true then some (.bool (PyData.eqv d e)) else none := (rfl)
@[simp] theorem x_gNe : gNe d e = if eqOk d e = true then some (.bool (!PyData.eqv d e)) else none := (rfl)
@[simp] theorem x_gIx1 : gIx (.list xs) (.int a) = atI xs a := (rfl)
@[simp] theorem x_gIx2 : gIx (.tuple xs) (.int a) = atI xs a := (rfl)
@[simp] theorem x_gTup : gTup' xs = if xs.length ≤ big then some (.dat (.tuple xs)) else none := (rfl)
@[simp] theorem x_gLst : gLst xs = if xs.length ≤ big then some (.dat (.list xs)) else none := (rfl)
@[simp] theorem x_gLstO : gLstO xs = if xs.length ≤ big then some (.own xs) else none := (rfl)
@[simp] theorem x_len1 : gLen [.list xs] = some (.dat (.int xs.length)) := (rfl)
@[simp] theorem x_len2 : gLen [.tuple xs] = some (.dat (.int xs.length)) := (rfl)
@[simp] theorem x_gNeg : gNeg (.int a) = some (.int (-a)) := (rfl)
end
end DL

namespace DL
open PySem PySem.Spec L2
section
variable {c : Prop} [Decidable c] {ρ ρ1 : Env} {d : D} {i : Int} {f : EM} {n : Nat}
abbrev OM := Env → Option (Sum (Option Int) (Str × Option D) × Env)
def thenO (r : Option (Sum (Option Int) (Str × Option D) × Env)) (k : Option Int → EM) : Option (R × Env) := match r with
  | some (.inl i, ρ1) => k i ρ1
  | some (.inr (c, p), ρ1) => some (.ex c p, ρ1)
  | none => none
@[simp] theorem thenO_in {o : Option Int} {k : Option Int → EM} : thenO (some (.inl o, ρ)) k = k o ρ := (rfl)
@[simp] theorem mSl_eq {g : D → Option Int → Option Int → Option D} {fl fh : OM} : mSl g f fl fh ρ = thenD (f ρ) fun d ρ => thenO (fl ρ) fun lo ρ => thenO (fh ρ) fun hi => optD (g d lo hi) := by
  unfold mSl
  rw [bindD_eq]
  congr 1
def partK (r : Option (R × Env)) : Option (Sum (Option Int) (Str × Option D) × Env) := match r with
  | some (.ok (.dat (.int i)), ρ1) => some (.inl (some i), ρ1)
  | some (.ex c p, ρ1) => some (.inr (c, p), ρ1)
  | _ => none
@[simp] theorem mPart_eq : mPart f ρ = partK (f ρ) := (rfl)
@[simp] theorem partK_ok : partK (some (.ok (.dat (.int i)), ρ)) = some (.inl (some i), ρ) := (rfl)
@[simp] theorem mNoPart_eq : mNoPart ρ = some (.inl none, ρ) := (rfl)
theorem cut_from {xs : List D} : cutD xs (some (n : Int)) none = xs.drop n := by
  unfold cutD
  rw [HT.sIx_nat, HT.sIx_none]
  rcases Nat.le_total n xs.length with h | h
  · rw [Nat.min_eq_left h, List.take_of_length_le (by simp)]
  · rw [Nat.min_eq_right h]; simp [List.drop_eq_nil_of_le h]
theorem cut_to {xs : List D} : cutD xs none (some (n : Int)) = xs.take n := by
  unfold cutD
  rw [HT.sIx_nat, HT.sIx_none]
  simp
theorem cut_01 {xs : List D} : cutD xs (some 1) none = xs.drop 1 := cut_from (n := 1)
end
@[simp] theorem le_big1 : 1 ≤ big := by unfold big; omega
@[simp] theorem le_big2 : 2 ≤ big := by unfold big; omega
@[simp] theorem le_big3 : 3 ≤ big := by unfold big; omega
@[simp] theorem le_big4 : 4 ≤ big := by unfold big; omega
@[simp] theorem le_big5 : 5 ≤ big := by unfold big; omega
@[simp] theorem le_big6 : 6 ≤ big := by unfold big; omega
@[simp] theorem le_big7 : 7 ≤ big := by unfold big; omega
@[simp] theorem le_big8 : 8 ≤ big := by unfold big; omega
@[simp] theorem le_big9 : 9 ≤ big := by unfold big; omega
@[simp] theorem x_sl1 {xs : List D} {lo hi : Option Int} : gSl (.list xs) lo hi = some (.list (cutD xs lo hi)) := (rfl)
@[simp] theorem x_sl2 {xs : List D} {lo hi : Option Int} : gSl (.tuple xs) lo hi = some (.tuple (cutD xs lo hi)) := (rfl)
theorem bools_map {α : Type} (p : α → Bool) : ∀ xs : List α, boolsOf (xs.map fun x => .bool (p x)) = some (xs.map p)
  | [] => rfl
  | x :: xs => by simp [boolsOf, bools_map p xs]
theorem gAll_map {α : Type} (p : α → Bool) (xs : List α) : gAll [.list (xs.map fun x => .bool (p x))] = some (.dat (.bool (xs.all p))) := by
  show (boolsOf (xs.map fun x => .bool (p x))).map _ = _
  rw [bools_map]
  simp [List.all_map]
/-- comprehensions of one clause without a test -/
structure TurnM (T : TgM) (fe : EM) (vs : List Nat) (w : Env) (d x : D) : Prop where
  go : ∃ ρ1, T d w = some ρ1 ∧ ∃ s ρ3, fe ρ1 = some (.ok s, ρ3) ∧ s.toD = some x ∧ noOwn ρ3 vs = true ∧ wipeE ρ3 vs = w
theorem compE_map {ow : Bool} {fi : IM} {T : TgM} {fe : EM} {vs : List Nat} {ρ ρ1 : Env} {ds : List D} (g : D → D) (hi : fi ρ = some (.inl ds, ρ1)) (hn : noOwn ρ1 vs = true) (ht : ∀ d ∈ ds, TurnM T fe vs (wipeE ρ1 vs) d (g d)) (hl : ds.length ≤ big) :
    compE ow fi T mYes fe vs ρ = some (.ok (if ow = true then .own (ds.map g) else .dat (.list (ds.map g))), ρ1) := by
  have := compE_eq (ow := ow) (T := T) (ft := mYes) (fe := fe) (fun _ => true) g hi hn (fun d hd => ?_) hl
  · have e : ds.filter (fun _ => true) = ds := List.filter_eq_self.mpr fun _ _ => rfl
    rw [e] at this
    exact this
  · obtain ⟨ρ1, h1, s, ρ3, h2, h3, h4, h5⟩ := (ht d hd).go
    exact ⟨⟨ρ1, h1, ρ1, rfl, by rw [if_pos rfl]; exact ⟨s, ρ3, h2, h3, h4, h5⟩⟩⟩
theorem compE_true {ow : Bool} {fi : IM} {T : TgM} {fe : EM} {vs : List Nat} {ρ ρ1 : Env} {ds : List D} {x : D} {n : Nat} (hi : fi ρ = some (.inl ds, ρ1)) (hn : noOwn ρ1 vs = true) (ht : ∀ d ∈ ds, TurnM T fe vs (wipeE ρ1 vs) d x) (hl : ds.length ≤ big) (e : ds.length = n) :
    compE ow fi T mYes fe vs ρ = some (.ok (if ow = true then .own (List.replicate n x) else .dat (.list (List.replicate n x))), ρ1) := by
  subst e
  rw [compE_map (fun _ => x) hi hn ht hl]
  have : ds.map (fun _ => x) = List.replicate ds.length x := List.map_const'
  rw [this]
theorem gAll_rep : ∀ n : Nat, gAll [.list (List.replicate n (.bool true))] = some (.dat (.bool true)) := fun n => by
  have e : List.replicate n (PyData.bool true) = (List.replicate n ()).map fun _ => PyData.bool ((fun _ => true) ()) := by simp
  rw [e]
  have := gAll_map (fun _ : Unit => true) (List.replicate n ())
  rw [this]
  simp
end DL

namespace DL
open PySem PySem.Spec L2
/-! ### data: depth, kinds -/
theorem depthAll_le {n : Nat} : ∀ {xs : List D}, (∀ x ∈ xs, x.depth ≤ n) → PyData.depthAll xs ≤ n
  | [], _ => by simp [PyData.depthAll]
  | x :: xs, h => by
    have h1 := h x (by simp)
    have h2 := depthAll_le (n := n) (xs := xs) fun y hy => h y (by simp [hy])
    simp only [PyData.depthAll]
    omega
theorem depth_tup {n : Nat} {xs : List D} (h : ∀ x ∈ xs, x.depth ≤ n) : (PyData.tuple xs).depth ≤ n + 1 := by
  have := depthAll_le h
  simp only [PyData.depth]
  omega
theorem depth_lst {n : Nat} {xs : List D} (h : ∀ x ∈ xs, x.depth ≤ n) : (PyData.list xs).depth ≤ n + 1 := by
  have := depthAll_le h
  simp only [PyData.depth]
  omega
theorem canLayAll_of : ∀ {xs : List D}, (∀ x ∈ xs, x.canLay0 = true) → PyData.canLayAll0 xs = true
  | [], _ => by simp [PyData.canLayAll0]
  | x :: xs, h => by
    simp only [PyData.canLayAll0, Bool.and_eq_true]
    exact ⟨h x (by simp), canLayAll_of fun y hy => h y (by simp [hy])⟩
theorem alikeAll_of : ∀ {xs ys : List D}, (∀ x ∈ xs, ∀ y ∈ ys, PySem.W.alike x y = true) → PySem.W.alikeAll xs ys = true
  | [], _, _ => by simp [PySem.W.alikeAll]
  | _ :: _, [], _ => by simp [PySem.W.alikeAll]
  | x :: xs, y :: ys, h => by
    simp only [PySem.W.alikeAll, Bool.and_eq_true]
    exact ⟨h x (by simp) y (by simp), alikeAll_of fun a ha b hb => h a (by simp [ha]) b (by simp [hb])⟩
mutual
theorem alike_refl : ∀ {d : D}, d.canLay0 = true → PySem.W.alike d d = true
  | .none, _ => by simp [PySem.W.alike]
  | .bool _, _ => by simp [PySem.W.alike]
  | .int _, _ => by simp [PySem.W.alike]
  | .str _, _ => by simp [PySem.W.alike]
  | .list xs, h => by
    simp only [PyData.canLay0] at h
    simp only [PySem.W.alike]
    exact alikeAll_refl h
  | .tuple xs, h => by
    simp only [PyData.canLay0] at h
    simp only [PySem.W.alike]
    exact alikeAll_refl h
  | .dict _, h => by simp [PyData.canLay0] at h
theorem alikeAll_refl : ∀ {xs : List D}, PyData.canLayAll0 xs = true → PySem.W.alikeAll xs xs = true
  | [], _ => by simp [PySem.W.alikeAll]
  | x :: xs, h => by
    simp only [PyData.canLayAll0, Bool.and_eq_true] at h
    simp only [PySem.W.alikeAll, Bool.and_eq_true]
    exact ⟨alike_refl h.1, alikeAll_refl h.2⟩
end
theorem sortable_of {ds : List D} (ha : ∀ x ∈ ds, ∀ y ∈ ds, PySem.W.alike x y = true) (hh : (∀ x ∈ ds, headed x = true) ∨ ∀ x ∈ ds, bare x = true) (hd : ∀ x ∈ ds, x.depth ≤ 100) (hl : ds.length ≤ big) : sortable ds = true := by
  unfold sortable allAlike
  simp only [Bool.and_eq_true, Bool.or_eq_true, List.all_eq_true, decide_eq_true_eq]
  exact ⟨⟨⟨ha, hh⟩, hd⟩, hl⟩
theorem sortD_perm (ds : List D) : (sortD ds).Perm ds := by rw [sortD_eq]; exact List.mergeSort_perm _ _
theorem gSorted_l {ds : List D} (h : sortable ds = true) : gSorted [.list ds] = some (.dat (.list (sortD ds))) := by
  show (if sortable ds = true then _ else _) = _
  rw [if_pos h]
theorem gSorted_t {ds : List D} (h : sortable ds = true) : gSorted [.tuple ds] = some (.dat (.list (sortD ds))) := by
  show (if sortable ds = true then _ else _) = _
  rw [if_pos h]
theorem gTuple_l {ds : List D} : gTuple [.list ds] = some (.dat (.tuple ds)) := rfl
theorem gTuple_t {ds : List D} : gTuple [.tuple ds] = some (.dat (.tuple ds)) := rfl
/-! ### rows of ints -/
theorem rowD_lay (r : List Int) : (rowD r).canLay0 = true := by
  unfold rowD
  simp only [PyData.canLay0]
  exact canLayAll_of fun x hx => by obtain ⟨n, _, rfl⟩ := List.mem_map.mp hx; simp [PyData.canLay0]
theorem rowD_depth (r : List Int) : (rowD r).depth ≤ 2 := depth_tup (n := 1) fun x hx => by
  obtain ⟨n, _, rfl⟩ := List.mem_map.mp hx
  simp [PyData.depth]
theorem rowD_alike (r q : List Int) : PySem.W.alike (rowD r) (rowD q) = true := by
  unfold rowD
  simp only [PySem.W.alike]
  exact alikeAll_of fun x hx y hy => by
    obtain ⟨n, _, rfl⟩ := List.mem_map.mp hx
    obtain ⟨m, _, rfl⟩ := List.mem_map.mp hy
    simp [PySem.W.alike]
theorem rowD_headed {r : List Int} (h : r ≠ []) : headed (rowD r) = true := by
  cases r with
  | nil => exact (h rfl).elim
  | cons a r => rfl
theorem rows_sortable {rs : List (List Int)} (h : ∀ r ∈ rs, r ≠ []) (hl : rs.length ≤ big) : sortable (rs.map rowD) = true := by
  refine sortable_of (fun x hx y hy => ?_) (.inl fun x hx => ?_) (fun x hx => ?_) (by simpa using hl)
  · obtain ⟨r, _, rfl⟩ := List.mem_map.mp hx
    obtain ⟨q, _, rfl⟩ := List.mem_map.mp hy
    exact rowD_alike r q
  · obtain ⟨r, hr, rfl⟩ := List.mem_map.mp hx
    exact rowD_headed (h r hr)
  · obtain ⟨r, _, rfl⟩ := List.mem_map.mp hx
    exact Nat.le_trans (rowD_depth r) (by omega)
theorem rows_inOk {r : List Int} {rs : List (List Int)} : inOk (rowD r) (rs.map rowD) = true := by
  have h1 : SeqAt.shaped (rowD r) = true := by
    unfold SeqAt.shaped
    have := rowD_depth r
    simp [rowD_lay]; omega
  have h2 : SeqAt.shaped (.list (rs.map rowD)) = true := by
    unfold SeqAt.shaped
    have h3 : PyData.canLay0 (.list (rs.map rowD)) = true := by
      simp only [PyData.canLay0]
      exact canLayAll_of fun x hx => by obtain ⟨q, _, rfl⟩ := List.mem_map.mp hx; exact rowD_lay q
    have h4 := depth_lst (n := 2) (xs := rs.map rowD) fun x hx => by obtain ⟨q, _, rfl⟩ := List.mem_map.mp hx; exact rowD_depth q
    simp [h3]; omega
  unfold inOk
  rw [h1, h2]
  simp
theorem gIn_rows {neg : Bool} {r : List Int} {rs : List (List Int)} : gIn neg (rowD r) (.tuple (rs.map rowD)) = some (.bool (if neg = true then !memD (rowD r) (rs.map rowD) else memD (rowD r) (rs.map rowD))) := by
  unfold gIn
  simp [seqOf, rows_inOk]
theorem Ans_run {np loc : Nat} {fb : SM} {ds : List D} {d : D} {ρ' : Env} (hl : ds.length = np) (h : fb (ds.map (fun d => some (.dat d)) ++ List.replicate loc none) = some (.rt (.dat d) ρ')) (h2 : np ≤ ρ'.length) : Ans (runQ np loc fb) ds d := by
  refine ⟨restP (ds.map fun d => some (.dat d)) ρ', by rw [restP_len, List.length_map], ?_⟩
  rw [runQ_eq, if_pos (by rw [List.length_map]; exact hl), h, runK_rt, if_pos h2]
theorem Ans_run0 {np loc : Nat} {fb : SM} {ds : List D} {ρ' : Env} (hl : ds.length = np) (h : fb (ds.map (fun d => some (.dat d)) ++ List.replicate loc none) = some (.nx ρ')) (h2 : np ≤ ρ'.length) : Ans (runQ np loc fb) ds .none := by
  refine ⟨restP (ds.map fun d => some (.dat d)) ρ', by rw [restP_len, List.length_map], ?_⟩
  rw [runQ_eq, if_pos (by rw [List.length_map]; exact hl), h, runK_nx, if_pos h2]
/-! ### steps -/
theorem seq_nx {f g : SM} {ρ ρ1 : Env} {r : Option Fl} (h : f ρ = some (.nx ρ1)) (h2 : g ρ1 = r) : seqS f g ρ = r := by
  unfold seqS
  rw [h]
  exact h2
theorem seq_rt {f g : SM} {ρ ρ1 : Env} {s : S} (h : f ρ = some (.rt s ρ1)) : seqS f g ρ = some (.rt s ρ1) := by
  unfold seqS
  rw [h]
/-! ### own lists -/
section
variable {ρ ρ1 : Env} {i np : Nat} {xs ys zs : List D} {f g : EM} {d : D} {k : Int} {s : S}
theorem iaddO_ok (h : ρ[i]? = some (some (.own xs))) (hf : f ρ = some (.ok (.own zs), ρ1)) (h1 : ρ1[i]? = some (some (.own ys))) (hl : ys.length + zs.length ≤ big) : iaddO i f ρ = some (.nx (ρ1.set i (some (.own (ys ++ zs))))) := by
  unfold iaddO
  rw [h]
  simp only [bindS, hf, h1]
  rw [if_pos hl]
theorem appO_ok (h : ρ[i]? = some (some (.own xs))) (hf : f ρ = some (.ok s, ρ1)) (hs : s.toD = some d) (h1 : ρ1[i]? = some (some (.own ys))) (hl : ys.length < big) : appO i f ρ = some (.nx (ρ1.set i (some (.own (ys ++ [d]))))) := by
  unfold appO
  rw [h]
  simp only [bindS, hf, h1, hs]
  rw [if_pos hl]
theorem setO_ok (hf : f ρ = some (.ok (.dat d), ρ)) (hg : g ρ = some (.ok (.dat (.int k)), ρ)) (h1 : ρ[i]? = some (some (.own ys))) {j : Nat} (hj : ixN ys.length k = some j) : setO i f g ρ = some (.nx (ρ.set i (some (.own (ys.set j d))))) := by
  unfold setO
  simp only [bindS, hf, S.toD, h1, hg, hj]
theorem mOix_ok (h1 : ρ[i]? = some (some (.own ys))) (hf : f ρ = some (.ok (.dat (.int k)), ρ)) (hx : atI ys k = some d) : mOix i f ρ = some (.ok (.dat d), ρ) := by
  unfold mOix
  rw [h1]
  simp only [bindD, bindE, hf, S.toD, h1, hx, optD]
theorem mOlen_ok (h1 : ρ[i]? = some (some (.own ys))) : mOlen i ρ = some (.ok (.dat (.int ys.length)), ρ) := by
  unfold mOlen
  rw [h1]
theorem frzS_ok {fb : SM} (hn : np ≤ i) (h : ρ[i]? = some (some (.own xs))) : frzS np i fb ρ = fb (ρ.set i (some (.dat (.list xs)))) := by
  unfold frzS frzE
  rw [if_pos hn, h]
theorem gTup_ok {ds : List D} (h : ds.length ≤ 1000) : gTup' ds = some (.dat (.tuple ds)) := by
  unfold gTup'
  rw [if_pos (Nat.le_trans h (by decide))]
theorem gAdd_t {xs ys : List D} (h : xs.length + ys.length ≤ big) : gAdd (.tuple xs) (.tuple ys) = some (.tuple (xs ++ ys)) := by
  show (if xs.length + ys.length ≤ big then _ else _) = _
  rw [if_pos h]
theorem gAdd_l {xs ys : List D} (h : xs.length + ys.length ≤ big) : gAdd (.list xs) (.list ys) = some (.list (xs ++ ys)) := by
  show (if xs.length + ys.length ≤ big then _ else _) = _
  rw [if_pos h]
end
/-! ### loops that append to a list -/
theorem enumD_mem {xs : List D} {d : D} (h : d ∈ enumD xs) : ∃ (i : Nat) (x : D), d = .tuple [.int i, x] ∧ xs[i]? = some x := by
  unfold enumD zipD at h
  obtain ⟨p, hp, rfl⟩ := List.mem_map.mp h
  obtain ⟨i, hi⟩ := List.mem_iff_getElem?.mp hp
  rw [List.getElem?_zip_eq_some] at hi
  obtain ⟨h1, h2⟩ := hi
  refine ⟨i, p.2, ?_, h2⟩
  have hl : i < xs.length := (List.getElem?_eq_some_iff.mp h2).1
  rw [rngD_get hl] at h1
  have := Option.some.inj h1
  rw [← this]
  simp
theorem loopS_inv2 {T : TgM} {fb : SM} (I : List D → Env → Prop) : ∀ (ds pre : List D) {ρ : Env}, I pre ρ → (∀ p d q ρ, pre ++ ds = p ++ d :: q → I p ρ → ∃ ρ1, T d ρ = some ρ1 ∧ ∃ ρ2, (fb ρ1 = some (.nx ρ2) ∨ fb ρ1 = some (.ct ρ2)) ∧ I (p ++ [d]) ρ2) →
    ∃ ρ', loopS T fb ds ρ = some (.nx ρ') ∧ I (pre ++ ds) ρ'
  | [], pre, ρ, h, _ => ⟨ρ, rfl, by simpa using h⟩
  | d :: ds, pre, ρ, h, hs => by
    obtain ⟨ρ1, h1, ρ2, h2, h3⟩ := hs pre d ds ρ rfl h
    obtain ⟨ρ', h4, h5⟩ := loopS_inv2 I ds (pre ++ [d]) h3 fun p e q ρ e' hI => hs p e q ρ (by rw [← e']; simp) hI
    refine ⟨ρ', ?_, by simpa using h5⟩
    unfold loopS
    rcases h2 with h2 | h2 <;> simp only [h1, h2, h4]
theorem forS_inv2 {fi : IM} {T : TgM} {fb : SM} {ρ ρ1 : Env} {ds : List D} (I : List D → Env → Prop) (hi : fi ρ = some (.inl ds, ρ1)) (h0 : I [] ρ1) (hs : ∀ p d q ρ, ds = p ++ d :: q → I p ρ → ∃ ρ1, T d ρ = some ρ1 ∧ ∃ ρ2, (fb ρ1 = some (.nx ρ2) ∨ fb ρ1 = some (.ct ρ2)) ∧ I (p ++ [d]) ρ2) :
    ∃ ρ', forS fi T fb ρ = some (.nx ρ') ∧ I ds ρ' := by
  obtain ⟨ρ', h1, h2⟩ := loopS_inv2 I ds [] h0 fun p d q ρ e => hs p d q ρ (by simpa using e)
  refine ⟨ρ', ?_, by simpa using h2⟩
  unfold forS
  simp only [hi, h1]
theorem flatMap_le {α β : Type} {f : α → List β} {c : Nat} : ∀ {xs : List α}, (∀ x ∈ xs, (f x).length ≤ c) → (xs.flatMap f).length ≤ c * xs.length
  | [], _ => by simp
  | x :: xs, h => by
    have h1 := h x (by simp)
    have h2 := flatMap_le (f := f) (c := c) (xs := xs) fun y hy => h y (by simp [hy])
    simp only [List.flatMap_cons, List.length_append, List.length_cons, Nat.mul_add]
    omega
theorem gRng2_nat {a b : Nat} (h : b < 1000) (h' : a < 1000) : gRng2 [.int a, .int b] = some (rngD a (b - a)) := by
  have h1 : -(2 ^ 62) ≤ (a : Int) := by omega
  have h2 : (a : Int) < 2 ^ 62 := by omega
  have h3 : -(2 ^ 62) ≤ (b : Int) := by omega
  have h4 : (b : Int) < 2 ^ 62 := by omega
  have e : ((b : Int) - a).toNat = b - a := by omega
  simp only [gRng2, h1, h2, h3, h4, and_self, if_true, e]
theorem rngD_mem {a n : Nat} {d : D} (h : d ∈ rngD a n) : ∃ i : Nat, a ≤ i ∧ i < a + n ∧ d = .int i := by
  unfold rngD at h
  obtain ⟨i, hi, rfl⟩ := List.mem_map.mp h
  exact ⟨a + i, by omega, by have := List.mem_range.mp hi; omega, by simp⟩
end DL

namespace DL
open PySem PySem.Spec L2
/-! ### the mirrors, eager: so that the kernel can reckon them -/
section
universe u
variable {β : Sort u}
def fcN (n : Nat) (k : Nat → β) : β := match n with
  | 0 => k 0
  | 1 => k 1
  | 2 => k 2
  | 3 => k 3
  | 4 => k 4
  | 5 => k 5
  | 6 => k 6
  | 7 => k 7
  | n => k n
theorem fcN_eq (n : Nat) (k : Nat → β) : fcN n k = k n := by unfold fcN; split <;> rfl
def fcI (i : Int) (k : Int → β) : β := match i with
  | .ofNat n => fcN n fun n => k (.ofNat n)
  | .negSucc n => fcN n fun n => k (.negSucc n)
theorem fcI_eq (i : Int) (k : Int → β) : fcI i k = k i := by
  cases i with
  | ofNat n => exact fcN_eq n fun n => k (.ofNat n)
  | negSucc n => exact fcN_eq n fun n => k (.negSucc n)
def fcB (b : Bool) (k : Bool → β) : β := match b with
  | true => k true
  | false => k false
theorem fcB_eq (b : Bool) (k : Bool → β) : fcB b k = k b := by cases b <;> rfl
mutual
def fcD : D → (D → β) → β
  | .none, k => k .none
  | .bool b, k => fcB b fun b => k (.bool b)
  | .int i, k => fcI i fun i => k (.int i)
  | .str s, k => k (.str s)
  | .list xs, k => fcDs xs fun xs => k (.list xs)
  | .tuple xs, k => fcDs xs fun xs => k (.tuple xs)
  | .dict xs, k => k (.dict xs)
def fcDs : List D → (List D → β) → β
  | [], k => k []
  | x :: xs, k => fcD x fun x => fcDs xs fun xs => k (x :: xs)
end
mutual
theorem fcD_eq : ∀ (d : D) (k : D → β), fcD d k = k d
  | .none, k => by unfold fcD; rfl
  | .bool b, k => by unfold fcD; exact fcB_eq b _
  | .int i, k => by unfold fcD; exact fcI_eq i _
  | .str s, k => by unfold fcD; rfl
  | .list xs, k => by unfold fcD; exact fcDs_eq xs _
  | .tuple xs, k => by unfold fcD; exact fcDs_eq xs _
  | .dict xs, k => by unfold fcD; rfl
theorem fcDs_eq : ∀ (xs : List D) (k : List D → β), fcDs xs k = k xs
  | [], k => by unfold fcDs; rfl
  | x :: xs, k => by
    unfold fcDs
    rw [fcD_eq x]
    exact fcDs_eq xs _
end
mutual
def fcK : NestedKey → (NestedKey → β) → β
  | .none, k => k .none
  | .num i, k => fcI i fun i => k (.num i)
  | .text s, k => k (.text s)
  | .tup xs, k => fcKs xs fun xs => k (.tup xs)
def fcKs : List NestedKey → (List NestedKey → β) → β
  | [], k => k []
  | x :: xs, k => fcK x fun x => fcKs xs fun xs => k (x :: xs)
end
mutual
theorem fcK_eq : ∀ (d : NestedKey) (k : NestedKey → β), fcK d k = k d
  | .none, k => by unfold fcK; rfl
  | .num i, k => by unfold fcK; exact fcI_eq i _
  | .text s, k => by unfold fcK; rfl
  | .tup xs, k => by unfold fcK; exact fcKs_eq xs _
theorem fcKs_eq : ∀ (xs : List NestedKey) (k : List NestedKey → β), fcKs xs k = k xs
  | [], k => by unfold fcKs; rfl
  | x :: xs, k => by
    unfold fcKs
    rw [fcK_eq x]
    exact fcKs_eq xs _
end
def fcT : List (NestedKey × D) → (List (NestedKey × D) → β) → β
  | [], k => k []
  | x :: xs, k => fcK x.1 fun a => fcD x.2 fun b => fcT xs fun xs => k ((a, b) :: xs)
theorem fcT_eq : ∀ (xs : List (NestedKey × D)) (k : List (NestedKey × D) → β), fcT xs k = k xs
  | [], k => rfl
  | x :: xs, k => by
    unfold fcT
    rw [fcK_eq, fcD_eq, fcT_eq xs]
def fcO : List (Key × D) → (List (Key × D) → β) → β
  | [], k => k []
  | x :: xs, k => fcD x.2 fun b => fcO xs fun xs => k ((x.1, b) :: xs)
theorem fcO_eq : ∀ (xs : List (Key × D)) (k : List (Key × D) → β), fcO xs k = k xs
  | [], k => rfl
  | x :: xs, k => by
    unfold fcO
    rw [fcD_eq, fcO_eq xs]
def fcS (s : S) (k : S → β) : β := match s with
  | .dat d => fcD d fun d => k (.dat d)
  | .own xs => fcDs xs fun xs => k (.own xs)
  | .odk xs => fcO xs fun xs => k (.odk xs)
  | .odt xs => fcT xs fun xs => k (.odt xs)
  | .odl xs => fcT xs fun xs => k (.odl xs)
theorem fcS_eq (s : S) (k : S → β) : fcS s k = k s := by
  cases s with
  | dat d => exact fcD_eq _ _
  | own d => exact fcDs_eq _ _
  | odk d => exact fcO_eq _ _
  | odt d => exact fcT_eq _ _
  | odl d => exact fcT_eq _ _
def fcE : Env → (Env → β) → β
  | [], k => k []
  | none :: ρ, k => fcE ρ fun ρ => k (none :: ρ)
  | some s :: ρ, k => fcS s fun s => fcE ρ fun ρ => k (some s :: ρ)
theorem fcE_eq : ∀ (ρ : Env) (k : Env → β), fcE ρ k = k ρ
  | [], k => rfl
  | none :: ρ, k => by unfold fcE; exact fcE_eq ρ _
  | some s :: ρ, k => by
    unfold fcE
    rw [fcS_eq]
    exact fcE_eq ρ _
end
def fcR (r : Option (R × Env)) : Option (R × Env) := match r with
  | some (.ok s, ρ) => fcS s fun s => fcE ρ fun ρ => some (.ok s, ρ)
  | r => r
theorem fcR_eq (r : Option (R × Env)) : fcR r = r := by
  unfold fcR
  split
  · rw [fcS_eq, fcE_eq]
  · rfl
def runF (np loc : Nat) (fb : SM) : EM := fun ρ => fcE ρ fun ρ => fcR (runQ np loc fb ρ)
theorem runF_eq : runF = runQ := by
  funext np loc fb ρ
  unfold runF
  rw [fcE_eq, fcR_eq]
def whileF (fc : EM) (fb : SM) : Nat → SM
  | 0 => fun _ => none
  | n + 1 => fun ρ => fcE ρ (bindS fc (boolS (fun ρ => match fb ρ with
    | some (.nx ρ1) => whileF fc fb n ρ1
    | some (.ct ρ1) => whileF fc fb n ρ1
    | some (.bk ρ1) => some (.nx ρ1)
    | r => r) nextS))
theorem whileF_eq : whileF = whileS := by
  funext fc fb n
  induction n with
  | zero => rfl
  | succ n ih =>
    funext ρ
    unfold whileF whileS
    rw [fcE_eq, ih] <;> rfl
def loopF (T : TgM) (fb : SM) : List D → SM
  | [], ρ => some (.nx ρ)
  | d :: ds, ρ => match T d ρ with
    | none => none
    | some ρ1 => match fb ρ1 with
      | some (.nx ρ2) => loopF T fb ds ρ2
      | some (.ct ρ2) => loopF T fb ds ρ2
      | some (.bk ρ2) => some (.nx ρ2)
      | r => r
theorem loopF_eq (T : TgM) (fb : SM) : ∀ (ds : List D) (ρ : Env), loopF T fb ds ρ = loopS T fb ds ρ
  | [], ρ => rfl
  | d :: ds, ρ => by
    unfold loopF loopS
    simp only [loopF_eq T fb ds] <;> rfl
def forF (fi : IM) (T : TgM) (fb : SM) : SM := fun ρ => match fi ρ with
  | some (.inl ds, ρ1) => fcDs ds fun ds => loopF T fb ds ρ1
  | some (.inr (c, p), ρ1) => some (.ex c p ρ1)
  | none => none
theorem forF_eq : forF = forS := by
  funext fi T fb ρ
  unfold forF forS
  cases fi ρ with
  | none => rfl
  | some r =>
    obtain ⟨r, ρ1⟩ := r
    cases r with
    | inl ds => simp only [fcDs_eq, loopF_eq]
    | inr y => rfl
end DL

namespace M
open PySem PySem.Spec L2 DL
def c_HANDS : D := .tuple [.str "both", .str "within", .str "without"]
def c_WINDS : D := .tuple [.str "both", .str "opens", .str "shuts", .str "still"]
def c_WISHES : D := .tuple [.str "both", .str "dry", .str "flyless", .str "none"]
def c_PLACES : D := .tuple [.str "within", .str "without"]
def c_HARMS : D := .tuple [.str "bitten", .str "halted", .str "jammed", .str "out", .str "wet"]
def b_is_within : SM := retS' (mAnd (op1 (gIsi "int") (mV 0)) (mAnd (mNot (op1 (gIsi "bool") (mV 0))) (mChain gLe gLe (mV 1) (mV 0) (mV 2))))
def m_is_within : EM := runQ 3 0 b_is_within
def b_is_word : SM := retS' (mAnd (op1 (gIsi "str") (mV 0)) (op2 (gIn false) (mV 0) (mV 1)))
def m_is_word : EM := runQ 2 0 b_is_word
def b_is_layer : SM := seqS (ifS (mOr (mNot (op1 (gIsi "tuple") (mV 0))) (mOr (op2 gNe (mCB gLen (mAc (mV 0) mA0)) (mC (.int 5))) (mNot (callM m_is_within (mAc (op2 gIx (mV 0) (mC (.int 0))) (mAc (mC (.int 1)) (mAc (mC (.int 2)) (mA0)))))))) (retS' (mC (.bool false))) (nextS)) (seqS (ifS (mOr (mNot (callM m_is_within (mAc (op2 gIx (mV 0) (mC (.int 1))) (mAc (op1 gNeg (mC (.int 1))) (mAc (op2 gIx (mV 0) (mC (.int 0))) (mA0)))))) (mNot (callM m_is_within (mAc (op2 gIx (mV 0) (mC (.int 2))) (mAc (op1 gNeg (mC (.int 1))) (mAc (op2 gIx (mV 0) (mC (.int 0))) (mA0))))))) (retS' (mC (.bool false))) (nextS)) (retS' (mAnd (callM m_is_word (mAc (op2 gIx (mV 0) (mC (.int 3))) (mAc (mC c_HANDS) (mA0)))) (callM m_is_word (mAc (op2 gIx (mV 0) (mC (.int 4))) (mAc (mC c_WINDS) (mA0)))))))
def m_is_layer : EM := runQ 1 0 b_is_layer
def b_is_bar : SM := seqS (ifS (mOr (mNot (op1 (gIsi "tuple") (mV 1))) (mOr (op2 gNe (mCB gLen (mAc (mV 1) mA0)) (mC (.int 4))) (mNot (callM m_is_within (mAc (op2 gIx (mV 1) (mC (.int 0))) (mAc (mC (.int 0)) (mAc (op2 gSub (mCB gLen (mAc (mV 0) mA0)) (mC (.int 1))) (mA0)))))))) (retS' (mC (.bool false))) (nextS)) (seqS (ifS (mOr (mNot (callM m_is_within (mAc (op2 gIx (mV 1) (mC (.int 1))) (mAc (mC (.int 0)) (mAc (op2 gSub (mCB gLen (mAc (mV 0) mA0)) (mC (.int 1))) (mA0)))))) (op2 gEq (op2 gIx (mV 1) (mC (.int 1))) (op2 gIx (mV 1) (mC (.int 0))))) (retS' (mC (.bool false))) (nextS)) (seqS (asgN 2 2 (op2 gIx (op2 gIx (mV 0) (op2 gIx (mV 1) (mC (.int 1)))) (mC (.int 0)))) (seqS (ifS (mOr (mNot (callM m_is_within (mAc (op2 gIx (mV 1) (mC (.int 2))) (mAc (mC (.int 0)) (mAc (mV 2) (mA0)))))) (mNot (callM m_is_within (mAc (op2 gIx (mV 1) (mC (.int 3))) (mAc (op2 gIx (mV 1) (mC (.int 2))) (mAc (mV 2) (mA0))))))) (retS' (mC (.bool false))) (nextS)) (retS' (mOr (op2 gGt (op2 gIx (mV 1) (mC (.int 2))) (mC (.int 0))) (op2 gLt (op2 gIx (mV 1) (mC (.int 3))) (mV 2)))))))
def m_is_bar : EM := runQ 2 1 b_is_bar
def b_is_window_value : SM := seqS (ifS (mOr (mNot (op1 (gIsi "tuple") (mV 0))) (mOr (op2 gNe (mCB gLen (mAc (mV 0) mA0)) (mC (.int 2))) (mNot (op1 (gIsi "tuple") (op2 gIx (mV 0) (mC (.int 0))))))) (retS' (mC (.bool false))) (nextS)) (seqS (asgT (gTp 2 (gCs (gNm 1 1) (gCs (gNm 1 2) (gNl)))) (mV 0)) (seqS (ifS (mOr (mNot (mChain gLe gLe (mC (.int 2)) (mCB gLen (mAc (mV 1) mA0)) (mC (.int 4)))) (mNot (mCB gAll (mAc (compE false (iSeq (mV 1)) (gNm 1 3) (mYes) (callM m_is_layer (mAc (mV 3) (mA0))) [3]) mA0)))) (retS' (mC (.bool false))) (nextS)) (seqS (ifS (mOr (mNot (op1 (gIsi "tuple") (mV 2))) (mOr (op2 gGt (mCB gLen (mAc (mV 2) mA0)) (mC (.int 6))) (mNot (mCB gAll (mAc (compE false (iSeq (mV 2)) (gNm 1 3) (mYes) (callM m_is_bar (mAc (mV 1) (mAc (mV 3) (mA0)))) [3]) mA0))))) (retS' (mC (.bool false))) (nextS)) (retS' (mCB gAll (mAc (compE false (iCB gZip (mAc (mV 2) (mAc (mSl gSl (mV 2) (mPart (mC (.int 1))) (mNoPart)) (mA0)))) (gTp 2 (gCs (gNm 1 3) (gCs (gNm 1 4) (gNl)))) (mYes) (op2 gLt (mV 3) (mV 4)) [3, 4]) mA0))))))
def m_is_window_value : EM := runQ 1 4 b_is_window_value
def b_is_step : SM := seqS (ifS (mOr (mNot (op1 (gIsi "tuple") (mV 1))) (mOr (op2 gNe (mCB gLen (mAc (mV 1) mA0)) (mC (.int 2))) (mNot (callM m_is_within (mAc (op2 gIx (mV 1) (mC (.int 0))) (mAc (mC (.int 0)) (mAc (op2 gSub (mCB gLen (mAc (mV 0) mA0)) (mC (.int 1))) (mA0)))))))) (retS' (mC (.bool false))) (nextS)) (retS' (callM m_is_within (mAc (op2 gIx (mV 1) (mC (.int 1))) (mAc (mC (.int 0)) (mAc (op2 gIx (op2 gIx (mV 0) (op2 gIx (mV 1) (mC (.int 0)))) (mC (.int 0))) (mA0))))))
def m_is_step : EM := runQ 2 0 b_is_step
def b_is_habit : SM := seqS (ifS (mOr (mNot (op1 (gIsi "tuple") (mV 1))) (mOr (op2 gNe (mCB gLen (mAc (mV 1) mA0)) (mC (.int 2))) (mNot (op1 (gIsi "tuple") (op2 gIx (mV 1) (mC (.int 0))))))) (retS' (mC (.bool false))) (nextS)) (seqS (ifS (mOr (op2 gGt (mCB gLen (mAc (op2 gIx (mV 1) (mC (.int 0))) mA0)) (mC (.int 5))) (mNot (mCB gAll (mAc (compE false (iSeq (op2 gIx (mV 1) (mC (.int 0)))) (gNm 2 2) (mYes) (callM m_is_step (mAc (mV 0) (mAc (mV 2) (mA0)))) [2]) mA0)))) (retS' (mC (.bool false))) (nextS)) (retS' (callM m_is_word (mAc (op2 gIx (mV 1) (mC (.int 1))) (mAc (mC c_WISHES) (mA0))))))
def m_is_habit : EM := runQ 2 1 b_is_habit
def b_is_house_value : SM := seqS (ifS (mOr (mNot (op1 (gIsi "tuple") (mV 0))) (mOr (op2 gNe (mCB gLen (mAc (mV 0) mA0)) (mC (.int 2))) (mNot (callM m_is_window_value (mAc (op2 gIx (mV 0) (mC (.int 0))) (mA0)))))) (retS' (mC (.bool false))) (nextS)) (seqS (ifS (mOr (mNot (op1 (gIsi "tuple") (op2 gIx (mV 0) (mC (.int 1))))) (mNot (mChain gLe gLe (mC (.int 1)) (mCB gLen (mAc (op2 gIx (mV 0) (mC (.int 1))) mA0)) (mC (.int 3))))) (retS' (mC (.bool false))) (nextS)) (retS' (mCB gAll (mAc (compE false (iSeq (op2 gIx (mV 0) (mC (.int 1)))) (gNm 1 1) (mYes) (callM m_is_habit (mAc (op2 gIx (op2 gIx (mV 0) (mC (.int 0))) (mC (.int 0))) (mAc (mV 1) (mA0)))) [1]) mA0))))
def m_is_house_value : EM := runQ 1 1 b_is_house_value
def b_is_settings_value : SM := seqS (ifS (mOr (mNot (op1 (gIsi "tuple") (mV 1))) (op2 gNe (mCB gLen (mAc (mV 1) mA0)) (mCB gLen (mAc (op2 gIx (mV 0) (mC (.int 0))) mA0)))) (retS' (mC (.bool false))) (nextS)) (retS' (mCB gAll (mAc (compE false (iCB gZip (mAc (mV 1) (mAc (op2 gIx (mV 0) (mC (.int 0))) (mA0)))) (gTp 2 (gCs (gNm 2 2) (gCs (gNm 2 3) (gNl)))) (mYes) (callM m_is_within (mAc (mV 2) (mAc (mC (.int 0)) (mAc (op2 gIx (mV 3) (mC (.int 0))) (mA0))))) [2, 3]) mA0)))
def m_is_settings_value : EM := runQ 2 2 b_is_settings_value
def b_need_window : SM := ifS (mNot (callM m_is_window_value (mAc (mV 0) (mA0)))) (failS) (nextS)
def m_need_window : EM := runQ 1 0 b_need_window
def b_need_house : SM := ifS (mNot (callM m_is_house_value (mAc (mV 0) (mA0)))) (failS) (nextS)
def m_need_house : EM := runQ 1 0 b_need_house
def b_need_settings : SM := ifS (mNot (callM m_is_settings_value (mAc (mV 0) (mAc (mV 1) (mA0))))) (failS) (nextS)
def m_need_settings : EM := runQ 2 0 b_need_settings
def b_need_place : SM := ifS (mNot (callM m_is_within (mAc (mV 0) (mAc (mC (.int 0)) (mAc (mC (.int 1)) (mA0)))))) (failS) (nextS)
def m_need_place : EM := runQ 1 0 b_need_place
def b_all_settings : SM := seqS (asgN 1 1 (mCB gLst (mAc (mCB gTup' (mA0)) (mA0)))) (seqS (forS (iSeq (op2 gIx (mV 0) (mC (.int 0)))) (gNm 1 2) (asgN 1 1 (compE2 false (iSeq (mV 1)) (gNm 1 3) (mYes) (iCB gRng1 (mAc (op2 gAdd (op2 gIx (mV 2) (mC (.int 0))) (mC (.int 1))) (mA0))) (gNm 1 4) (mYes) (op2 gAdd (mV 3) (mCB gTup' (mAc (mV 4) (mA0)))) [3, 4] [4]))) (retS' (mV 1)))
def m_all_settings : EM := runQ 1 4 b_all_settings
def b_shut_of : SM := retS' (op2 gRepT (mCB gTup' (mAc (mC (.int 0)) (mA0))) (mCB gLen (mAc (op2 gIx (mV 0) (mC (.int 0))) mA0)))
def m_shut_of : EM := runQ 1 0 b_shut_of
def b_open_of : SM := retS' (mCB gTuple (mAc (compE false (iSeq (op2 gIx (mV 0) (mC (.int 0)))) (gNm 1 1) (mYes) (op2 gIx (mV 1) (mC (.int 0))) [1]) mA0))
def m_open_of : EM := runQ 1 1 b_open_of
def b_kept_by : SM := seqS (asgN 2 2 (mCB gAny (mAc (compE false (iCB gZip (mAc (mV 1) (mAc (op2 gIx (mV 0) (mC (.int 0))) (mA0)))) (gTp 2 (gCs (gNm 2 3) (gCs (gNm 2 4) (gNl)))) (mYes) (op2 gLe (mV 3) (op2 gIx (mV 4) (mC (.int 1)))) [3, 4]) mA0))) (retS' (mCB gTup' (mAc (mV 2) (mAc (mCB gAny (mAc (compE false (iCB gZip (mAc (mV 1) (mAc (op2 gIx (mV 0) (mC (.int 0))) (mA0)))) (gTp 2 (gCs (gNm 2 3) (gCs (gNm 2 4) (gNl)))) (mYes) (op2 gLe (mV 3) (op2 gIx (mV 4) (mC (.int 2)))) [3, 4]) mA0)) (mA0)))))
def m_kept_by : EM := runQ 2 3 b_kept_by
def b_exchanged_so : SM := seqS (asgN 1 1 (mDK [.inr "within", .inr "without"] [mC (.str "without"), mC (.str "within")])) (retS' (mCB gTup' (mAc (mCB gTuple (mAc (compE false (iSeq (op2 gIx (mV 0) (mC (.int 0)))) (gNm 1 2) (mYes) (op2 gAdd (mSl gSl (mV 2) (mNoPart) (mPart (mC (.int 3)))) (mCB gTup' (mAc (mS1x 1 (op2 gIx (mV 2) (mC (.int 3))) (op2 gIx (mV 2) (mC (.int 3))) gDg2) (mAc (op2 gIx (mV 2) (mC (.int 4))) (mA0))))) [2]) mA0)) (mAc (op2 gIx (mV 0) (mC (.int 1))) (mA0)))))
def m_exchanged_so : EM := runQ 1 2 b_exchanged_so
def b_kept : SM := seqS (dropS (callM m_need_window (mAc (mV 0) (mA0)))) (seqS (dropS (callM m_need_settings (mAc (mV 0) (mAc (mV 1) (mA0))))) (retS' (callM m_kept_by (mAc (mV 0) (mAc (mV 1) (mA0))))))
def m_kept : EM := runQ 2 0 b_kept
def b_exchanged : SM := seqS (dropS (callM m_need_window (mAc (mV 0) (mA0)))) (retS' (callM m_exchanged_so (mAc (mV 0) (mA0))))
def m_exchanged : EM := runQ 1 0 b_exchanged
def b_is_free : SM := retS' (mCB gAll (mAc (compE false (iSeq (op2 gIx (mV 0) (mC (.int 1)))) (gTp 4 (gCs (gNm 3 3) (gCs (gNm 3 4) (gCs (gNm 3 5) (gCs (gNm 3 6) (gNl)))))) (op2 gEq (mV 3) (mV 2)) (mChain gLe gLe (mV 5) (op2 gIx (mV 1) (mV 4)) (mV 6)) [3, 4, 5, 6]) mA0))
def m_is_free : EM := runQ 3 4 b_is_free
def b_with_step : SM := retS' (op2 gAdd (op2 gAdd (mSl gSl (mV 0) (mNoPart) (mPart (mV 1))) (mCB gTup' (mAc (op2 gAdd (op2 gIx (mV 0) (mV 1)) (mV 2)) (mA0)))) (mSl gSl (mV 0) (mPart (op2 gAdd (mV 1) (mC (.int 1)))) (mNoPart)))
def m_with_step : EM := runQ 3 0 b_with_step
def b_can_step : SM := retS' (mAnd (mChain gLe gLe (mC (.int 0)) (op2 gAdd (op2 gIx (mV 1) (mV 2)) (mV 3)) (op2 gIx (op2 gIx (op2 gIx (mV 0) (mC (.int 0))) (mV 2)) (mC (.int 0)))) (callM m_is_free (mAc (mV 0) (mAc (mV 1) (mAc (mV 2) (mA0))))))
def m_can_step : EM := runQ 4 0 b_can_step
def b_has_hand : SM := retS' (op2 (gIn false) (op2 gIx (op2 gIx (op2 gIx (mV 0) (mC (.int 0))) (mV 1)) (mC (.int 3))) (mCB gTup' (mAc (mC (.str "both")) (mAc (op2 gIx (mC c_PLACES) (mV 2)) (mA0)))))
def m_has_hand : EM := runQ 3 0 b_has_hand
def b_hand_moves : SM := seqS (asgN 3 3 (compE false (iCB gRng1 (mAc (mCB gLen (mAc (mV 1) mA0)) (mA0))) (gNm 3 4) (callM m_has_hand (mAc (mV 0) (mAc (mV 4) (mAc (mV 2) (mA0))))) (mV 4) [4])) (retS' (compE2 false (iSeq (mV 3)) (gNm 3 4) (mYes) (iSeq (mCB gTup' (mAc (op1 gNeg (mC (.int 1))) (mAc (mC (.int 1)) (mA0))))) (gNm 3 5) (callM m_can_step (mAc (mV 0) (mAc (mV 1) (mAc (mV 4) (mAc (mV 5) (mA0)))))) (mCB gTup' (mAc (mV 4) (mAc (mV 5) (mA0)))) [4, 5] [5]))
def m_hand_moves : EM := runQ 3 3 b_hand_moves
def b_wind_moves : SM := seqS (asgN 2 2 (mCB gLst (mA0))) (seqS (forS (iCB gRng1 (mAc (mCB gLen (mAc (mV 1) mA0)) (mA0))) (gNm 2 3) (seqS (asgN 2 4 (op2 gIx (op2 gIx (op2 gIx (mV 0) (mC (.int 0))) (mV 3)) (mC (.int 4)))) (seqS (asgN 2 5 (mF1x (mDK [.inr "both", .inr "opens", .inr "shuts"] [mCB gTup' (mAc (op1 gNeg (mC (.int 1))) (mAc (mC (.int 1)) (mA0))), mCB gTup' (mAc (mC (.int 1)) (mA0)), mCB gTup' (mAc (op1 gNeg (mC (.int 1))) (mA0))]) (mV 4) (mCB gTup' (mA0)) gDg2)) (asgN 2 2 (op2 gAdd (mV 2) (compE false (iSeq (mV 5)) (gNm 2 6) (callM m_can_step (mAc (mV 0) (mAc (mV 1) (mAc (mV 3) (mAc (mV 6) (mA0)))))) (mCB gTup' (mAc (mV 3) (mAc (mV 6) (mA0)))) [6])))))) (retS' (mV 2)))
def m_wind_moves : EM := runQ 2 5 b_wind_moves
def b_ways_from : SM := seqS (parS 3 [3, 4, 5] [mDN1 (mV 1) (mCB gTup' (mA0)), mCB gLstO (mAc (mV 1) (mA0)), mC (.int 0)]) (seqS (whileS (op2 gLt (mV 5) (mOlen 4)) (seqS (asgN 3 6 (mOix 4 (mV 5))) (seqS (augI 3 5 (mC (.int 1))) (forS (iSeq (callM m_hand_moves (mAc (mV 0) (mAc (mV 6) (mAc (mV 2) (mA0)))))) (gTp 2 (gCs (gNm 3 7) (gCs (gNm 3 8) (gNl)))) (seqS (asgN 3 9 (callM m_with_step (mAc (mV 6) (mAc (mV 7) (mAc (mV 8) (mA0)))))) (ifS (mS2 3 (mV 9) (gDin true)) (seqS (dSet 3 (op2 gAdd (mS1 3 (mV 6) gDix) (mCB gTup' (mAc (mCB gTup' (mAc (mV 7) (mAc (mV 8) (mA0)))) (mA0)))) (mV 9)) (appO 4 (mV 9))) (nextS)))))) 5000) (retO 3 3))
def m_ways_from : EM := runQ 3 7 b_ways_from
def b_need_all : SM := seqS (dropS (callM m_need_window (mAc (mV 0) (mA0)))) (seqS (dropS (callM m_need_settings (mAc (mV 0) (mAc (mV 1) (mA0))))) (dropS (callM m_need_place (mAc (mV 2) (mA0)))))
def m_need_all : EM := runQ 3 0 b_need_all
def b_moves : SM := seqS (dropS (callM m_need_all (mAc (mV 0) (mAc (mV 1) (mAc (mV 2) (mA0)))))) (retS' (callM m_hand_moves (mAc (mV 0) (mAc (mV 1) (mAc (mV 2) (mA0))))))
def m_moves : EM := runQ 3 0 b_moves
def b_winds : SM := seqS (dropS (callM m_need_window (mAc (mV 0) (mA0)))) (seqS (dropS (callM m_need_settings (mAc (mV 0) (mAc (mV 1) (mA0))))) (retS' (callM m_wind_moves (mAc (mV 0) (mAc (mV 1) (mA0))))))
def m_winds : EM := runQ 2 0 b_winds
def b_fewest : SM := seqS (dropS (callM m_need_all (mAc (mV 0) (mAc (mV 1) (mAc (mV 2) (mA0)))))) (seqS (dropS (callM m_need_settings (mAc (mV 0) (mAc (mV 3) (mA0))))) (retS' (mF1 (callM m_ways_from (mAc (mV 0) (mAc (mV 1) (mAc (mV 2) (mA0))))) (mV 3) gDg1)))
def m_fewest : EM := runQ 4 0 b_fewest
def b_dead : SM := seqS (dropS (callM m_need_window (mAc (mV 0) (mA0)))) (seqS (dropS (callM m_need_place (mAc (mV 1) (mA0)))) (seqS (asgN 2 2 (callM m_shut_of (mAc (mV 0) (mA0)))) (retS' (compE false (iSeq (callM m_all_settings (mAc (mV 0) (mA0)))) (gNm 2 3) (mF2 (mV 2) (callM m_ways_from (mAc (mV 0) (mAc (mV 3) (mAc (mV 1) (mA0))))) (gDin true)) (mV 3) [3]))))
def m_dead : EM := runQ 2 2 b_dead
def b_farthest : SM := seqS (dropS (callM m_need_window (mAc (mV 0) (mA0)))) (seqS (dropS (callM m_need_place (mAc (mV 1) (mA0)))) (seqS (asgN 2 2 (mC (.int 0))) (seqS (forS (iSeq (callM m_all_settings (mAc (mV 0) (mA0)))) (gNm 2 3) (seqS (asgN 2 4 (callM m_ways_from (mAc (mV 0) (mAc (mV 3) (mAc (mV 1) (mA0)))))) (asgN 2 2 (mCB gMax2 (mAc (mV 2) (mAc (mCB gMax1 (mAc (lockE 4 (compE false (iDk 4) (gNm 2 5) (mYes) (mCB gLen (mAc (mS1 4 (mV 5) gDix) mA0)) [5])) mA0)) mA0)))))) (retS' (mV 2)))))
def m_farthest : EM := runQ 2 4 b_farthest
def b_begin : SM := retS' (mCB gTup' (mAc (callM m_shut_of (mAc (op2 gIx (mV 0) (mC (.int 0))) (mA0))) (mAc (mC (.int 0)) (mAc (mC (.str "none")) (mA0)))))
def m_begin : EM := runQ 1 0 b_begin
def b_towards : SM := seqS (whileS (op2 gNe (op2 gIx (mV 1) (mV 3)) (mV 4)) (seqS (asgN 5 5 (mIfE (op2 gLt (op2 gIx (mV 1) (mV 3)) (mV 4)) (mC (.int 1)) (op1 gNeg (mC (.int 1))))) (seqS (ifS (mOr (mNot (callM m_has_hand (mAc (mV 0) (mAc (mV 3) (mAc (mV 2) (mA0)))))) (mNot (callM m_can_step (mAc (mV 0) (mAc (mV 1) (mAc (mV 3) (mAc (mV 5) (mA0)))))))) (retS' (mV 1)) (nextS)) (asgN 5 1 (callM m_with_step (mAc (mV 1) (mAc (mV 3) (mAc (mV 5) (mA0)))))))) 5000) (retS' (mV 1))
def m_towards : EM := runQ 5 1 b_towards
def b_habit_done : SM := seqS (asgN 4 4 (mC (.bool false))) (seqS (forS (iSeq (mV 3)) (gTp 2 (gCs (gNm 4 5) (gCs (gNm 4 6) (gNl)))) (seqS (asgN 4 1 (callM m_towards (mAc (mV 0) (mAc (mV 1) (mAc (mV 2) (mAc (mV 5) (mAc (mV 6) (mA0)))))))) (asgN 4 4 (mOr (mV 4) (op2 gNe (op2 gIx (mV 1) (mV 5)) (mV 6)))))) (retS' (mCB gTup' (mAc (mV 1) (mAc (mV 4) (mA0))))))
def m_habit_done : EM := runQ 4 3 b_habit_done
def b_broken : SM := seqS (asgT (gTp 2 (gCs (gNm 3 3) (gCs (gNm 3 4) (gNl)))) (callM m_kept_by (mAc (mV 0) (mAc (mV 1) (mA0))))) (seqS (asgN 3 5 (mIfE (mAnd (op2 (gIn false) (mV 2) (mCB gTup' (mAc (mC (.str "both")) (mAc (mC (.str "flyless")) (mA0))))) (mNot (mV 4))) (mCB gLst (mAc (mC (.str "bitten")) (mA0))) (mCB gLst (mA0)))) (retS' (op2 gAdd (mV 5) (mRepO (mAc (mC (.str "wet")) (mA0)) (mCB gInt (mAc (mAnd (op2 (gIn false) (mV 2) (mCB gTup' (mAc (mC (.str "both")) (mAc (mC (.str "dry")) (mA0))))) (mNot (mV 3))) mA0))))))
def m_broken : EM := runQ 3 3 b_broken
def b_habit_rows : SM := seqS (asgT (gTp 3 (gCs (gNm 2 2) (gCs (gNm 2 3) (gCs (gNm 2 4) (gNl))))) (mV 1)) (seqS (asgN 2 5 (mCB gLst (mA0))) (seqS (forS (iCB gEnum2 (mAc (op2 gIx (mV 0) (mC (.int 1))) (mA0))) (gTp 2 (gCs (gNm 2 6) (gCs (gTp 2 (gCs (gNm 2 7) (gCs (gNm 2 8) (gNl)))) (gNl)))) (seqS (asgT (gTp 2 (gCs (gNm 2 9) (gCs (gNm 2 10) (gNl)))) (callM m_habit_done (mAc (op2 gIx (mV 0) (mC (.int 0))) (mAc (mV 2) (mAc (mV 3) (mAc (mV 7) (mA0))))))) (seqS (asgN 2 11 (op2 gAdd (callM m_broken (mAc (op2 gIx (mV 0) (mC (.int 0))) (mAc (mV 9) (mAc (mV 8) (mA0))))) (mRepO (mAc (mC (.str "halted")) (mA0)) (mCB gInt (mAc (mV 10) mA0))))) (asgN 2 5 (op2 gAdd (mV 5) (mCB gLst (mAc (mCB gTup' (mAc (mCB gTup' (mAc (mC (.str "habit")) (mAc (mV 6) (mA0)))) (mAc (mCB gSorted (mAc (mV 11) mA0)) (mAc (mCB gTup' (mAc (mV 9) (mAc (mV 3) (mAc (mV 8) (mA0))))) (mA0))))) (mA0)))))))) (retS' (mV 5))))
def m_habit_rows : EM := runQ 2 10 b_habit_rows
def b_event_rows : SM := seqS (asgT (gTp 3 (gCs (gNm 2 2) (gCs (gNm 2 3) (gCs (gNm 2 4) (gNl))))) (mV 1)) (seqS (asgN 2 5 (callM m_habit_rows (mAc (mV 0) (mAc (mV 1) (mA0))))) (seqS (ifS (op2 gEq (mV 2) (callM m_open_of (mAc (op2 gIx (mV 0) (mC (.int 0))) (mA0)))) (seqS (asgN 2 8 (mIfE (op2 gEq (mV 3) (mC (.int 0))) (mCB gTup' (mAc (mC (.str "out")) (mA0))) (mCB gTup' (mAc (mC (.str "in")) (mA0))))) (asgN 2 5 (op2 gAdd (mV 5) (mCB gLst (mAc (mCB gTup' (mAc (mV 8) (mAc (callM m_broken (mAc (op2 gIx (mV 0) (mC (.int 0))) (mAc (mV 2) (mAc (mV 4) (mA0))))) (mAc (mCB gTup' (mAc (mV 2) (mAc (op2 gSub (mC (.int 1)) (mV 3)) (mAc (mV 4) (mA0))))) (mA0))))) (mA0)))))) (nextS)) (seqS (forS (iSeq (callM m_wind_moves (mAc (op2 gIx (mV 0) (mC (.int 0))) (mAc (mV 2) (mA0))))) (gTp 2 (gCs (gNm 2 6) (gCs (gNm 2 7) (gNl)))) (seqS (asgN 2 9 (callM m_with_step (mAc (mV 2) (mAc (mV 6) (mAc (mV 7) (mA0)))))) (asgN 2 5 (op2 gAdd (mV 5) (mCB gLst (mAc (mCB gTup' (mAc (mCB gTup' (mAc (mC (.str "wind")) (mAc (mV 6) (mAc (mV 7) (mA0))))) (mAc (callM m_broken (mAc (op2 gIx (mV 0) (mC (.int 0))) (mAc (mV 9) (mAc (mV 4) (mA0))))) (mAc (mCB gTup' (mAc (mV 9) (mAc (mV 3) (mAc (mV 4) (mA0))))) (mA0))))) (mA0))))))) (retS' (mV 5)))))
def m_event_rows : EM := runQ 2 8 b_event_rows
def b_graph_of : SM := seqS (parS 2 [2, 3] [mDN0, mCB gLst (mAc (callM m_begin (mAc (mV 0) (mA0))) (mA0))]) (seqS (whileS (op2 gNe (mV 3) (mCB gLst (mA0))) (seqS (asgN 2 4 (mCB gLstO (mA0))) (seqS (forS (iSeq (mV 3)) (gNm 2 5) (ifS (mS2 2 (mV 5) (gDin true)) (seqS (dSet 2 (compE false (iSeq (callM m_event_rows (mAc (mV 0) (mAc (mV 5) (mA0))))) (gNm 2 6) (mOr (mV 1) (op2 gNe (op2 gIx (op2 gIx (mV 6) (mC (.int 0))) (mC (.int 0))) (mC (.str "wind")))) (mV 6) [6]) (mV 5)) (iaddO 4 (compE true (iSeq (mS1 2 (mV 5) gDix)) (gNm 2 6) (mYes) (op2 gIx (mV 6) (mC (.int 2))) [6]))) (nextS))) (frzS 2 4 (asgN 2 3 (mV 4))))) 5000) (retO 2 2))
def m_graph_of : EM := runQ 2 5 b_graph_of
def b_histories : SM := seqS (asgN 2 2 (mDN1 (callM m_begin (mAc (mV 0) (mA0))) (mCB gTup' (mA0)))) (seqS (lockS 1 (forS (iDk 1) (gNm 2 3) (forS (iSeq (mS1 1 (mV 3) gDix)) (gTp 3 (gCs (gNm 2 4) (gCs (gNm 2 5) (gCs (gNm 2 6) (gNl))))) (ifS (mS2 2 (mV 6) (gDin true)) (dSet 2 (op2 gAdd (mS1 2 (mV 3) gDix) (mCB gTup' (mAc (mV 4) (mA0)))) (mV 6)) (nextS))))) (retO 2 2))
def m_histories : EM := runQ 2 5 b_histories
def b_stand_harms : SM := seqS (asgT (gTp 3 (gCs (gNm 2 2) (gCs (gNm 2 3) (gCs (gNm 2 4) (gNl))))) (mV 1)) (seqS (asgN 2 5 (callM m_ways_from (mAc (mV 0) (mAc (mV 2) (mAc (mV 3) (mA0)))))) (seqS (ifS (op2 gEq (mV 3) (mC (.int 1))) (retS' (mIfE (mS2 5 (callM m_open_of (mAc (mV 0) (mA0))) (gDin false)) (mCB gLst (mA0)) (mCB gLst (mAc (mC (.str "out")) (mA0))))) (nextS)) (retS' (mIfE (mS2 5 (callM m_shut_of (mAc (mV 0) (mA0))) (gDin false)) (mCB gLst (mA0)) (mCB gLst (mAc (mC (.str "jammed")) (mA0)))))))
def m_stand_harms : EM := runQ 2 4 b_stand_harms
def b_first_harms : SM := seqS (asgN 2 2 (callM m_graph_of (mAc (mV 0) (mAc (mV 1) (mA0))))) (seqS (parS 2 [3, 4, 5] [callM m_histories (mAc (mV 0) (mAr 2 (mA0))), mCB gLstO (mA0), mDK0]) (seqS (lockS 2 (forS (iDk 2) (gNm 2 6) (seqS (iaddO 4 (compE true (iSeq (callM m_stand_harms (mAc (op2 gIx (mV 0) (mC (.int 0))) (mAc (mV 6) (mA0))))) (gNm 2 8) (mYes) (mCB gTup' (mAc (mS1 3 (mV 6) gDix) (mAc (mV 8) (mA0)))) [8])) (forS (iSeq (mS1 2 (mV 6) gDix)) (gTp 3 (gCs (gNm 2 9) (gCs (gNm 2 10) (gCs (gNm 2 11) (gNl))))) (iaddO 4 (compE true (iSeq (mV 10)) (gNm 2 8) (mYes) (mCB gTup' (mAc (op2 gAdd (mS1 3 (mV 6) gDix) (mCB gTup' (mAc (mV 9) (mA0)))) (mAc (mV 8) (mA0)))) [8])))))) (frzS 2 4 (seqS (forS (iSeq (mV 4)) (gTp 2 (gCs (gNm 2 7) (gCs (gNm 2 8) (gNl)))) (ifS (mOr (mS2 5 (mV 8) (gDin true)) (op2 gLtA (mCB gTup' (mAc (mCB gLen (mAc (mV 7) mA0)) (mAc (mV 7) (mA0)))) (mCB gTup' (mAc (mCB gLen (mAc (mS1 5 (mV 8) gDix) mA0)) (mAc (mS1 5 (mV 8) gDix) (mA0)))))) (dSet 5 (mV 7) (mV 8)) (nextS))) (retO 2 5)))))
def m_first_harms : EM := runQ 2 10 b_first_harms
def b_need_harm : SM := ifS (mNot (callM m_is_word (mAc (mV 0) (mAc (mC c_HARMS) (mA0))))) (failS) (nextS)
def m_need_harm : EM := runQ 1 0 b_need_harm
def b_harms : SM := seqS (dropS (callM m_need_house (mAc (mV 0) (mA0)))) (retS' (mFsort (callM m_first_harms (mAc (mV 0) (mAc (mC (.bool true)) (mA0))))))
def m_harms : EM := runQ 1 0 b_harms
def b_calm_harms : SM := seqS (dropS (callM m_need_house (mAc (mV 0) (mA0)))) (retS' (mFsort (callM m_first_harms (mAc (mV 0) (mAc (mC (.bool false)) (mA0))))))
def m_calm_harms : EM := runQ 1 0 b_calm_harms
def b_first_history : SM := seqS (dropS (callM m_need_house (mAc (mV 0) (mA0)))) (seqS (dropS (callM m_need_harm (mAc (mV 1) (mA0)))) (retS' (mF1 (callM m_first_harms (mAc (mV 0) (mAc (mC (.bool true)) (mA0)))) (mV 1) gDg1)))
def m_first_history : EM := runQ 2 0 b_first_history
def b_count_stands : SM := seqS (dropS (callM m_need_house (mAc (mV 0) (mA0)))) (retS' (mFlen (callM m_graph_of (mAc (mV 0) (mAc (mC (.bool true)) (mA0))))))
def m_count_stands : EM := runQ 1 0 b_count_stands
def b_all_bars : SM := seqS (asgN 1 1 (mLR false (mCB gLen (mAc (mV 0) mA0)))) (seqS (asgN 1 2 (compE2 false (iSeq (mV 1)) (gNm 1 4) (mYes) (iSeq (mV 1)) (gNm 1 5) (mYes) (mCB gTup' (mAc (mV 4) (mAc (mV 5) (mA0)))) [4, 5] [5])) (seqS (asgN 1 3 (compE2 false (iCB gRng1 (mAc (mC (.int 3)) (mA0))) (gNm 1 6) (mYes) (iCB gRng1 (mAc (mC (.int 3)) (mA0))) (gNm 1 7) (mYes) (mCB gTup' (mAc (mV 6) (mAc (mV 7) (mA0)))) [6, 7] [7])) (retS' (compE2 false (iSeq (mV 2)) (gNm 1 8) (mYes) (iSeq (mV 3)) (gNm 1 9) (callM m_is_bar (mAc (mV 0) (mAc (op2 gAdd (mV 8) (mV 9)) (mA0)))) (op2 gAdd (mV 8) (mV 9)) [8, 9] [9]))))
def m_all_bars : EM := runQ 1 9 b_all_bars
def b_bars_changed : SM := seqS (asgT (gTp 2 (gCs (gNm 1 1) (gCs (gNm 1 2) (gNl)))) (mV 0)) (seqS (asgN 1 3 (compE true (iCB gRng1 (mAc (mCB gLen (mAc (mV 2) mA0)) (mA0))) (gNm 1 4) (mYes) (mCB gTup' (mAc (mV 1) (mAc (op2 gAdd (mSl gSl (mV 2) (mNoPart) (mPart (mV 4))) (mSl gSl (mV 2) (mPart (op2 gAdd (mV 4) (mC (.int 1)))) (mNoPart))) (mA0)))) [4])) (seqS (ifS (op2 gLt (mCB gLen (mAc (mV 2) mA0)) (mC (.int 6))) (iaddO 3 (compE true (iSeq (callM m_all_bars (mAc (mV 1) (mA0)))) (gNm 1 5) (op2 (gIn true) (mV 5) (mV 2)) (mCB gTup' (mAc (mV 1) (mAc (mCB gTuple (mAc (mCB gSorted (mAc (op2 gAdd (mV 2) (mCB gTup' (mAc (mV 5) (mA0)))) mA0)) mA0)) (mA0)))) [5])) (nextS)) (frzS 1 3 (retS' (mCB gSorted (mAc (mV 3) mA0))))))
def m_bars_changed : EM := runQ 1 5 b_bars_changed
def b_steps_of : SM := retS' (compE2 false (iCB gRng1 (mAc (mCB gLen (mAc (mV 0) mA0)) (mA0))) (gNm 1 1) (mYes) (iCB gRng1 (mAc (op2 gAdd (op2 gIx (op2 gIx (mV 0) (mV 1)) (mC (.int 0))) (mC (.int 1))) (mA0))) (gNm 1 2) (mYes) (mCB gTup' (mAc (mV 1) (mAc (mV 2) (mA0)))) [1, 2] [2])
def m_steps_of : EM := runQ 1 2 b_steps_of
def b_is_sure : SM := seqS (asgN 3 3 (compE false (iSeq (callM m_all_settings (mAc (mV 0) (mA0)))) (gNm 3 4) (mYes) (op2 gIx (callM m_habit_done (mAc (mV 0) (mAc (mV 4) (mAc (mC (.int 0)) (mAc (mV 1) (mA0)))))) (mC (.int 0))) [4])) (retS' (mNot (mCB gAny (mAc (compE false (iSeq (mV 3)) (gNm 3 5) (mYes) (op2 gNe (callM m_broken (mAc (mV 0) (mAc (mV 5) (mAc (mV 2) (mA0))))) (mCB gLst (mA0))) [5]) mA0))))
def m_is_sure : EM := runQ 3 3 b_is_sure
def b_bar_changes : SM := seqS (dropS (callM m_need_window (mAc (mV 0) (mA0)))) (retS' (callM m_bars_changed (mAc (mV 0) (mA0))))
def m_bar_changes : EM := runQ 1 0 b_bar_changes
def b_sure_steps : SM := seqS (dropS (callM m_need_window (mAc (mV 0) (mA0)))) (seqS (ifS (mNot (callM m_is_word (mAc (mV 1) (mAc (mC c_WISHES) (mA0))))) (failS) (nextS)) (seqS (asgN 2 2 (mCB gLst (mAc (mCB gTup' (mA0)) (mA0)))) (seqS (forS (iCB gRng1 (mAc (mC (.int 3)) (mA0))) (gNm 2 3) (seqS (asgN 2 4 (compE false (iSeq (mV 2)) (gNm 2 5) (callM m_is_sure (mAc (mV 0) (mAc (mV 5) (mAc (mV 1) (mA0))))) (mV 5) [5])) (seqS (ifS (op2 gNe (mV 4) (mCB gLst (mA0))) (retS' (mV 4)) (nextS)) (asgN 2 2 (compE2 false (iSeq (mV 2)) (gNm 2 5) (mYes) (iSeq (callM m_steps_of (mAc (op2 gIx (mV 0) (mC (.int 0))) (mA0)))) (gNm 2 6) (mYes) (op2 gAdd (mV 5) (mCB gTup' (mAc (mV 6) (mA0)))) [5, 6] [6]))))) (retS' (mCB gLst (mA0))))))
def m_sure_steps : EM := runQ 2 5 b_sure_steps
def b_deeds_of : SM := seqS (asgN 2 2 (mCB gLstO (mA0))) (seqS (forS (iSeq (mCB gTup' (mAc (mC (.int 0)) (mAc (mC (.int 1)) (mA0))))) (gNm 2 3) (iaddO 2 (compE true (iSeq (callM m_hand_moves (mAc (mV 0) (mAc (mV 1) (mAc (mV 3) (mA0)))))) (gNm 2 4) (mYes) (op2 gAdd (mCB gTup' (mAc (mC (.str "hand")) (mAc (mV 3) (mA0)))) (mV 4)) [4]))) (frzS 2 2 (retS' (op2 gAdd (mV 2) (compE false (iSeq (callM m_wind_moves (mAc (mV 0) (mAc (mV 1) (mA0))))) (gNm 2 4) (mYes) (op2 gAdd (mCB gTup' (mAc (mC (.str "wind")) (mA0))) (mV 4)) [4])))))
def m_deeds_of : EM := runQ 2 3 b_deeds_of
def b_parted : SM := seqS (asgN 2 2 (callM m_shut_of (mAc (mV 0) (mA0)))) (seqS (ifS (op2 gNe (callM m_kept_by (mAc (mV 0) (mAc (mV 2) (mA0)))) (callM m_kept_by (mAc (mV 1) (mAc (mV 2) (mA0))))) (retS' (mCB gTup' (mA0))) (nextS)) (seqS (parS 2 [3, 4, 5] [mCB gLstO (mAc (mCB gTup' (mAc (mV 2) (mAc (mCB gTup' (mA0)) (mA0)))) (mA0)), mDN1 (mV 2) (mC (.bool true)), mC (.int 0)]) (seqS (whileS (op2 gLt (mV 5) (mOlen 3)) (seqS (asgT (gTp 2 (gCs (gNm 2 6) (gCs (gNm 2 7) (gNl)))) (mOix 3 (mV 5))) (seqS (augI 2 5 (mC (.int 1))) (seqS (parS 2 [8, 9] [callM m_deeds_of (mAc (mV 0) (mAc (mV 6) (mA0))), callM m_deeds_of (mAc (mV 1) (mAc (mV 6) (mA0)))]) (forS (iSeq (mSK (op2 gAdd (mV 8) (mV 9)))) (gNm 2 10) (seqS (asgN 2 11 (callM m_with_step (mAc (mV 6) (mAc (op2 gIx (mV 10) (op1 gNeg (mC (.int 2)))) (mAc (op2 gIx (mV 10) (op1 gNeg (mC (.int 1)))) (mA0)))))) (seqS (ifS (mOr (op2 (gIn true) (mV 10) (mV 8)) (mOr (op2 (gIn true) (mV 10) (mV 9)) (op2 gNe (callM m_kept_by (mAc (mV 0) (mAc (mV 11) (mA0)))) (callM m_kept_by (mAc (mV 1) (mAc (mV 11) (mA0))))))) (retS' (op2 gAdd (mV 7) (mCB gTup' (mAc (mV 10) (mA0))))) (nextS)) (ifS (mS2 4 (mV 11) (gDin true)) (seqS (dSet 4 (mC (.bool true)) (mV 11)) (appO 3 (mCB gTup' (mAc (mV 11) (mAc (op2 gAdd (mV 7) (mCB gTup' (mAc (mV 10) (mA0)))) (mA0)))))) (nextS)))))))) 5000) (retS' (mC .none)))))
def m_parted : EM := runQ 2 10 b_parted
def b_need_two : SM := seqS (dropS (callM m_need_window (mAc (mV 0) (mA0)))) (seqS (dropS (callM m_need_window (mAc (mV 1) (mA0)))) (ifS (op2 gNe (compE false (iSeq (op2 gIx (mV 0) (mC (.int 0)))) (gNm 2 2) (mYes) (op2 gIx (mV 2) (mC (.int 0))) [2]) (compE false (iSeq (op2 gIx (mV 1) (mC (.int 0)))) (gNm 2 2) (mYes) (op2 gIx (mV 2) (mC (.int 0))) [2])) (failS) (nextS)))
def m_need_two : EM := runQ 2 1 b_need_two
def b_parting : SM := seqS (dropS (callM m_need_two (mAc (mV 0) (mAc (mV 1) (mA0))))) (retS' (callM m_parted (mAc (mV 0) (mAc (mV 1) (mA0)))))
def m_parting : EM := runQ 2 0 b_parting
def b_idle_bars : SM := seqS (dropS (callM m_need_window (mAc (mV 0) (mA0)))) (seqS (asgT (gTp 2 (gCs (gNm 1 1) (gCs (gNm 1 2) (gNl)))) (mV 0)) (seqS (asgN 1 3 (compE false (iCB gRng1 (mAc (mCB gLen (mAc (mV 2) mA0)) (mA0))) (gNm 1 4) (mYes) (mCB gTup' (mAc (mV 1) (mAc (op2 gAdd (mSl gSl (mV 2) (mNoPart) (mPart (mV 4))) (mSl gSl (mV 2) (mPart (op2 gAdd (mV 4) (mC (.int 1)))) (mNoPart))) (mA0)))) [4])) (retS' (compE false (iCB gEnum2 (mAc (mV 3) (mA0))) (gTp 2 (gCs (gNm 1 4) (gCs (gNm 1 5) (gNl)))) (op2 gIsN (callM m_parted (mAc (mV 0) (mAc (mV 5) (mA0)))) (mC .none)) (mV 4) [4, 5]))))
def m_idle_bars : EM := runQ 1 5 b_idle_bars
def b__law_deck : SM := seqS (ifS (op2 gGe (mV 0) (op2 gPow (mC (.int 10)) (mC (.int 18)))) (retS' (mCB gLstO (mAc (op2 gSub (mV 0) (op2 gPow (mC (.int 10)) (mC (.int 18)))) (mAc (op2 gMod (mV 0) (mC (.int 2147483579))) (mAc (mV 1) (mA0)))))) (nextS)) (retS' (mCB gLstO (mAc (mC (.int 0)) (mAc (op2 gMod (mV 0) (mC (.int 2147483579))) (mAc (mV 1) (mA0))))))
def m__law_deck : EM := runQ 2 0 b__law_deck
def b__law_pick : SM := seqS (ifS (op2 gGt (mOix 0 (mC (.int 0))) (mC (.int 1))) (seqS (asgN 2 3 (op2 gMod (mCB gInt (mAc (mOix 0 (mC (.int 0))) mA0)) (mV 1))) (seqS (setO 0 (op2 gFdiv (mOix 0 (mC (.int 0))) (mV 1)) (mC (.int 0))) (retS' (mV 3)))) (nextS)) (seqS (setO 0 (op2 gAdd (mOix 0 (mC (.int 2))) (mC (.int 1))) (mC (.int 2))) (seqS (asgN 2 2 (op2 gMod (op2 gPow (op2 gAdd (mOix 0 (mC (.int 1))) (op2 gMul (mC (.int 15485867)) (mOix 0 (mC (.int 2))))) (mC (.int 5))) (mC (.int 2147483647)))) (seqS (asgN 2 3 (op2 gFdiv (op2 gMod (op2 gPow (op2 gAdd (mV 2) (op2 gMul (mC (.int 7919)) (mOix 0 (mC (.int 2))))) (mC (.int 3))) (mC (.int 2147483629))) (mC (.int 32)))) (retS' (op2 gMod (mCB gInt (mAc (mV 3) mA0)) (mV 1))))))
def m__law_pick : EM := runQ 2 2 b__law_pick
def b__law_known : SM := seqS (asgT (gTp 2 (gCs (gNm 0 0) (gCs (gNm 0 1) (gNl)))) (mCB gTup' (mAc (mCB gTup' (mAc (mC (.int 1)) (mAc (mC (.int 0)) (mAc (mC (.int 0)) (mAc (mC (.str "within")) (mAc (mC (.str "still")) (mA0))))))) (mAc (mCB gTup' (mAc (mC (.int 1)) (mAc (op1 gNeg (mC (.int 1))) (mAc (mC (.int 0)) (mAc (mC (.str "within")) (mAc (mC (.str "still")) (mA0))))))) (mA0))))) (seqS (asgN 0 2 (mCB gTup' (mAc (mCB gTup' (mAc (mV 0) (mAc (mV 1) (mA0)))) (mAc (mCB gTup' (mAc (mCB gTup' (mAc (mC (.int 0)) (mAc (mC (.int 1)) (mAc (mC (.int 1)) (mAc (mC (.int 1)) (mA0)))))) (mA0))) (mA0))))) (seqS (asgN 0 3 (mCB gTup' (mAc (mCB gTup' (mAc (mCB gTup' (mAc (mC (.int 1)) (mAc (mC (.int 0)) (mAc (mC (.int 0)) (mAc (mC (.str "within")) (mAc (mC (.str "shuts")) (mA0))))))) (mAc (mCB gTup' (mAc (mC (.int 1)) (mAc (op1 gNeg (mC (.int 1))) (mAc (mC (.int 0)) (mAc (mC (.str "both")) (mAc (mC (.str "still")) (mA0))))))) (mA0)))) (mAc (mCB gTup' (mA0)) (mA0))))) (seqS (asgN 0 4 (mCB gTup' (mAc (mCB gTup' (mAc (mV 0) (mAc (mCB gTup' (mAc (mC (.int 1)) (mAc (op1 gNeg (mC (.int 1))) (mAc (mC (.int 0)) (mAc (mC (.str "without")) (mAc (mC (.str "opens")) (mA0))))))) (mA0)))) (mAc (mCB gTup' (mAc (mCB gTup' (mAc (mC (.int 0)) (mAc (mC (.int 1)) (mAc (mC (.int 0)) (mAc (mC (.int 0)) (mA0)))))) (mA0))) (mA0))))) (seqS (asgN 0 5 (mCB gTup' (mAc (mCB gTup' (mAc (mCB gTup' (mAc (mCB gTup' (mAc (mC (.int 1)) (mAc (mC (.int 1)) (mA0)))) (mAc (mCB gTup' (mAc (mC (.int 0)) (mAc (mC (.int 1)) (mA0)))) (mAc (mCB gTup' (mAc (mC (.int 1)) (mAc (mC (.int 0)) (mA0)))) (mA0))))) (mAc (mC (.str "flyless")) (mA0)))) (mAc (mCB gTup' (mAc (mCB gTup' (mAc (mCB gTup' (mAc (mC (.int 1)) (mAc (mC (.int 1)) (mA0)))) (mAc (mCB gTup' (mAc (mC (.int 0)) (mAc (mC (.int 0)) (mA0)))) (mAc (mCB gTup' (mAc (mC (.int 1)) (mAc (mC (.int 0)) (mA0)))) (mA0))))) (mAc (mC (.str "dry")) (mA0)))) (mA0))))) (retS' (mCB gLst (mAc (mV 2) (mAc (mV 3) (mAc (mV 4) (mAc (mV 5) (mAc (mCB gTup' (mAc (mCB gTup' (mAc (mCB gTup' (mAc (mCB gTup' (mAc (mC (.int 0)) (mAc (mC (.int 1)) (mA0)))) (mAc (mCB gTup' (mAc (mC (.int 1)) (mAc (mC (.int 1)) (mA0)))) (mA0)))) (mAc (mC (.str "none")) (mA0)))) (mA0))) (mA0))))))))))))
def m__law_known : EM := runQ 0 6 b__law_known
def b__law_tall_right : SM := seqS (asgT (gTp 2 (gCs (gNm 1 1) (gCs (gNm 1 2) (gNl)))) (mIfE (mV 0) (mCB gTup' (mAc (mC (.str "without")) (mAc (mC (.int 1)) (mA0)))) (mCB gTup' (mAc (mC (.str "within")) (mAc (mC (.int 0)) (mA0)))))) (seqS (asgN 1 3 (mCB gTup' (mAc (mCB gTup' (mAc (mC (.int 2)) (mAc (mC (.int 0)) (mAc (mC (.int 0)) (mAc (mV 1) (mAc (mC (.str "still")) (mA0))))))) (mAc (mCB gTup' (mAc (mC (.int 1)) (mAc (op1 gNeg (mC (.int 1))) (mAc (mC (.int 0)) (mAc (mV 1) (mAc (mC (.str "still")) (mA0))))))) (mAc (mCB gTup' (mAc (mC (.int 2)) (mAc (op1 gNeg (mC (.int 1))) (mAc (op1 gNeg (mC (.int 1))) (mAc (mV 1) (mAc (mC (.str "shuts")) (mA0))))))) (mA0)))))) (seqS (asgN 1 4 (mCB gTup' (mAc (mV 3) (mAc (mCB gTup' (mAc (mCB gTup' (mAc (mC (.int 0)) (mAc (mC (.int 1)) (mAc (mC (.int 1)) (mAc (mC (.int 1)) (mA0)))))) (mAc (mCB gTup' (mAc (mC (.int 1)) (mAc (mC (.int 2)) (mAc (mC (.int 1)) (mAc (mC (.int 2)) (mA0)))))) (mA0)))) (mA0))))) (seqS (ifS (mOr (op2 gNe (callM m_moves (mAc (mV 4) (mAc (mCB gTup' (mAc (mC (.int 0)) (mAc (mC (.int 0)) (mAc (mC (.int 0)) (mA0))))) (mAc (mV 2) (mA0))))) (mCB gLst (mAc (mCB gTup' (mAc (mC (.int 2)) (mAc (mC (.int 1)) (mA0)))) (mA0)))) (op2 gNe (callM m_moves (mAc (mV 4) (mAc (mCB gTup' (mAc (mC (.int 0)) (mAc (mC (.int 0)) (mAc (mC (.int 1)) (mA0))))) (mAc (mV 2) (mA0))))) (mCB gLst (mAc (mCB gTup' (mAc (mC (.int 1)) (mAc (mC (.int 1)) (mA0)))) (mAc (mCB gTup' (mAc (mC (.int 2)) (mAc (op1 gNeg (mC (.int 1))) (mA0)))) (mAc (mCB gTup' (mAc (mC (.int 2)) (mAc (mC (.int 1)) (mA0)))) (mA0))))))) (retS' (mC (.bool false))) (nextS)) (seqS (asgN 1 5 (callM m_fewest (mAc (mV 4) (mAc (mCB gTup' (mAc (mC (.int 0)) (mAc (mC (.int 0)) (mAc (mC (.int 0)) (mA0))))) (mAc (mV 2) (mAc (mCB gTup' (mAc (mC (.int 2)) (mAc (mC (.int 0)) (mAc (mC (.int 0)) (mA0))))) (mA0))))))) (seqS (ifS (mOr (op2 gNe (mCB gLen (mAc (mV 5) mA0)) (mC (.int 6))) (mAnd (op2 gNe (mSl gSl (mV 5) (mNoPart) (mPart (mC (.int 3)))) (mCB gTup' (mAc (mCB gTup' (mAc (mC (.int 2)) (mAc (mC (.int 1)) (mA0)))) (mAc (mCB gTup' (mAc (mC (.int 1)) (mAc (mC (.int 1)) (mA0)))) (mAc (mCB gTup' (mAc (mC (.int 0)) (mAc (mC (.int 1)) (mA0)))) (mA0)))))) (op2 gNe (mSl gSl (mV 5) (mNoPart) (mPart (mC (.int 2)))) (mCB gTup' (mAc (mCB gTup' (mAc (mC (.int 2)) (mAc (mC (.int 1)) (mA0)))) (mAc (mCB gTup' (mAc (mC (.int 1)) (mAc (mC (.int 1)) (mA0)))) (mA0))))))) (retS' (mC (.bool false))) (nextS)) (seqS (ifS (mOr (op2 gNe (callM m_dead (mAc (mV 4) (mAc (mV 2) (mA0)))) (mCB gLst (mA0))) (mOr (op2 gNe (callM m_winds (mAc (mV 4) (mAc (mCB gTup' (mAc (mC (.int 0)) (mAc (mC (.int 0)) (mAc (mC (.int 2)) (mA0))))) (mA0)))) (mCB gLst (mAc (mCB gTup' (mAc (mC (.int 2)) (mAc (op1 gNeg (mC (.int 1))) (mA0)))) (mA0)))) (op2 gNe (callM m_winds (mAc (mV 4) (mAc (mCB gTup' (mAc (mC (.int 0)) (mAc (mC (.int 0)) (mAc (mC (.int 0)) (mA0))))) (mA0)))) (mCB gLst (mA0))))) (retS' (mC (.bool false))) (nextS)) (retS' (mAnd (op2 gEq (callM m_kept (mAc (mV 4) (mAc (mCB gTup' (mAc (mC (.int 1)) (mAc (mC (.int 0)) (mAc (mC (.int 2)) (mA0))))) (mA0)))) (mCB gTup' (mAc (mC (.bool false)) (mAc (mC (.bool true)) (mA0))))) (op2 gEq (callM m_kept (mAc (mV 4) (mAc (mCB gTup' (mAc (mC (.int 1)) (mAc (mC (.int 1)) (mAc (mC (.int 0)) (mA0))))) (mA0)))) (mCB gTup' (mAc (mC (.bool false)) (mAc (mC (.bool false)) (mA0)))))))))))))
def m__law_tall_right : EM := runQ 1 5 b__law_tall_right
end M
namespace K25
open PySem PySem.Spec L2 DL M
def b_law : SM := seqS (asgT (gTl 5 (gCs (gNm 1 1) (gCs (gNm 1 2) (gCs (gNm 1 3) (gCs (gNm 1 4) (gCs (gNm 1 5) (gNl))))))) (callM m__law_known mA0)) (seqS (forS (iSeq (mSl gSl (op2 gAdd (mCB gLst (mAc (mC (.int 0)) (mA0))) (mV 0)) (mNoPart) (mPart (mC (.int 4))))) (gNm 1 6) (seqS (asgN 1 7 (callM m__law_deck (mAc (mV 6) (mAc (mC (.int 25)) (mA0))))) (seqS (ifS (mNot (callM m__law_tall_right (mAc (op2 gEq (callM m__law_pick (mAr 7 (mAc (mC (.int 2)) (mA0)))) (mC (.int 1))) (mA0)))) (retS' (mC (.bool false))) (nextS)) (seqS (asgT (gTp 2 (gCs (gNm 1 8) (gCs (gNm 1 9) (gNl)))) (mIfE (op2 gEq (callM m__law_pick (mAr 7 (mAc (mC (.int 2)) (mA0)))) (mC (.int 1))) (mCB gTup' (mAc (callM m_exchanged (mAc (mV 1) (mA0))) (mAc (mC (.int 1)) (mA0)))) (mCB gTup' (mAc (mV 1) (mAc (mC (.int 0)) (mA0)))))) (seqS (ifS (op2 gNe (mCB gLst (mAc (callM m_farthest (mAc (mV 8) (mAc (mV 9) (mA0)))) (mAc (callM m_farthest (mAc (mV 8) (mAc (op2 gSub (mC (.int 1)) (mV 9)) (mA0)))) (mAc (callM m_dead (mAc (mV 8) (mAc (mV 9) (mA0)))) (mA0))))) (mCB gLst (mAc (mC (.int 3)) (mAc (mC (.int 0)) (mAc (mCB gLst (mA0)) (mA0)))))) (retS' (mC (.bool false))) (nextS)) (ifS (op2 gNe (callM m_fewest (mAc (mV 8) (mAc (mCB gTup' (mAc (mC (.int 0)) (mAc (mC (.int 0)) (mA0)))) (mAc (mV 9) (mAc (mCB gTup' (mAc (mC (.int 1)) (mAc (mC (.int 0)) (mA0)))) (mA0)))))) (mCB gTup' (mAc (mCB gTup' (mAc (mC (.int 1)) (mAc (mC (.int 1)) (mA0)))) (mAc (mCB gTup' (mAc (mC (.int 0)) (mAc (mC (.int 1)) (mA0)))) (mAc (mCB gTup' (mAc (mC (.int 1)) (mAc (op1 gNeg (mC (.int 1))) (mA0)))) (mA0)))))) (retS' (mC (.bool false))) (nextS))))))) (seqS (ifS (mOr (op2 gNe (callM m_harms (mAc (mCB gTup' (mAc (mV 1) (mAc (mV 4) (mA0)))) (mA0))) (mCB gLst (mA0))) (op2 gNe (callM m_harms (mAc (mCB gTup' (mAc (mV 2) (mAc (mV 5) (mA0)))) (mA0))) (mCB gLst (mAc (mC (.str "halted")) (mAc (mC (.str "out")) (mA0)))))) (retS' (mC (.bool false))) (nextS)) (seqS (ifS (op2 gNe (callM m_harms (mAc (mCB gTup' (mAc (mV 3) (mAc (mV 5) (mA0)))) (mA0))) (mCB gLst (mAc (mC (.str "halted")) (mAc (mC (.str "jammed")) (mA0))))) (retS' (mC (.bool false))) (nextS)) (seqS (ifS (op2 gNe (mCB gLst (mAc (callM m_calm_harms (mAc (mCB gTup' (mAc (mV 2) (mAc (mV 5) (mA0)))) (mA0))) (mAc (callM m_calm_harms (mAc (mCB gTup' (mAc (mV 3) (mAc (mV 5) (mA0)))) (mA0))) (mAc (callM m_dead (mAc (mV 3) (mAc (mC (.int 0)) (mA0)))) (mA0))))) (mCB gLst (mAc (mCB gLst (mA0)) (mAc (mCB gLst (mAc (mC (.str "halted")) (mA0))) (mAc (mCB gLst (mAc (mCB gTup' (mAc (mC (.int 0)) (mAc (mC (.int 1)) (mA0)))) (mAc (mCB gTup' (mAc (mC (.int 1)) (mAc (mC (.int 1)) (mA0)))) (mA0)))) (mA0)))))) (retS' (mC (.bool false))) (nextS)) (seqS (ifS (op2 gNe (callM m_first_history (mAc (mCB gTup' (mAc (mV 2) (mAc (mV 5) (mA0)))) (mAc (mC (.str "out")) (mA0)))) (mCB gTup' (mAc (mCB gTup' (mAc (mC (.str "habit")) (mAc (mC (.int 0)) (mA0)))) (mAc (mCB gTup' (mAc (mC (.str "out")) (mA0))) (mAc (mCB gTup' (mAc (mC (.str "wind")) (mAc (mC (.int 0)) (mAc (op1 gNeg (mC (.int 1))) (mA0))))) (mA0)))))) (retS' (mC (.bool false))) (nextS)) (seqS (ifS (mOr (op2 gNe (callM m_first_history (mAc (mCB gTup' (mAc (mV 3) (mAc (mV 5) (mA0)))) (mAc (mC (.str "jammed")) (mA0)))) (mCB gTup' (mAc (mCB gTup' (mAc (mC (.str "wind")) (mAc (mC (.int 1)) (mAc (mC (.int 1)) (mA0))))) (mA0)))) (op2 gNe (callM m_count_stands (mAc (mCB gTup' (mAc (mV 1) (mAc (mV 4) (mA0)))) (mA0))) (mC (.int 3)))) (retS' (mC (.bool false))) (nextS)) (seqS (ifS (op2 gNe (mCB gLst (mAc (callM m_sure_steps (mAc (mV 1) (mAc (mC (.str "dry")) (mA0)))) (mAc (callM m_sure_steps (mAc (mV 1) (mAc (mC (.str "flyless")) (mA0)))) (mA0)))) (mCB gLst (mAc (mCB gLst (mAc (mCB gTup' (mAc (mCB gTup' (mAc (mC (.int 1)) (mAc (mC (.int 1)) (mA0)))) (mAc (mCB gTup' (mAc (mC (.int 0)) (mAc (mC (.int 0)) (mA0)))) (mA0)))) (mA0))) (mAc (mCB gLst (mAc (mCB gTup' (mAc (mCB gTup' (mAc (mC (.int 0)) (mAc (mC (.int 0)) (mA0)))) (mA0))) (mAc (mCB gTup' (mAc (mCB gTup' (mAc (mC (.int 1)) (mAc (mC (.int 0)) (mA0)))) (mA0))) (mA0)))) (mA0))))) (retS' (mC (.bool false))) (nextS)) (seqS (ifS (op2 gNe (mCB gLst (mAc (callM m_sure_steps (mAc (mV 1) (mAc (mC (.str "none")) (mA0)))) (mAc (callM m_sure_steps (mAc (callM m_exchanged (mAc (mV 1) (mA0))) (mAc (mC (.str "dry")) (mA0)))) (mAc (callM m_idle_bars (mAc (mV 1) (mA0))) (mA0))))) (mCB gLst (mAc (mCB gLst (mAc (mCB gTup' (mA0)) (mA0))) (mAc (mCB gLst (mA0)) (mAc (mCB gLst (mA0)) (mA0)))))) (retS' (mC (.bool false))) (nextS)) (retS' (mAnd (op2 gEq (mCB gLen (mAc (callM m_bar_changes (mAc (mV 1) (mA0))) mA0)) (mC (.int 4))) (op2 gEq (callM m_parting (mAc (mV 1) (mAc (mCB gTup' (mAc (op2 gIx (mV 1) (mC (.int 0))) (mAc (mCB gTup' (mA0)) (mA0)))) (mA0)))) (mCB gTup' (mAc (mCB gTup' (mAc (mC (.str "hand")) (mAc (mC (.int 0)) (mAc (mC (.int 0)) (mAc (mC (.int 1)) (mA0)))))) (mA0))))))))))))))
def m_law : EM := runQ 1 9 b_law
end K25

namespace M
open PySem PySem.Spec L2 DL
def sbitten : Str := ⟨#[98, 105, 116, 116, 101, 110]⟩
theorem sbitten_eq : Str.ofString "bitten" = sbitten := by kernel_rfl
def sboth : Str := ⟨#[98, 111, 116, 104]⟩
theorem sboth_eq : Str.ofString "both" = sboth := by kernel_rfl
def sdry : Str := ⟨#[100, 114, 121]⟩
theorem sdry_eq : Str.ofString "dry" = sdry := by kernel_rfl
def sflyless : Str := ⟨#[102, 108, 121, 108, 101, 115, 115]⟩
theorem sflyless_eq : Str.ofString "flyless" = sflyless := by kernel_rfl
def shabit : Str := ⟨#[104, 97, 98, 105, 116]⟩
theorem shabit_eq : Str.ofString "habit" = shabit := by kernel_rfl
def shalted : Str := ⟨#[104, 97, 108, 116, 101, 100]⟩
theorem shalted_eq : Str.ofString "halted" = shalted := by kernel_rfl
def shand : Str := ⟨#[104, 97, 110, 100]⟩
theorem shand_eq : Str.ofString "hand" = shand := by kernel_rfl
def sin : Str := ⟨#[105, 110]⟩
theorem sin_eq : Str.ofString "in" = sin := by kernel_rfl
def sjammed : Str := ⟨#[106, 97, 109, 109, 101, 100]⟩
theorem sjammed_eq : Str.ofString "jammed" = sjammed := by kernel_rfl
def snone : Str := ⟨#[110, 111, 110, 101]⟩
theorem snone_eq : Str.ofString "none" = snone := by kernel_rfl
def sopens : Str := ⟨#[111, 112, 101, 110, 115]⟩
theorem sopens_eq : Str.ofString "opens" = sopens := by kernel_rfl
def sout : Str := ⟨#[111, 117, 116]⟩
theorem sout_eq : Str.ofString "out" = sout := by kernel_rfl
def sshuts : Str := ⟨#[115, 104, 117, 116, 115]⟩
theorem sshuts_eq : Str.ofString "shuts" = sshuts := by kernel_rfl
def sstill : Str := ⟨#[115, 116, 105, 108, 108]⟩
theorem sstill_eq : Str.ofString "still" = sstill := by kernel_rfl
def swet : Str := ⟨#[119, 101, 116]⟩
theorem swet_eq : Str.ofString "wet" = swet := by kernel_rfl
def swind : Str := ⟨#[119, 105, 110, 100]⟩
theorem swind_eq : Str.ofString "wind" = swind := by kernel_rfl
def swithin : Str := ⟨#[119, 105, 116, 104, 105, 110]⟩
theorem swithin_eq : Str.ofString "within" = swithin := by kernel_rfl
def swithout : Str := ⟨#[119, 105, 116, 104, 111, 117, 116]⟩
theorem swithout_eq : Str.ofString "without" = swithout := by kernel_rfl
def F_HANDS : D := .tuple [.str sboth, .str swithin, .str swithout]
theorem F_HANDS_eq : F_HANDS = c_HANDS := by
  unfold F_HANDS c_HANDS
  simp only [sboth_eq, swithin_eq, swithout_eq]
def F_WINDS : D := .tuple [.str sboth, .str sopens, .str sshuts, .str sstill]
theorem F_WINDS_eq : F_WINDS = c_WINDS := by
  unfold F_WINDS c_WINDS
  simp only [sboth_eq, sopens_eq, sshuts_eq, sstill_eq]
def F_WISHES : D := .tuple [.str sboth, .str sdry, .str sflyless, .str snone]
theorem F_WISHES_eq : F_WISHES = c_WISHES := by
  unfold F_WISHES c_WISHES
  simp only [sboth_eq, sdry_eq, sflyless_eq, snone_eq]
def F_PLACES : D := .tuple [.str swithin, .str swithout]
theorem F_PLACES_eq : F_PLACES = c_PLACES := by
  unfold F_PLACES c_PLACES
  simp only [swithin_eq, swithout_eq]
def F_HARMS : D := .tuple [.str sbitten, .str shalted, .str sjammed, .str sout, .str swet]
theorem F_HARMS_eq : F_HARMS = c_HARMS := by
  unfold F_HARMS c_HARMS
  simp only [sbitten_eq, shalted_eq, sjammed_eq, sout_eq, swet_eq]
def Fb_is_within : SM := retS' (mAnd (op1 (gIsi "int") (mV 0)) (mAnd (mNot (op1 (gIsi "bool") (mV 0))) (mChain gLe gLe (mV 1) (mV 0) (mV 2))))
theorem Fb_is_within_eq : Fb_is_within = b_is_within := by
  unfold Fb_is_within b_is_within
  rfl
def F_is_within : EM := runF 3 0 Fb_is_within
theorem F_is_within_eq : F_is_within = m_is_within := by
  unfold F_is_within m_is_within
  rw [runF_eq, Fb_is_within_eq]
def Fb_is_word : SM := retS' (mAnd (op1 (gIsi "str") (mV 0)) (op2 (gIn false) (mV 0) (mV 1)))
theorem Fb_is_word_eq : Fb_is_word = b_is_word := by
  unfold Fb_is_word b_is_word
  rfl
def F_is_word : EM := runF 2 0 Fb_is_word
theorem F_is_word_eq : F_is_word = m_is_word := by
  unfold F_is_word m_is_word
  rw [runF_eq, Fb_is_word_eq]
def Fb_is_layer : SM := seqS (ifS (mOr (mNot (op1 (gIsi "tuple") (mV 0))) (mOr (op2 gNe (mCB gLen (mAc (mV 0) mA0)) (mC (.int 5))) (mNot (callM F_is_within (mAc (op2 gIx (mV 0) (mC (.int 0))) (mAc (mC (.int 1)) (mAc (mC (.int 2)) (mA0)))))))) (retS' (mC (.bool false))) (nextS)) (seqS (ifS (mOr (mNot (callM F_is_within (mAc (op2 gIx (mV 0) (mC (.int 1))) (mAc (op1 gNeg (mC (.int 1))) (mAc (op2 gIx (mV 0) (mC (.int 0))) (mA0)))))) (mNot (callM F_is_within (mAc (op2 gIx (mV 0) (mC (.int 2))) (mAc (op1 gNeg (mC (.int 1))) (mAc (op2 gIx (mV 0) (mC (.int 0))) (mA0))))))) (retS' (mC (.bool false))) (nextS)) (retS' (mAnd (callM F_is_word (mAc (op2 gIx (mV 0) (mC (.int 3))) (mAc (mC F_HANDS) (mA0)))) (callM F_is_word (mAc (op2 gIx (mV 0) (mC (.int 4))) (mAc (mC F_WINDS) (mA0)))))))
theorem Fb_is_layer_eq : Fb_is_layer = b_is_layer := by
  unfold Fb_is_layer b_is_layer
  simp only [F_is_within_eq, F_is_word_eq, F_HANDS_eq, F_WINDS_eq]
def F_is_layer : EM := runF 1 0 Fb_is_layer
theorem F_is_layer_eq : F_is_layer = m_is_layer := by
  unfold F_is_layer m_is_layer
  rw [runF_eq, Fb_is_layer_eq]
def Fb_is_bar : SM := seqS (ifS (mOr (mNot (op1 (gIsi "tuple") (mV 1))) (mOr (op2 gNe (mCB gLen (mAc (mV 1) mA0)) (mC (.int 4))) (mNot (callM F_is_within (mAc (op2 gIx (mV 1) (mC (.int 0))) (mAc (mC (.int 0)) (mAc (op2 gSub (mCB gLen (mAc (mV 0) mA0)) (mC (.int 1))) (mA0)))))))) (retS' (mC (.bool false))) (nextS)) (seqS (ifS (mOr (mNot (callM F_is_within (mAc (op2 gIx (mV 1) (mC (.int 1))) (mAc (mC (.int 0)) (mAc (op2 gSub (mCB gLen (mAc (mV 0) mA0)) (mC (.int 1))) (mA0)))))) (op2 gEq (op2 gIx (mV 1) (mC (.int 1))) (op2 gIx (mV 1) (mC (.int 0))))) (retS' (mC (.bool false))) (nextS)) (seqS (asgN 2 2 (op2 gIx (op2 gIx (mV 0) (op2 gIx (mV 1) (mC (.int 1)))) (mC (.int 0)))) (seqS (ifS (mOr (mNot (callM F_is_within (mAc (op2 gIx (mV 1) (mC (.int 2))) (mAc (mC (.int 0)) (mAc (mV 2) (mA0)))))) (mNot (callM F_is_within (mAc (op2 gIx (mV 1) (mC (.int 3))) (mAc (op2 gIx (mV 1) (mC (.int 2))) (mAc (mV 2) (mA0))))))) (retS' (mC (.bool false))) (nextS)) (retS' (mOr (op2 gGt (op2 gIx (mV 1) (mC (.int 2))) (mC (.int 0))) (op2 gLt (op2 gIx (mV 1) (mC (.int 3))) (mV 2)))))))
theorem Fb_is_bar_eq : Fb_is_bar = b_is_bar := by
  unfold Fb_is_bar b_is_bar
  simp only [F_is_within_eq]
def F_is_bar : EM := runF 2 1 Fb_is_bar
theorem F_is_bar_eq : F_is_bar = m_is_bar := by
  unfold F_is_bar m_is_bar
  rw [runF_eq, Fb_is_bar_eq]
def Fb_is_window_value : SM := seqS (ifS (mOr (mNot (op1 (gIsi "tuple") (mV 0))) (mOr (op2 gNe (mCB gLen (mAc (mV 0) mA0)) (mC (.int 2))) (mNot (op1 (gIsi "tuple") (op2 gIx (mV 0) (mC (.int 0))))))) (retS' (mC (.bool false))) (nextS)) (seqS (asgT (gTp 2 (gCs (gNm 1 1) (gCs (gNm 1 2) (gNl)))) (mV 0)) (seqS (ifS (mOr (mNot (mChain gLe gLe (mC (.int 2)) (mCB gLen (mAc (mV 1) mA0)) (mC (.int 4)))) (mNot (mCB gAll (mAc (compE false (iSeq (mV 1)) (gNm 1 3) (mYes) (callM F_is_layer (mAc (mV 3) (mA0))) [3]) mA0)))) (retS' (mC (.bool false))) (nextS)) (seqS (ifS (mOr (mNot (op1 (gIsi "tuple") (mV 2))) (mOr (op2 gGt (mCB gLen (mAc (mV 2) mA0)) (mC (.int 6))) (mNot (mCB gAll (mAc (compE false (iSeq (mV 2)) (gNm 1 3) (mYes) (callM F_is_bar (mAc (mV 1) (mAc (mV 3) (mA0)))) [3]) mA0))))) (retS' (mC (.bool false))) (nextS)) (retS' (mCB gAll (mAc (compE false (iCB gZip (mAc (mV 2) (mAc (mSl gSl (mV 2) (mPart (mC (.int 1))) (mNoPart)) (mA0)))) (gTp 2 (gCs (gNm 1 3) (gCs (gNm 1 4) (gNl)))) (mYes) (op2 gLt (mV 3) (mV 4)) [3, 4]) mA0))))))
theorem Fb_is_window_value_eq : Fb_is_window_value = b_is_window_value := by
  unfold Fb_is_window_value b_is_window_value
  simp only [F_is_layer_eq, F_is_bar_eq]
def F_is_window_value : EM := runF 1 4 Fb_is_window_value
theorem F_is_window_value_eq : F_is_window_value = m_is_window_value := by
  unfold F_is_window_value m_is_window_value
  rw [runF_eq, Fb_is_window_value_eq]
def Fb_is_step : SM := seqS (ifS (mOr (mNot (op1 (gIsi "tuple") (mV 1))) (mOr (op2 gNe (mCB gLen (mAc (mV 1) mA0)) (mC (.int 2))) (mNot (callM F_is_within (mAc (op2 gIx (mV 1) (mC (.int 0))) (mAc (mC (.int 0)) (mAc (op2 gSub (mCB gLen (mAc (mV 0) mA0)) (mC (.int 1))) (mA0)))))))) (retS' (mC (.bool false))) (nextS)) (retS' (callM F_is_within (mAc (op2 gIx (mV 1) (mC (.int 1))) (mAc (mC (.int 0)) (mAc (op2 gIx (op2 gIx (mV 0) (op2 gIx (mV 1) (mC (.int 0)))) (mC (.int 0))) (mA0))))))
theorem Fb_is_step_eq : Fb_is_step = b_is_step := by
  unfold Fb_is_step b_is_step
  simp only [F_is_within_eq]
def F_is_step : EM := runF 2 0 Fb_is_step
theorem F_is_step_eq : F_is_step = m_is_step := by
  unfold F_is_step m_is_step
  rw [runF_eq, Fb_is_step_eq]
def Fb_is_habit : SM := seqS (ifS (mOr (mNot (op1 (gIsi "tuple") (mV 1))) (mOr (op2 gNe (mCB gLen (mAc (mV 1) mA0)) (mC (.int 2))) (mNot (op1 (gIsi "tuple") (op2 gIx (mV 1) (mC (.int 0))))))) (retS' (mC (.bool false))) (nextS)) (seqS (ifS (mOr (op2 gGt (mCB gLen (mAc (op2 gIx (mV 1) (mC (.int 0))) mA0)) (mC (.int 5))) (mNot (mCB gAll (mAc (compE false (iSeq (op2 gIx (mV 1) (mC (.int 0)))) (gNm 2 2) (mYes) (callM F_is_step (mAc (mV 0) (mAc (mV 2) (mA0)))) [2]) mA0)))) (retS' (mC (.bool false))) (nextS)) (retS' (callM F_is_word (mAc (op2 gIx (mV 1) (mC (.int 1))) (mAc (mC F_WISHES) (mA0))))))
theorem Fb_is_habit_eq : Fb_is_habit = b_is_habit := by
  unfold Fb_is_habit b_is_habit
  simp only [F_is_word_eq, F_is_step_eq, F_WISHES_eq]
def F_is_habit : EM := runF 2 1 Fb_is_habit
theorem F_is_habit_eq : F_is_habit = m_is_habit := by
  unfold F_is_habit m_is_habit
  rw [runF_eq, Fb_is_habit_eq]
def Fb_is_house_value : SM := seqS (ifS (mOr (mNot (op1 (gIsi "tuple") (mV 0))) (mOr (op2 gNe (mCB gLen (mAc (mV 0) mA0)) (mC (.int 2))) (mNot (callM F_is_window_value (mAc (op2 gIx (mV 0) (mC (.int 0))) (mA0)))))) (retS' (mC (.bool false))) (nextS)) (seqS (ifS (mOr (mNot (op1 (gIsi "tuple") (op2 gIx (mV 0) (mC (.int 1))))) (mNot (mChain gLe gLe (mC (.int 1)) (mCB gLen (mAc (op2 gIx (mV 0) (mC (.int 1))) mA0)) (mC (.int 3))))) (retS' (mC (.bool false))) (nextS)) (retS' (mCB gAll (mAc (compE false (iSeq (op2 gIx (mV 0) (mC (.int 1)))) (gNm 1 1) (mYes) (callM F_is_habit (mAc (op2 gIx (op2 gIx (mV 0) (mC (.int 0))) (mC (.int 0))) (mAc (mV 1) (mA0)))) [1]) mA0))))
theorem Fb_is_house_value_eq : Fb_is_house_value = b_is_house_value := by
  unfold Fb_is_house_value b_is_house_value
  simp only [F_is_window_value_eq, F_is_habit_eq]
def F_is_house_value : EM := runF 1 1 Fb_is_house_value
theorem F_is_house_value_eq : F_is_house_value = m_is_house_value := by
  unfold F_is_house_value m_is_house_value
  rw [runF_eq, Fb_is_house_value_eq]
def Fb_is_settings_value : SM := seqS (ifS (mOr (mNot (op1 (gIsi "tuple") (mV 1))) (op2 gNe (mCB gLen (mAc (mV 1) mA0)) (mCB gLen (mAc (op2 gIx (mV 0) (mC (.int 0))) mA0)))) (retS' (mC (.bool false))) (nextS)) (retS' (mCB gAll (mAc (compE false (iCB gZip (mAc (mV 1) (mAc (op2 gIx (mV 0) (mC (.int 0))) (mA0)))) (gTp 2 (gCs (gNm 2 2) (gCs (gNm 2 3) (gNl)))) (mYes) (callM F_is_within (mAc (mV 2) (mAc (mC (.int 0)) (mAc (op2 gIx (mV 3) (mC (.int 0))) (mA0))))) [2, 3]) mA0)))
theorem Fb_is_settings_value_eq : Fb_is_settings_value = b_is_settings_value := by
  unfold Fb_is_settings_value b_is_settings_value
  simp only [F_is_within_eq]
def F_is_settings_value : EM := runF 2 2 Fb_is_settings_value
theorem F_is_settings_value_eq : F_is_settings_value = m_is_settings_value := by
  unfold F_is_settings_value m_is_settings_value
  rw [runF_eq, Fb_is_settings_value_eq]
def Fb_need_window : SM := ifS (mNot (callM F_is_window_value (mAc (mV 0) (mA0)))) (failS) (nextS)
theorem Fb_need_window_eq : Fb_need_window = b_need_window := by
  unfold Fb_need_window b_need_window
  simp only [F_is_window_value_eq]
def F_need_window : EM := runF 1 0 Fb_need_window
theorem F_need_window_eq : F_need_window = m_need_window := by
  unfold F_need_window m_need_window
  rw [runF_eq, Fb_need_window_eq]
def Fb_need_house : SM := ifS (mNot (callM F_is_house_value (mAc (mV 0) (mA0)))) (failS) (nextS)
theorem Fb_need_house_eq : Fb_need_house = b_need_house := by
  unfold Fb_need_house b_need_house
  simp only [F_is_house_value_eq]
def F_need_house : EM := runF 1 0 Fb_need_house
theorem F_need_house_eq : F_need_house = m_need_house := by
  unfold F_need_house m_need_house
  rw [runF_eq, Fb_need_house_eq]
def Fb_need_settings : SM := ifS (mNot (callM F_is_settings_value (mAc (mV 0) (mAc (mV 1) (mA0))))) (failS) (nextS)
theorem Fb_need_settings_eq : Fb_need_settings = b_need_settings := by
  unfold Fb_need_settings b_need_settings
  simp only [F_is_settings_value_eq]
def F_need_settings : EM := runF 2 0 Fb_need_settings
theorem F_need_settings_eq : F_need_settings = m_need_settings := by
  unfold F_need_settings m_need_settings
  rw [runF_eq, Fb_need_settings_eq]
def Fb_need_place : SM := ifS (mNot (callM F_is_within (mAc (mV 0) (mAc (mC (.int 0)) (mAc (mC (.int 1)) (mA0)))))) (failS) (nextS)
theorem Fb_need_place_eq : Fb_need_place = b_need_place := by
  unfold Fb_need_place b_need_place
  simp only [F_is_within_eq]
def F_need_place : EM := runF 1 0 Fb_need_place
theorem F_need_place_eq : F_need_place = m_need_place := by
  unfold F_need_place m_need_place
  rw [runF_eq, Fb_need_place_eq]
def Fb_all_settings : SM := seqS (asgN 1 1 (mCB gLst (mAc (mCB gTup' (mA0)) (mA0)))) (seqS (forF (iSeq (op2 gIx (mV 0) (mC (.int 0)))) (gNm 1 2) (asgN 1 1 (compE2 false (iSeq (mV 1)) (gNm 1 3) (mYes) (iCB gRng1 (mAc (op2 gAdd (op2 gIx (mV 2) (mC (.int 0))) (mC (.int 1))) (mA0))) (gNm 1 4) (mYes) (op2 gAdd (mV 3) (mCB gTup' (mAc (mV 4) (mA0)))) [3, 4] [4]))) (retS' (mV 1)))
theorem Fb_all_settings_eq : Fb_all_settings = b_all_settings := by
  unfold Fb_all_settings b_all_settings
  simp only [forF_eq]
def F_all_settings : EM := runF 1 4 Fb_all_settings
theorem F_all_settings_eq : F_all_settings = m_all_settings := by
  unfold F_all_settings m_all_settings
  rw [runF_eq, Fb_all_settings_eq]
def Fb_shut_of : SM := retS' (op2 gRepT (mCB gTup' (mAc (mC (.int 0)) (mA0))) (mCB gLen (mAc (op2 gIx (mV 0) (mC (.int 0))) mA0)))
theorem Fb_shut_of_eq : Fb_shut_of = b_shut_of := by
  unfold Fb_shut_of b_shut_of
  rfl
def F_shut_of : EM := runF 1 0 Fb_shut_of
theorem F_shut_of_eq : F_shut_of = m_shut_of := by
  unfold F_shut_of m_shut_of
  rw [runF_eq, Fb_shut_of_eq]
def Fb_open_of : SM := retS' (mCB gTuple (mAc (compE false (iSeq (op2 gIx (mV 0) (mC (.int 0)))) (gNm 1 1) (mYes) (op2 gIx (mV 1) (mC (.int 0))) [1]) mA0))
theorem Fb_open_of_eq : Fb_open_of = b_open_of := by
  unfold Fb_open_of b_open_of
  rfl
def F_open_of : EM := runF 1 1 Fb_open_of
theorem F_open_of_eq : F_open_of = m_open_of := by
  unfold F_open_of m_open_of
  rw [runF_eq, Fb_open_of_eq]
def Fb_kept_by : SM := seqS (asgN 2 2 (mCB gAny (mAc (compE false (iCB gZip (mAc (mV 1) (mAc (op2 gIx (mV 0) (mC (.int 0))) (mA0)))) (gTp 2 (gCs (gNm 2 3) (gCs (gNm 2 4) (gNl)))) (mYes) (op2 gLe (mV 3) (op2 gIx (mV 4) (mC (.int 1)))) [3, 4]) mA0))) (retS' (mCB gTup' (mAc (mV 2) (mAc (mCB gAny (mAc (compE false (iCB gZip (mAc (mV 1) (mAc (op2 gIx (mV 0) (mC (.int 0))) (mA0)))) (gTp 2 (gCs (gNm 2 3) (gCs (gNm 2 4) (gNl)))) (mYes) (op2 gLe (mV 3) (op2 gIx (mV 4) (mC (.int 2)))) [3, 4]) mA0)) (mA0)))))
theorem Fb_kept_by_eq : Fb_kept_by = b_kept_by := by
  unfold Fb_kept_by b_kept_by
  rfl
def F_kept_by : EM := runF 2 3 Fb_kept_by
theorem F_kept_by_eq : F_kept_by = m_kept_by := by
  unfold F_kept_by m_kept_by
  rw [runF_eq, Fb_kept_by_eq]
def Fb_exchanged_so : SM := seqS (asgN 1 1 (mDK [.inr swithin, .inr swithout] [mC (.str swithout), mC (.str swithin)])) (retS' (mCB gTup' (mAc (mCB gTuple (mAc (compE false (iSeq (op2 gIx (mV 0) (mC (.int 0)))) (gNm 1 2) (mYes) (op2 gAdd (mSl gSl (mV 2) (mNoPart) (mPart (mC (.int 3)))) (mCB gTup' (mAc (mS1x 1 (op2 gIx (mV 2) (mC (.int 3))) (op2 gIx (mV 2) (mC (.int 3))) gDg2) (mAc (op2 gIx (mV 2) (mC (.int 4))) (mA0))))) [2]) mA0)) (mAc (op2 gIx (mV 0) (mC (.int 1))) (mA0)))))
theorem Fb_exchanged_so_eq : Fb_exchanged_so = b_exchanged_so := by
  unfold Fb_exchanged_so b_exchanged_so
  simp only [swithin_eq, swithout_eq]
def F_exchanged_so : EM := runF 1 2 Fb_exchanged_so
theorem F_exchanged_so_eq : F_exchanged_so = m_exchanged_so := by
  unfold F_exchanged_so m_exchanged_so
  rw [runF_eq, Fb_exchanged_so_eq]
def Fb_kept : SM := seqS (dropS (callM F_need_window (mAc (mV 0) (mA0)))) (seqS (dropS (callM F_need_settings (mAc (mV 0) (mAc (mV 1) (mA0))))) (retS' (callM F_kept_by (mAc (mV 0) (mAc (mV 1) (mA0))))))
theorem Fb_kept_eq : Fb_kept = b_kept := by
  unfold Fb_kept b_kept
  simp only [F_need_window_eq, F_need_settings_eq, F_kept_by_eq]
def F_kept : EM := runF 2 0 Fb_kept
theorem F_kept_eq : F_kept = m_kept := by
  unfold F_kept m_kept
  rw [runF_eq, Fb_kept_eq]
def Fb_exchanged : SM := seqS (dropS (callM F_need_window (mAc (mV 0) (mA0)))) (retS' (callM F_exchanged_so (mAc (mV 0) (mA0))))
theorem Fb_exchanged_eq : Fb_exchanged = b_exchanged := by
  unfold Fb_exchanged b_exchanged
  simp only [F_need_window_eq, F_exchanged_so_eq]
def F_exchanged : EM := runF 1 0 Fb_exchanged
theorem F_exchanged_eq : F_exchanged = m_exchanged := by
  unfold F_exchanged m_exchanged
  rw [runF_eq, Fb_exchanged_eq]
def Fb_is_free : SM := retS' (mCB gAll (mAc (compE false (iSeq (op2 gIx (mV 0) (mC (.int 1)))) (gTp 4 (gCs (gNm 3 3) (gCs (gNm 3 4) (gCs (gNm 3 5) (gCs (gNm 3 6) (gNl)))))) (op2 gEq (mV 3) (mV 2)) (mChain gLe gLe (mV 5) (op2 gIx (mV 1) (mV 4)) (mV 6)) [3, 4, 5, 6]) mA0))
theorem Fb_is_free_eq : Fb_is_free = b_is_free := by
  unfold Fb_is_free b_is_free
  rfl
def F_is_free : EM := runF 3 4 Fb_is_free
theorem F_is_free_eq : F_is_free = m_is_free := by
  unfold F_is_free m_is_free
  rw [runF_eq, Fb_is_free_eq]
def Fb_with_step : SM := retS' (op2 gAdd (op2 gAdd (mSl gSl (mV 0) (mNoPart) (mPart (mV 1))) (mCB gTup' (mAc (op2 gAdd (op2 gIx (mV 0) (mV 1)) (mV 2)) (mA0)))) (mSl gSl (mV 0) (mPart (op2 gAdd (mV 1) (mC (.int 1)))) (mNoPart)))
theorem Fb_with_step_eq : Fb_with_step = b_with_step := by
  unfold Fb_with_step b_with_step
  rfl
def F_with_step : EM := runF 3 0 Fb_with_step
theorem F_with_step_eq : F_with_step = m_with_step := by
  unfold F_with_step m_with_step
  rw [runF_eq, Fb_with_step_eq]
def Fb_can_step : SM := retS' (mAnd (mChain gLe gLe (mC (.int 0)) (op2 gAdd (op2 gIx (mV 1) (mV 2)) (mV 3)) (op2 gIx (op2 gIx (op2 gIx (mV 0) (mC (.int 0))) (mV 2)) (mC (.int 0)))) (callM F_is_free (mAc (mV 0) (mAc (mV 1) (mAc (mV 2) (mA0))))))
theorem Fb_can_step_eq : Fb_can_step = b_can_step := by
  unfold Fb_can_step b_can_step
  simp only [F_is_free_eq]
def F_can_step : EM := runF 4 0 Fb_can_step
theorem F_can_step_eq : F_can_step = m_can_step := by
  unfold F_can_step m_can_step
  rw [runF_eq, Fb_can_step_eq]
def Fb_has_hand : SM := retS' (op2 (gIn false) (op2 gIx (op2 gIx (op2 gIx (mV 0) (mC (.int 0))) (mV 1)) (mC (.int 3))) (mCB gTup' (mAc (mC (.str sboth)) (mAc (op2 gIx (mC F_PLACES) (mV 2)) (mA0)))))
theorem Fb_has_hand_eq : Fb_has_hand = b_has_hand := by
  unfold Fb_has_hand b_has_hand
  simp only [sboth_eq, F_PLACES_eq]
def F_has_hand : EM := runF 3 0 Fb_has_hand
theorem F_has_hand_eq : F_has_hand = m_has_hand := by
  unfold F_has_hand m_has_hand
  rw [runF_eq, Fb_has_hand_eq]
def Fb_hand_moves : SM := seqS (asgN 3 3 (compE false (iCB gRng1 (mAc (mCB gLen (mAc (mV 1) mA0)) (mA0))) (gNm 3 4) (callM F_has_hand (mAc (mV 0) (mAc (mV 4) (mAc (mV 2) (mA0))))) (mV 4) [4])) (retS' (compE2 false (iSeq (mV 3)) (gNm 3 4) (mYes) (iSeq (mCB gTup' (mAc (op1 gNeg (mC (.int 1))) (mAc (mC (.int 1)) (mA0))))) (gNm 3 5) (callM F_can_step (mAc (mV 0) (mAc (mV 1) (mAc (mV 4) (mAc (mV 5) (mA0)))))) (mCB gTup' (mAc (mV 4) (mAc (mV 5) (mA0)))) [4, 5] [5]))
theorem Fb_hand_moves_eq : Fb_hand_moves = b_hand_moves := by
  unfold Fb_hand_moves b_hand_moves
  simp only [F_can_step_eq, F_has_hand_eq]
def F_hand_moves : EM := runF 3 3 Fb_hand_moves
theorem F_hand_moves_eq : F_hand_moves = m_hand_moves := by
  unfold F_hand_moves m_hand_moves
  rw [runF_eq, Fb_hand_moves_eq]
def Fb_wind_moves : SM := seqS (asgN 2 2 (mCB gLst (mA0))) (seqS (forF (iCB gRng1 (mAc (mCB gLen (mAc (mV 1) mA0)) (mA0))) (gNm 2 3) (seqS (asgN 2 4 (op2 gIx (op2 gIx (op2 gIx (mV 0) (mC (.int 0))) (mV 3)) (mC (.int 4)))) (seqS (asgN 2 5 (mF1x (mDK [.inr sboth, .inr sopens, .inr sshuts] [mCB gTup' (mAc (op1 gNeg (mC (.int 1))) (mAc (mC (.int 1)) (mA0))), mCB gTup' (mAc (mC (.int 1)) (mA0)), mCB gTup' (mAc (op1 gNeg (mC (.int 1))) (mA0))]) (mV 4) (mCB gTup' (mA0)) gDg2)) (asgN 2 2 (op2 gAdd (mV 2) (compE false (iSeq (mV 5)) (gNm 2 6) (callM F_can_step (mAc (mV 0) (mAc (mV 1) (mAc (mV 3) (mAc (mV 6) (mA0)))))) (mCB gTup' (mAc (mV 3) (mAc (mV 6) (mA0)))) [6])))))) (retS' (mV 2)))
theorem Fb_wind_moves_eq : Fb_wind_moves = b_wind_moves := by
  unfold Fb_wind_moves b_wind_moves
  simp only [forF_eq, F_can_step_eq, sboth_eq, sopens_eq, sshuts_eq]
def F_wind_moves : EM := runF 2 5 Fb_wind_moves
theorem F_wind_moves_eq : F_wind_moves = m_wind_moves := by
  unfold F_wind_moves m_wind_moves
  rw [runF_eq, Fb_wind_moves_eq]
def Fb_ways_from : SM := seqS (parS 3 [3, 4, 5] [mDN1 (mV 1) (mCB gTup' (mA0)), mCB gLstO (mAc (mV 1) (mA0)), mC (.int 0)]) (seqS (whileF (op2 gLt (mV 5) (mOlen 4)) (seqS (asgN 3 6 (mOix 4 (mV 5))) (seqS (augI 3 5 (mC (.int 1))) (forF (iSeq (callM F_hand_moves (mAc (mV 0) (mAc (mV 6) (mAc (mV 2) (mA0)))))) (gTp 2 (gCs (gNm 3 7) (gCs (gNm 3 8) (gNl)))) (seqS (asgN 3 9 (callM F_with_step (mAc (mV 6) (mAc (mV 7) (mAc (mV 8) (mA0)))))) (ifS (mS2 3 (mV 9) (gDin true)) (seqS (dSet 3 (op2 gAdd (mS1 3 (mV 6) gDix) (mCB gTup' (mAc (mCB gTup' (mAc (mV 7) (mAc (mV 8) (mA0)))) (mA0)))) (mV 9)) (appO 4 (mV 9))) (nextS)))))) 5000) (retO 3 3))
theorem Fb_ways_from_eq : Fb_ways_from = b_ways_from := by
  unfold Fb_ways_from b_ways_from
  simp only [whileF_eq, forF_eq, F_with_step_eq, F_hand_moves_eq]
def F_ways_from : EM := runF 3 7 Fb_ways_from
theorem F_ways_from_eq : F_ways_from = m_ways_from := by
  unfold F_ways_from m_ways_from
  rw [runF_eq, Fb_ways_from_eq]
def Fb_need_all : SM := seqS (dropS (callM F_need_window (mAc (mV 0) (mA0)))) (seqS (dropS (callM F_need_settings (mAc (mV 0) (mAc (mV 1) (mA0))))) (dropS (callM F_need_place (mAc (mV 2) (mA0)))))
theorem Fb_need_all_eq : Fb_need_all = b_need_all := by
  unfold Fb_need_all b_need_all
  simp only [F_need_window_eq, F_need_settings_eq, F_need_place_eq]
def F_need_all : EM := runF 3 0 Fb_need_all
theorem F_need_all_eq : F_need_all = m_need_all := by
  unfold F_need_all m_need_all
  rw [runF_eq, Fb_need_all_eq]
def Fb_moves : SM := seqS (dropS (callM F_need_all (mAc (mV 0) (mAc (mV 1) (mAc (mV 2) (mA0)))))) (retS' (callM F_hand_moves (mAc (mV 0) (mAc (mV 1) (mAc (mV 2) (mA0))))))
theorem Fb_moves_eq : Fb_moves = b_moves := by
  unfold Fb_moves b_moves
  simp only [F_hand_moves_eq, F_need_all_eq]
def F_moves : EM := runF 3 0 Fb_moves
theorem F_moves_eq : F_moves = m_moves := by
  unfold F_moves m_moves
  rw [runF_eq, Fb_moves_eq]
def Fb_winds : SM := seqS (dropS (callM F_need_window (mAc (mV 0) (mA0)))) (seqS (dropS (callM F_need_settings (mAc (mV 0) (mAc (mV 1) (mA0))))) (retS' (callM F_wind_moves (mAc (mV 0) (mAc (mV 1) (mA0))))))
theorem Fb_winds_eq : Fb_winds = b_winds := by
  unfold Fb_winds b_winds
  simp only [F_need_window_eq, F_need_settings_eq, F_wind_moves_eq]
def F_winds : EM := runF 2 0 Fb_winds
theorem F_winds_eq : F_winds = m_winds := by
  unfold F_winds m_winds
  rw [runF_eq, Fb_winds_eq]
def Fb_fewest : SM := seqS (dropS (callM F_need_all (mAc (mV 0) (mAc (mV 1) (mAc (mV 2) (mA0)))))) (seqS (dropS (callM F_need_settings (mAc (mV 0) (mAc (mV 3) (mA0))))) (retS' (mF1 (callM F_ways_from (mAc (mV 0) (mAc (mV 1) (mAc (mV 2) (mA0))))) (mV 3) gDg1)))
theorem Fb_fewest_eq : Fb_fewest = b_fewest := by
  unfold Fb_fewest b_fewest
  simp only [F_need_settings_eq, F_ways_from_eq, F_need_all_eq]
def F_fewest : EM := runF 4 0 Fb_fewest
theorem F_fewest_eq : F_fewest = m_fewest := by
  unfold F_fewest m_fewest
  rw [runF_eq, Fb_fewest_eq]
def Fb_dead : SM := seqS (dropS (callM F_need_window (mAc (mV 0) (mA0)))) (seqS (dropS (callM F_need_place (mAc (mV 1) (mA0)))) (seqS (asgN 2 2 (callM F_shut_of (mAc (mV 0) (mA0)))) (retS' (compE false (iSeq (callM F_all_settings (mAc (mV 0) (mA0)))) (gNm 2 3) (mF2 (mV 2) (callM F_ways_from (mAc (mV 0) (mAc (mV 3) (mAc (mV 1) (mA0))))) (gDin true)) (mV 3) [3]))))
theorem Fb_dead_eq : Fb_dead = b_dead := by
  unfold Fb_dead b_dead
  simp only [F_need_window_eq, F_need_place_eq, F_all_settings_eq, F_shut_of_eq, F_ways_from_eq]
def F_dead : EM := runF 2 2 Fb_dead
theorem F_dead_eq : F_dead = m_dead := by
  unfold F_dead m_dead
  rw [runF_eq, Fb_dead_eq]
def Fb_farthest : SM := seqS (dropS (callM F_need_window (mAc (mV 0) (mA0)))) (seqS (dropS (callM F_need_place (mAc (mV 1) (mA0)))) (seqS (asgN 2 2 (mC (.int 0))) (seqS (forF (iSeq (callM F_all_settings (mAc (mV 0) (mA0)))) (gNm 2 3) (seqS (asgN 2 4 (callM F_ways_from (mAc (mV 0) (mAc (mV 3) (mAc (mV 1) (mA0)))))) (asgN 2 2 (mCB gMax2 (mAc (mV 2) (mAc (mCB gMax1 (mAc (lockE 4 (compE false (iDk 4) (gNm 2 5) (mYes) (mCB gLen (mAc (mS1 4 (mV 5) gDix) mA0)) [5])) mA0)) mA0)))))) (retS' (mV 2)))))
theorem Fb_farthest_eq : Fb_farthest = b_farthest := by
  unfold Fb_farthest b_farthest
  simp only [forF_eq, F_need_window_eq, F_need_place_eq, F_all_settings_eq, F_ways_from_eq]
def F_farthest : EM := runF 2 4 Fb_farthest
theorem F_farthest_eq : F_farthest = m_farthest := by
  unfold F_farthest m_farthest
  rw [runF_eq, Fb_farthest_eq]
def Fb_begin : SM := retS' (mCB gTup' (mAc (callM F_shut_of (mAc (op2 gIx (mV 0) (mC (.int 0))) (mA0))) (mAc (mC (.int 0)) (mAc (mC (.str snone)) (mA0)))))
theorem Fb_begin_eq : Fb_begin = b_begin := by
  unfold Fb_begin b_begin
  simp only [F_shut_of_eq, snone_eq]
def F_begin : EM := runF 1 0 Fb_begin
theorem F_begin_eq : F_begin = m_begin := by
  unfold F_begin m_begin
  rw [runF_eq, Fb_begin_eq]
def Fb_towards : SM := seqS (whileF (op2 gNe (op2 gIx (mV 1) (mV 3)) (mV 4)) (seqS (asgN 5 5 (mIfE (op2 gLt (op2 gIx (mV 1) (mV 3)) (mV 4)) (mC (.int 1)) (op1 gNeg (mC (.int 1))))) (seqS (ifS (mOr (mNot (callM F_has_hand (mAc (mV 0) (mAc (mV 3) (mAc (mV 2) (mA0)))))) (mNot (callM F_can_step (mAc (mV 0) (mAc (mV 1) (mAc (mV 3) (mAc (mV 5) (mA0)))))))) (retS' (mV 1)) (nextS)) (asgN 5 1 (callM F_with_step (mAc (mV 1) (mAc (mV 3) (mAc (mV 5) (mA0)))))))) 5000) (retS' (mV 1))
theorem Fb_towards_eq : Fb_towards = b_towards := by
  unfold Fb_towards b_towards
  simp only [whileF_eq, F_with_step_eq, F_can_step_eq, F_has_hand_eq]
def F_towards : EM := runF 5 1 Fb_towards
theorem F_towards_eq : F_towards = m_towards := by
  unfold F_towards m_towards
  rw [runF_eq, Fb_towards_eq]
def Fb_habit_done : SM := seqS (asgN 4 4 (mC (.bool false))) (seqS (forF (iSeq (mV 3)) (gTp 2 (gCs (gNm 4 5) (gCs (gNm 4 6) (gNl)))) (seqS (asgN 4 1 (callM F_towards (mAc (mV 0) (mAc (mV 1) (mAc (mV 2) (mAc (mV 5) (mAc (mV 6) (mA0)))))))) (asgN 4 4 (mOr (mV 4) (op2 gNe (op2 gIx (mV 1) (mV 5)) (mV 6)))))) (retS' (mCB gTup' (mAc (mV 1) (mAc (mV 4) (mA0))))))
theorem Fb_habit_done_eq : Fb_habit_done = b_habit_done := by
  unfold Fb_habit_done b_habit_done
  simp only [forF_eq, F_towards_eq]
def F_habit_done : EM := runF 4 3 Fb_habit_done
theorem F_habit_done_eq : F_habit_done = m_habit_done := by
  unfold F_habit_done m_habit_done
  rw [runF_eq, Fb_habit_done_eq]
def Fb_broken : SM := seqS (asgT (gTp 2 (gCs (gNm 3 3) (gCs (gNm 3 4) (gNl)))) (callM F_kept_by (mAc (mV 0) (mAc (mV 1) (mA0))))) (seqS (asgN 3 5 (mIfE (mAnd (op2 (gIn false) (mV 2) (mCB gTup' (mAc (mC (.str sboth)) (mAc (mC (.str sflyless)) (mA0))))) (mNot (mV 4))) (mCB gLst (mAc (mC (.str sbitten)) (mA0))) (mCB gLst (mA0)))) (retS' (op2 gAdd (mV 5) (mRepO (mAc (mC (.str swet)) (mA0)) (mCB gInt (mAc (mAnd (op2 (gIn false) (mV 2) (mCB gTup' (mAc (mC (.str sboth)) (mAc (mC (.str sdry)) (mA0))))) (mNot (mV 3))) mA0))))))
theorem Fb_broken_eq : Fb_broken = b_broken := by
  unfold Fb_broken b_broken
  simp only [F_kept_by_eq, sbitten_eq, sboth_eq, sdry_eq, sflyless_eq, swet_eq]
def F_broken : EM := runF 3 3 Fb_broken
theorem F_broken_eq : F_broken = m_broken := by
  unfold F_broken m_broken
  rw [runF_eq, Fb_broken_eq]
def Fb_habit_rows : SM := seqS (asgT (gTp 3 (gCs (gNm 2 2) (gCs (gNm 2 3) (gCs (gNm 2 4) (gNl))))) (mV 1)) (seqS (asgN 2 5 (mCB gLst (mA0))) (seqS (forF (iCB gEnum2 (mAc (op2 gIx (mV 0) (mC (.int 1))) (mA0))) (gTp 2 (gCs (gNm 2 6) (gCs (gTp 2 (gCs (gNm 2 7) (gCs (gNm 2 8) (gNl)))) (gNl)))) (seqS (asgT (gTp 2 (gCs (gNm 2 9) (gCs (gNm 2 10) (gNl)))) (callM F_habit_done (mAc (op2 gIx (mV 0) (mC (.int 0))) (mAc (mV 2) (mAc (mV 3) (mAc (mV 7) (mA0))))))) (seqS (asgN 2 11 (op2 gAdd (callM F_broken (mAc (op2 gIx (mV 0) (mC (.int 0))) (mAc (mV 9) (mAc (mV 8) (mA0))))) (mRepO (mAc (mC (.str shalted)) (mA0)) (mCB gInt (mAc (mV 10) mA0))))) (asgN 2 5 (op2 gAdd (mV 5) (mCB gLst (mAc (mCB gTup' (mAc (mCB gTup' (mAc (mC (.str shabit)) (mAc (mV 6) (mA0)))) (mAc (mCB gSorted (mAc (mV 11) mA0)) (mAc (mCB gTup' (mAc (mV 9) (mAc (mV 3) (mAc (mV 8) (mA0))))) (mA0))))) (mA0)))))))) (retS' (mV 5))))
theorem Fb_habit_rows_eq : Fb_habit_rows = b_habit_rows := by
  unfold Fb_habit_rows b_habit_rows
  simp only [forF_eq, F_habit_done_eq, F_broken_eq, shabit_eq, shalted_eq]
def F_habit_rows : EM := runF 2 10 Fb_habit_rows
theorem F_habit_rows_eq : F_habit_rows = m_habit_rows := by
  unfold F_habit_rows m_habit_rows
  rw [runF_eq, Fb_habit_rows_eq]
def Fb_event_rows : SM := seqS (asgT (gTp 3 (gCs (gNm 2 2) (gCs (gNm 2 3) (gCs (gNm 2 4) (gNl))))) (mV 1)) (seqS (asgN 2 5 (callM F_habit_rows (mAc (mV 0) (mAc (mV 1) (mA0))))) (seqS (ifS (op2 gEq (mV 2) (callM F_open_of (mAc (op2 gIx (mV 0) (mC (.int 0))) (mA0)))) (seqS (asgN 2 8 (mIfE (op2 gEq (mV 3) (mC (.int 0))) (mCB gTup' (mAc (mC (.str sout)) (mA0))) (mCB gTup' (mAc (mC (.str sin)) (mA0))))) (asgN 2 5 (op2 gAdd (mV 5) (mCB gLst (mAc (mCB gTup' (mAc (mV 8) (mAc (callM F_broken (mAc (op2 gIx (mV 0) (mC (.int 0))) (mAc (mV 2) (mAc (mV 4) (mA0))))) (mAc (mCB gTup' (mAc (mV 2) (mAc (op2 gSub (mC (.int 1)) (mV 3)) (mAc (mV 4) (mA0))))) (mA0))))) (mA0)))))) (nextS)) (seqS (forF (iSeq (callM F_wind_moves (mAc (op2 gIx (mV 0) (mC (.int 0))) (mAc (mV 2) (mA0))))) (gTp 2 (gCs (gNm 2 6) (gCs (gNm 2 7) (gNl)))) (seqS (asgN 2 9 (callM F_with_step (mAc (mV 2) (mAc (mV 6) (mAc (mV 7) (mA0)))))) (asgN 2 5 (op2 gAdd (mV 5) (mCB gLst (mAc (mCB gTup' (mAc (mCB gTup' (mAc (mC (.str swind)) (mAc (mV 6) (mAc (mV 7) (mA0))))) (mAc (callM F_broken (mAc (op2 gIx (mV 0) (mC (.int 0))) (mAc (mV 9) (mAc (mV 4) (mA0))))) (mAc (mCB gTup' (mAc (mV 9) (mAc (mV 3) (mAc (mV 4) (mA0))))) (mA0))))) (mA0))))))) (retS' (mV 5)))))
theorem Fb_event_rows_eq : Fb_event_rows = b_event_rows := by
  unfold Fb_event_rows b_event_rows
  simp only [forF_eq, F_open_of_eq, F_with_step_eq, F_wind_moves_eq, F_broken_eq, F_habit_rows_eq, sin_eq, sout_eq, swind_eq]
def F_event_rows : EM := runF 2 8 Fb_event_rows
theorem F_event_rows_eq : F_event_rows = m_event_rows := by
  unfold F_event_rows m_event_rows
  rw [runF_eq, Fb_event_rows_eq]
def Fb_graph_of : SM := seqS (parS 2 [2, 3] [mDN0, mCB gLst (mAc (callM F_begin (mAc (mV 0) (mA0))) (mA0))]) (seqS (whileF (op2 gNe (mV 3) (mCB gLst (mA0))) (seqS (asgN 2 4 (mCB gLstO (mA0))) (seqS (forF (iSeq (mV 3)) (gNm 2 5) (ifS (mS2 2 (mV 5) (gDin true)) (seqS (dSet 2 (compE false (iSeq (callM F_event_rows (mAc (mV 0) (mAc (mV 5) (mA0))))) (gNm 2 6) (mOr (mV 1) (op2 gNe (op2 gIx (op2 gIx (mV 6) (mC (.int 0))) (mC (.int 0))) (mC (.str swind)))) (mV 6) [6]) (mV 5)) (iaddO 4 (compE true (iSeq (mS1 2 (mV 5) gDix)) (gNm 2 6) (mYes) (op2 gIx (mV 6) (mC (.int 2))) [6]))) (nextS))) (frzS 2 4 (asgN 2 3 (mV 4))))) 5000) (retO 2 2))
theorem Fb_graph_of_eq : Fb_graph_of = b_graph_of := by
  unfold Fb_graph_of b_graph_of
  simp only [whileF_eq, forF_eq, F_begin_eq, F_event_rows_eq, swind_eq]
def F_graph_of : EM := runF 2 5 Fb_graph_of
theorem F_graph_of_eq : F_graph_of = m_graph_of := by
  unfold F_graph_of m_graph_of
  rw [runF_eq, Fb_graph_of_eq]
def Fb_histories : SM := seqS (asgN 2 2 (mDN1 (callM F_begin (mAc (mV 0) (mA0))) (mCB gTup' (mA0)))) (seqS (lockS 1 (forF (iDk 1) (gNm 2 3) (forF (iSeq (mS1 1 (mV 3) gDix)) (gTp 3 (gCs (gNm 2 4) (gCs (gNm 2 5) (gCs (gNm 2 6) (gNl))))) (ifS (mS2 2 (mV 6) (gDin true)) (dSet 2 (op2 gAdd (mS1 2 (mV 3) gDix) (mCB gTup' (mAc (mV 4) (mA0)))) (mV 6)) (nextS))))) (retO 2 2))
theorem Fb_histories_eq : Fb_histories = b_histories := by
  unfold Fb_histories b_histories
  simp only [forF_eq, F_begin_eq]
def F_histories : EM := runF 2 5 Fb_histories
theorem F_histories_eq : F_histories = m_histories := by
  unfold F_histories m_histories
  rw [runF_eq, Fb_histories_eq]
def Fb_stand_harms : SM := seqS (asgT (gTp 3 (gCs (gNm 2 2) (gCs (gNm 2 3) (gCs (gNm 2 4) (gNl))))) (mV 1)) (seqS (asgN 2 5 (callM F_ways_from (mAc (mV 0) (mAc (mV 2) (mAc (mV 3) (mA0)))))) (seqS (ifS (op2 gEq (mV 3) (mC (.int 1))) (retS' (mIfE (mS2 5 (callM F_open_of (mAc (mV 0) (mA0))) (gDin false)) (mCB gLst (mA0)) (mCB gLst (mAc (mC (.str sout)) (mA0))))) (nextS)) (retS' (mIfE (mS2 5 (callM F_shut_of (mAc (mV 0) (mA0))) (gDin false)) (mCB gLst (mA0)) (mCB gLst (mAc (mC (.str sjammed)) (mA0)))))))
theorem Fb_stand_harms_eq : Fb_stand_harms = b_stand_harms := by
  unfold Fb_stand_harms b_stand_harms
  simp only [F_shut_of_eq, F_open_of_eq, F_ways_from_eq, sjammed_eq, sout_eq]
def F_stand_harms : EM := runF 2 4 Fb_stand_harms
theorem F_stand_harms_eq : F_stand_harms = m_stand_harms := by
  unfold F_stand_harms m_stand_harms
  rw [runF_eq, Fb_stand_harms_eq]
def Fb_first_harms : SM := seqS (asgN 2 2 (callM F_graph_of (mAc (mV 0) (mAc (mV 1) (mA0))))) (seqS (parS 2 [3, 4, 5] [callM F_histories (mAc (mV 0) (mAr 2 (mA0))), mCB gLstO (mA0), mDK0]) (seqS (lockS 2 (forF (iDk 2) (gNm 2 6) (seqS (iaddO 4 (compE true (iSeq (callM F_stand_harms (mAc (op2 gIx (mV 0) (mC (.int 0))) (mAc (mV 6) (mA0))))) (gNm 2 8) (mYes) (mCB gTup' (mAc (mS1 3 (mV 6) gDix) (mAc (mV 8) (mA0)))) [8])) (forF (iSeq (mS1 2 (mV 6) gDix)) (gTp 3 (gCs (gNm 2 9) (gCs (gNm 2 10) (gCs (gNm 2 11) (gNl))))) (iaddO 4 (compE true (iSeq (mV 10)) (gNm 2 8) (mYes) (mCB gTup' (mAc (op2 gAdd (mS1 3 (mV 6) gDix) (mCB gTup' (mAc (mV 9) (mA0)))) (mAc (mV 8) (mA0)))) [8])))))) (frzS 2 4 (seqS (forF (iSeq (mV 4)) (gTp 2 (gCs (gNm 2 7) (gCs (gNm 2 8) (gNl)))) (ifS (mOr (mS2 5 (mV 8) (gDin true)) (op2 gLtA (mCB gTup' (mAc (mCB gLen (mAc (mV 7) mA0)) (mAc (mV 7) (mA0)))) (mCB gTup' (mAc (mCB gLen (mAc (mS1 5 (mV 8) gDix) mA0)) (mAc (mS1 5 (mV 8) gDix) (mA0)))))) (dSet 5 (mV 7) (mV 8)) (nextS))) (retO 2 5)))))
theorem Fb_first_harms_eq : Fb_first_harms = b_first_harms := by
  unfold Fb_first_harms b_first_harms
  simp only [forF_eq, F_graph_of_eq, F_histories_eq, F_stand_harms_eq]
def F_first_harms : EM := runF 2 10 Fb_first_harms
theorem F_first_harms_eq : F_first_harms = m_first_harms := by
  unfold F_first_harms m_first_harms
  rw [runF_eq, Fb_first_harms_eq]
def Fb_need_harm : SM := ifS (mNot (callM F_is_word (mAc (mV 0) (mAc (mC F_HARMS) (mA0))))) (failS) (nextS)
theorem Fb_need_harm_eq : Fb_need_harm = b_need_harm := by
  unfold Fb_need_harm b_need_harm
  simp only [F_is_word_eq, F_HARMS_eq]
def F_need_harm : EM := runF 1 0 Fb_need_harm
theorem F_need_harm_eq : F_need_harm = m_need_harm := by
  unfold F_need_harm m_need_harm
  rw [runF_eq, Fb_need_harm_eq]
def Fb_harms : SM := seqS (dropS (callM F_need_house (mAc (mV 0) (mA0)))) (retS' (mFsort (callM F_first_harms (mAc (mV 0) (mAc (mC (.bool true)) (mA0))))))
theorem Fb_harms_eq : Fb_harms = b_harms := by
  unfold Fb_harms b_harms
  simp only [F_need_house_eq, F_first_harms_eq]
def F_harms : EM := runF 1 0 Fb_harms
theorem F_harms_eq : F_harms = m_harms := by
  unfold F_harms m_harms
  rw [runF_eq, Fb_harms_eq]
def Fb_calm_harms : SM := seqS (dropS (callM F_need_house (mAc (mV 0) (mA0)))) (retS' (mFsort (callM F_first_harms (mAc (mV 0) (mAc (mC (.bool false)) (mA0))))))
theorem Fb_calm_harms_eq : Fb_calm_harms = b_calm_harms := by
  unfold Fb_calm_harms b_calm_harms
  simp only [F_need_house_eq, F_first_harms_eq]
def F_calm_harms : EM := runF 1 0 Fb_calm_harms
theorem F_calm_harms_eq : F_calm_harms = m_calm_harms := by
  unfold F_calm_harms m_calm_harms
  rw [runF_eq, Fb_calm_harms_eq]
def Fb_first_history : SM := seqS (dropS (callM F_need_house (mAc (mV 0) (mA0)))) (seqS (dropS (callM F_need_harm (mAc (mV 1) (mA0)))) (retS' (mF1 (callM F_first_harms (mAc (mV 0) (mAc (mC (.bool true)) (mA0)))) (mV 1) gDg1)))
theorem Fb_first_history_eq : Fb_first_history = b_first_history := by
  unfold Fb_first_history b_first_history
  simp only [F_need_house_eq, F_first_harms_eq, F_need_harm_eq]
def F_first_history : EM := runF 2 0 Fb_first_history
theorem F_first_history_eq : F_first_history = m_first_history := by
  unfold F_first_history m_first_history
  rw [runF_eq, Fb_first_history_eq]
def Fb_count_stands : SM := seqS (dropS (callM F_need_house (mAc (mV 0) (mA0)))) (retS' (mFlen (callM F_graph_of (mAc (mV 0) (mAc (mC (.bool true)) (mA0))))))
theorem Fb_count_stands_eq : Fb_count_stands = b_count_stands := by
  unfold Fb_count_stands b_count_stands
  simp only [F_need_house_eq, F_graph_of_eq]
def F_count_stands : EM := runF 1 0 Fb_count_stands
theorem F_count_stands_eq : F_count_stands = m_count_stands := by
  unfold F_count_stands m_count_stands
  rw [runF_eq, Fb_count_stands_eq]
def Fb_all_bars : SM := seqS (asgN 1 1 (mLR false (mCB gLen (mAc (mV 0) mA0)))) (seqS (asgN 1 2 (compE2 false (iSeq (mV 1)) (gNm 1 4) (mYes) (iSeq (mV 1)) (gNm 1 5) (mYes) (mCB gTup' (mAc (mV 4) (mAc (mV 5) (mA0)))) [4, 5] [5])) (seqS (asgN 1 3 (compE2 false (iCB gRng1 (mAc (mC (.int 3)) (mA0))) (gNm 1 6) (mYes) (iCB gRng1 (mAc (mC (.int 3)) (mA0))) (gNm 1 7) (mYes) (mCB gTup' (mAc (mV 6) (mAc (mV 7) (mA0)))) [6, 7] [7])) (retS' (compE2 false (iSeq (mV 2)) (gNm 1 8) (mYes) (iSeq (mV 3)) (gNm 1 9) (callM F_is_bar (mAc (mV 0) (mAc (op2 gAdd (mV 8) (mV 9)) (mA0)))) (op2 gAdd (mV 8) (mV 9)) [8, 9] [9]))))
theorem Fb_all_bars_eq : Fb_all_bars = b_all_bars := by
  unfold Fb_all_bars b_all_bars
  simp only [F_is_bar_eq]
def F_all_bars : EM := runF 1 9 Fb_all_bars
theorem F_all_bars_eq : F_all_bars = m_all_bars := by
  unfold F_all_bars m_all_bars
  rw [runF_eq, Fb_all_bars_eq]
def Fb_bars_changed : SM := seqS (asgT (gTp 2 (gCs (gNm 1 1) (gCs (gNm 1 2) (gNl)))) (mV 0)) (seqS (asgN 1 3 (compE true (iCB gRng1 (mAc (mCB gLen (mAc (mV 2) mA0)) (mA0))) (gNm 1 4) (mYes) (mCB gTup' (mAc (mV 1) (mAc (op2 gAdd (mSl gSl (mV 2) (mNoPart) (mPart (mV 4))) (mSl gSl (mV 2) (mPart (op2 gAdd (mV 4) (mC (.int 1)))) (mNoPart))) (mA0)))) [4])) (seqS (ifS (op2 gLt (mCB gLen (mAc (mV 2) mA0)) (mC (.int 6))) (iaddO 3 (compE true (iSeq (callM F_all_bars (mAc (mV 1) (mA0)))) (gNm 1 5) (op2 (gIn true) (mV 5) (mV 2)) (mCB gTup' (mAc (mV 1) (mAc (mCB gTuple (mAc (mCB gSorted (mAc (op2 gAdd (mV 2) (mCB gTup' (mAc (mV 5) (mA0)))) mA0)) mA0)) (mA0)))) [5])) (nextS)) (frzS 1 3 (retS' (mCB gSorted (mAc (mV 3) mA0))))))
theorem Fb_bars_changed_eq : Fb_bars_changed = b_bars_changed := by
  unfold Fb_bars_changed b_bars_changed
  simp only [F_all_bars_eq]
def F_bars_changed : EM := runF 1 5 Fb_bars_changed
theorem F_bars_changed_eq : F_bars_changed = m_bars_changed := by
  unfold F_bars_changed m_bars_changed
  rw [runF_eq, Fb_bars_changed_eq]
def Fb_steps_of : SM := retS' (compE2 false (iCB gRng1 (mAc (mCB gLen (mAc (mV 0) mA0)) (mA0))) (gNm 1 1) (mYes) (iCB gRng1 (mAc (op2 gAdd (op2 gIx (op2 gIx (mV 0) (mV 1)) (mC (.int 0))) (mC (.int 1))) (mA0))) (gNm 1 2) (mYes) (mCB gTup' (mAc (mV 1) (mAc (mV 2) (mA0)))) [1, 2] [2])
theorem Fb_steps_of_eq : Fb_steps_of = b_steps_of := by
  unfold Fb_steps_of b_steps_of
  rfl
def F_steps_of : EM := runF 1 2 Fb_steps_of
theorem F_steps_of_eq : F_steps_of = m_steps_of := by
  unfold F_steps_of m_steps_of
  rw [runF_eq, Fb_steps_of_eq]
def Fb_is_sure : SM := seqS (asgN 3 3 (compE false (iSeq (callM F_all_settings (mAc (mV 0) (mA0)))) (gNm 3 4) (mYes) (op2 gIx (callM F_habit_done (mAc (mV 0) (mAc (mV 4) (mAc (mC (.int 0)) (mAc (mV 1) (mA0)))))) (mC (.int 0))) [4])) (retS' (mNot (mCB gAny (mAc (compE false (iSeq (mV 3)) (gNm 3 5) (mYes) (op2 gNe (callM F_broken (mAc (mV 0) (mAc (mV 5) (mAc (mV 2) (mA0))))) (mCB gLst (mA0))) [5]) mA0))))
theorem Fb_is_sure_eq : Fb_is_sure = b_is_sure := by
  unfold Fb_is_sure b_is_sure
  simp only [F_all_settings_eq, F_habit_done_eq, F_broken_eq]
def F_is_sure : EM := runF 3 3 Fb_is_sure
theorem F_is_sure_eq : F_is_sure = m_is_sure := by
  unfold F_is_sure m_is_sure
  rw [runF_eq, Fb_is_sure_eq]
def Fb_bar_changes : SM := seqS (dropS (callM F_need_window (mAc (mV 0) (mA0)))) (retS' (callM F_bars_changed (mAc (mV 0) (mA0))))
theorem Fb_bar_changes_eq : Fb_bar_changes = b_bar_changes := by
  unfold Fb_bar_changes b_bar_changes
  simp only [F_need_window_eq, F_bars_changed_eq]
def F_bar_changes : EM := runF 1 0 Fb_bar_changes
theorem F_bar_changes_eq : F_bar_changes = m_bar_changes := by
  unfold F_bar_changes m_bar_changes
  rw [runF_eq, Fb_bar_changes_eq]
def Fb_sure_steps : SM := seqS (dropS (callM F_need_window (mAc (mV 0) (mA0)))) (seqS (ifS (mNot (callM F_is_word (mAc (mV 1) (mAc (mC F_WISHES) (mA0))))) (failS) (nextS)) (seqS (asgN 2 2 (mCB gLst (mAc (mCB gTup' (mA0)) (mA0)))) (seqS (forF (iCB gRng1 (mAc (mC (.int 3)) (mA0))) (gNm 2 3) (seqS (asgN 2 4 (compE false (iSeq (mV 2)) (gNm 2 5) (callM F_is_sure (mAc (mV 0) (mAc (mV 5) (mAc (mV 1) (mA0))))) (mV 5) [5])) (seqS (ifS (op2 gNe (mV 4) (mCB gLst (mA0))) (retS' (mV 4)) (nextS)) (asgN 2 2 (compE2 false (iSeq (mV 2)) (gNm 2 5) (mYes) (iSeq (callM F_steps_of (mAc (op2 gIx (mV 0) (mC (.int 0))) (mA0)))) (gNm 2 6) (mYes) (op2 gAdd (mV 5) (mCB gTup' (mAc (mV 6) (mA0)))) [5, 6] [6]))))) (retS' (mCB gLst (mA0))))))
theorem Fb_sure_steps_eq : Fb_sure_steps = b_sure_steps := by
  unfold Fb_sure_steps b_sure_steps
  simp only [forF_eq, F_is_word_eq, F_need_window_eq, F_steps_of_eq, F_is_sure_eq, F_WISHES_eq]
def F_sure_steps : EM := runF 2 5 Fb_sure_steps
theorem F_sure_steps_eq : F_sure_steps = m_sure_steps := by
  unfold F_sure_steps m_sure_steps
  rw [runF_eq, Fb_sure_steps_eq]
def Fb_deeds_of : SM := seqS (asgN 2 2 (mCB gLstO (mA0))) (seqS (forF (iSeq (mCB gTup' (mAc (mC (.int 0)) (mAc (mC (.int 1)) (mA0))))) (gNm 2 3) (iaddO 2 (compE true (iSeq (callM F_hand_moves (mAc (mV 0) (mAc (mV 1) (mAc (mV 3) (mA0)))))) (gNm 2 4) (mYes) (op2 gAdd (mCB gTup' (mAc (mC (.str shand)) (mAc (mV 3) (mA0)))) (mV 4)) [4]))) (frzS 2 2 (retS' (op2 gAdd (mV 2) (compE false (iSeq (callM F_wind_moves (mAc (mV 0) (mAc (mV 1) (mA0))))) (gNm 2 4) (mYes) (op2 gAdd (mCB gTup' (mAc (mC (.str swind)) (mA0))) (mV 4)) [4])))))
theorem Fb_deeds_of_eq : Fb_deeds_of = b_deeds_of := by
  unfold Fb_deeds_of b_deeds_of
  simp only [forF_eq, F_hand_moves_eq, F_wind_moves_eq, shand_eq, swind_eq]
def F_deeds_of : EM := runF 2 3 Fb_deeds_of
theorem F_deeds_of_eq : F_deeds_of = m_deeds_of := by
  unfold F_deeds_of m_deeds_of
  rw [runF_eq, Fb_deeds_of_eq]
def Fb_parted : SM := seqS (asgN 2 2 (callM F_shut_of (mAc (mV 0) (mA0)))) (seqS (ifS (op2 gNe (callM F_kept_by (mAc (mV 0) (mAc (mV 2) (mA0)))) (callM F_kept_by (mAc (mV 1) (mAc (mV 2) (mA0))))) (retS' (mCB gTup' (mA0))) (nextS)) (seqS (parS 2 [3, 4, 5] [mCB gLstO (mAc (mCB gTup' (mAc (mV 2) (mAc (mCB gTup' (mA0)) (mA0)))) (mA0)), mDN1 (mV 2) (mC (.bool true)), mC (.int 0)]) (seqS (whileF (op2 gLt (mV 5) (mOlen 3)) (seqS (asgT (gTp 2 (gCs (gNm 2 6) (gCs (gNm 2 7) (gNl)))) (mOix 3 (mV 5))) (seqS (augI 2 5 (mC (.int 1))) (seqS (parS 2 [8, 9] [callM F_deeds_of (mAc (mV 0) (mAc (mV 6) (mA0))), callM F_deeds_of (mAc (mV 1) (mAc (mV 6) (mA0)))]) (forF (iSeq (mSK (op2 gAdd (mV 8) (mV 9)))) (gNm 2 10) (seqS (asgN 2 11 (callM F_with_step (mAc (mV 6) (mAc (op2 gIx (mV 10) (op1 gNeg (mC (.int 2)))) (mAc (op2 gIx (mV 10) (op1 gNeg (mC (.int 1)))) (mA0)))))) (seqS (ifS (mOr (op2 (gIn true) (mV 10) (mV 8)) (mOr (op2 (gIn true) (mV 10) (mV 9)) (op2 gNe (callM F_kept_by (mAc (mV 0) (mAc (mV 11) (mA0)))) (callM F_kept_by (mAc (mV 1) (mAc (mV 11) (mA0))))))) (retS' (op2 gAdd (mV 7) (mCB gTup' (mAc (mV 10) (mA0))))) (nextS)) (ifS (mS2 4 (mV 11) (gDin true)) (seqS (dSet 4 (mC (.bool true)) (mV 11)) (appO 3 (mCB gTup' (mAc (mV 11) (mAc (op2 gAdd (mV 7) (mCB gTup' (mAc (mV 10) (mA0)))) (mA0)))))) (nextS)))))))) 5000) (retS' (mC .none)))))
theorem Fb_parted_eq : Fb_parted = b_parted := by
  unfold Fb_parted b_parted
  simp only [whileF_eq, forF_eq, F_shut_of_eq, F_kept_by_eq, F_with_step_eq, F_deeds_of_eq]
def F_parted : EM := runF 2 10 Fb_parted
theorem F_parted_eq : F_parted = m_parted := by
  unfold F_parted m_parted
  rw [runF_eq, Fb_parted_eq]
def Fb_need_two : SM := seqS (dropS (callM F_need_window (mAc (mV 0) (mA0)))) (seqS (dropS (callM F_need_window (mAc (mV 1) (mA0)))) (ifS (op2 gNe (compE false (iSeq (op2 gIx (mV 0) (mC (.int 0)))) (gNm 2 2) (mYes) (op2 gIx (mV 2) (mC (.int 0))) [2]) (compE false (iSeq (op2 gIx (mV 1) (mC (.int 0)))) (gNm 2 2) (mYes) (op2 gIx (mV 2) (mC (.int 0))) [2])) (failS) (nextS)))
theorem Fb_need_two_eq : Fb_need_two = b_need_two := by
  unfold Fb_need_two b_need_two
  simp only [F_need_window_eq]
def F_need_two : EM := runF 2 1 Fb_need_two
theorem F_need_two_eq : F_need_two = m_need_two := by
  unfold F_need_two m_need_two
  rw [runF_eq, Fb_need_two_eq]
def Fb_parting : SM := seqS (dropS (callM F_need_two (mAc (mV 0) (mAc (mV 1) (mA0))))) (retS' (callM F_parted (mAc (mV 0) (mAc (mV 1) (mA0)))))
theorem Fb_parting_eq : Fb_parting = b_parting := by
  unfold Fb_parting b_parting
  simp only [F_parted_eq, F_need_two_eq]
def F_parting : EM := runF 2 0 Fb_parting
theorem F_parting_eq : F_parting = m_parting := by
  unfold F_parting m_parting
  rw [runF_eq, Fb_parting_eq]
def Fb_idle_bars : SM := seqS (dropS (callM F_need_window (mAc (mV 0) (mA0)))) (seqS (asgT (gTp 2 (gCs (gNm 1 1) (gCs (gNm 1 2) (gNl)))) (mV 0)) (seqS (asgN 1 3 (compE false (iCB gRng1 (mAc (mCB gLen (mAc (mV 2) mA0)) (mA0))) (gNm 1 4) (mYes) (mCB gTup' (mAc (mV 1) (mAc (op2 gAdd (mSl gSl (mV 2) (mNoPart) (mPart (mV 4))) (mSl gSl (mV 2) (mPart (op2 gAdd (mV 4) (mC (.int 1)))) (mNoPart))) (mA0)))) [4])) (retS' (compE false (iCB gEnum2 (mAc (mV 3) (mA0))) (gTp 2 (gCs (gNm 1 4) (gCs (gNm 1 5) (gNl)))) (op2 gIsN (callM F_parted (mAc (mV 0) (mAc (mV 5) (mA0)))) (mC .none)) (mV 4) [4, 5]))))
theorem Fb_idle_bars_eq : Fb_idle_bars = b_idle_bars := by
  unfold Fb_idle_bars b_idle_bars
  simp only [F_need_window_eq, F_parted_eq]
def F_idle_bars : EM := runF 1 5 Fb_idle_bars
theorem F_idle_bars_eq : F_idle_bars = m_idle_bars := by
  unfold F_idle_bars m_idle_bars
  rw [runF_eq, Fb_idle_bars_eq]
def Fb__law_known : SM := seqS (asgT (gTp 2 (gCs (gNm 0 0) (gCs (gNm 0 1) (gNl)))) (mCB gTup' (mAc (mCB gTup' (mAc (mC (.int 1)) (mAc (mC (.int 0)) (mAc (mC (.int 0)) (mAc (mC (.str swithin)) (mAc (mC (.str sstill)) (mA0))))))) (mAc (mCB gTup' (mAc (mC (.int 1)) (mAc (op1 gNeg (mC (.int 1))) (mAc (mC (.int 0)) (mAc (mC (.str swithin)) (mAc (mC (.str sstill)) (mA0))))))) (mA0))))) (seqS (asgN 0 2 (mCB gTup' (mAc (mCB gTup' (mAc (mV 0) (mAc (mV 1) (mA0)))) (mAc (mCB gTup' (mAc (mCB gTup' (mAc (mC (.int 0)) (mAc (mC (.int 1)) (mAc (mC (.int 1)) (mAc (mC (.int 1)) (mA0)))))) (mA0))) (mA0))))) (seqS (asgN 0 3 (mCB gTup' (mAc (mCB gTup' (mAc (mCB gTup' (mAc (mC (.int 1)) (mAc (mC (.int 0)) (mAc (mC (.int 0)) (mAc (mC (.str swithin)) (mAc (mC (.str sshuts)) (mA0))))))) (mAc (mCB gTup' (mAc (mC (.int 1)) (mAc (op1 gNeg (mC (.int 1))) (mAc (mC (.int 0)) (mAc (mC (.str sboth)) (mAc (mC (.str sstill)) (mA0))))))) (mA0)))) (mAc (mCB gTup' (mA0)) (mA0))))) (seqS (asgN 0 4 (mCB gTup' (mAc (mCB gTup' (mAc (mV 0) (mAc (mCB gTup' (mAc (mC (.int 1)) (mAc (op1 gNeg (mC (.int 1))) (mAc (mC (.int 0)) (mAc (mC (.str swithout)) (mAc (mC (.str sopens)) (mA0))))))) (mA0)))) (mAc (mCB gTup' (mAc (mCB gTup' (mAc (mC (.int 0)) (mAc (mC (.int 1)) (mAc (mC (.int 0)) (mAc (mC (.int 0)) (mA0)))))) (mA0))) (mA0))))) (seqS (asgN 0 5 (mCB gTup' (mAc (mCB gTup' (mAc (mCB gTup' (mAc (mCB gTup' (mAc (mC (.int 1)) (mAc (mC (.int 1)) (mA0)))) (mAc (mCB gTup' (mAc (mC (.int 0)) (mAc (mC (.int 1)) (mA0)))) (mAc (mCB gTup' (mAc (mC (.int 1)) (mAc (mC (.int 0)) (mA0)))) (mA0))))) (mAc (mC (.str sflyless)) (mA0)))) (mAc (mCB gTup' (mAc (mCB gTup' (mAc (mCB gTup' (mAc (mC (.int 1)) (mAc (mC (.int 1)) (mA0)))) (mAc (mCB gTup' (mAc (mC (.int 0)) (mAc (mC (.int 0)) (mA0)))) (mAc (mCB gTup' (mAc (mC (.int 1)) (mAc (mC (.int 0)) (mA0)))) (mA0))))) (mAc (mC (.str sdry)) (mA0)))) (mA0))))) (retS' (mCB gLst (mAc (mV 2) (mAc (mV 3) (mAc (mV 4) (mAc (mV 5) (mAc (mCB gTup' (mAc (mCB gTup' (mAc (mCB gTup' (mAc (mCB gTup' (mAc (mC (.int 0)) (mAc (mC (.int 1)) (mA0)))) (mAc (mCB gTup' (mAc (mC (.int 1)) (mAc (mC (.int 1)) (mA0)))) (mA0)))) (mAc (mC (.str snone)) (mA0)))) (mA0))) (mA0))))))))))))
theorem Fb__law_known_eq : Fb__law_known = b__law_known := by
  unfold Fb__law_known b__law_known
  simp only [sboth_eq, sdry_eq, sflyless_eq, snone_eq, sopens_eq, sshuts_eq, sstill_eq, swithin_eq, swithout_eq]
def F__law_known : EM := runF 0 6 Fb__law_known
theorem F__law_known_eq : F__law_known = m__law_known := by
  unfold F__law_known m__law_known
  rw [runF_eq, Fb__law_known_eq]
def Fb__law_tall_right : SM := seqS (asgT (gTp 2 (gCs (gNm 1 1) (gCs (gNm 1 2) (gNl)))) (mIfE (mV 0) (mCB gTup' (mAc (mC (.str swithout)) (mAc (mC (.int 1)) (mA0)))) (mCB gTup' (mAc (mC (.str swithin)) (mAc (mC (.int 0)) (mA0)))))) (seqS (asgN 1 3 (mCB gTup' (mAc (mCB gTup' (mAc (mC (.int 2)) (mAc (mC (.int 0)) (mAc (mC (.int 0)) (mAc (mV 1) (mAc (mC (.str sstill)) (mA0))))))) (mAc (mCB gTup' (mAc (mC (.int 1)) (mAc (op1 gNeg (mC (.int 1))) (mAc (mC (.int 0)) (mAc (mV 1) (mAc (mC (.str sstill)) (mA0))))))) (mAc (mCB gTup' (mAc (mC (.int 2)) (mAc (op1 gNeg (mC (.int 1))) (mAc (op1 gNeg (mC (.int 1))) (mAc (mV 1) (mAc (mC (.str sshuts)) (mA0))))))) (mA0)))))) (seqS (asgN 1 4 (mCB gTup' (mAc (mV 3) (mAc (mCB gTup' (mAc (mCB gTup' (mAc (mC (.int 0)) (mAc (mC (.int 1)) (mAc (mC (.int 1)) (mAc (mC (.int 1)) (mA0)))))) (mAc (mCB gTup' (mAc (mC (.int 1)) (mAc (mC (.int 2)) (mAc (mC (.int 1)) (mAc (mC (.int 2)) (mA0)))))) (mA0)))) (mA0))))) (seqS (ifS (mOr (op2 gNe (callM F_moves (mAc (mV 4) (mAc (mCB gTup' (mAc (mC (.int 0)) (mAc (mC (.int 0)) (mAc (mC (.int 0)) (mA0))))) (mAc (mV 2) (mA0))))) (mCB gLst (mAc (mCB gTup' (mAc (mC (.int 2)) (mAc (mC (.int 1)) (mA0)))) (mA0)))) (op2 gNe (callM F_moves (mAc (mV 4) (mAc (mCB gTup' (mAc (mC (.int 0)) (mAc (mC (.int 0)) (mAc (mC (.int 1)) (mA0))))) (mAc (mV 2) (mA0))))) (mCB gLst (mAc (mCB gTup' (mAc (mC (.int 1)) (mAc (mC (.int 1)) (mA0)))) (mAc (mCB gTup' (mAc (mC (.int 2)) (mAc (op1 gNeg (mC (.int 1))) (mA0)))) (mAc (mCB gTup' (mAc (mC (.int 2)) (mAc (mC (.int 1)) (mA0)))) (mA0))))))) (retS' (mC (.bool false))) (nextS)) (seqS (asgN 1 5 (callM F_fewest (mAc (mV 4) (mAc (mCB gTup' (mAc (mC (.int 0)) (mAc (mC (.int 0)) (mAc (mC (.int 0)) (mA0))))) (mAc (mV 2) (mAc (mCB gTup' (mAc (mC (.int 2)) (mAc (mC (.int 0)) (mAc (mC (.int 0)) (mA0))))) (mA0))))))) (seqS (ifS (mOr (op2 gNe (mCB gLen (mAc (mV 5) mA0)) (mC (.int 6))) (mAnd (op2 gNe (mSl gSl (mV 5) (mNoPart) (mPart (mC (.int 3)))) (mCB gTup' (mAc (mCB gTup' (mAc (mC (.int 2)) (mAc (mC (.int 1)) (mA0)))) (mAc (mCB gTup' (mAc (mC (.int 1)) (mAc (mC (.int 1)) (mA0)))) (mAc (mCB gTup' (mAc (mC (.int 0)) (mAc (mC (.int 1)) (mA0)))) (mA0)))))) (op2 gNe (mSl gSl (mV 5) (mNoPart) (mPart (mC (.int 2)))) (mCB gTup' (mAc (mCB gTup' (mAc (mC (.int 2)) (mAc (mC (.int 1)) (mA0)))) (mAc (mCB gTup' (mAc (mC (.int 1)) (mAc (mC (.int 1)) (mA0)))) (mA0))))))) (retS' (mC (.bool false))) (nextS)) (seqS (ifS (mOr (op2 gNe (callM F_dead (mAc (mV 4) (mAc (mV 2) (mA0)))) (mCB gLst (mA0))) (mOr (op2 gNe (callM F_winds (mAc (mV 4) (mAc (mCB gTup' (mAc (mC (.int 0)) (mAc (mC (.int 0)) (mAc (mC (.int 2)) (mA0))))) (mA0)))) (mCB gLst (mAc (mCB gTup' (mAc (mC (.int 2)) (mAc (op1 gNeg (mC (.int 1))) (mA0)))) (mA0)))) (op2 gNe (callM F_winds (mAc (mV 4) (mAc (mCB gTup' (mAc (mC (.int 0)) (mAc (mC (.int 0)) (mAc (mC (.int 0)) (mA0))))) (mA0)))) (mCB gLst (mA0))))) (retS' (mC (.bool false))) (nextS)) (retS' (mAnd (op2 gEq (callM F_kept (mAc (mV 4) (mAc (mCB gTup' (mAc (mC (.int 1)) (mAc (mC (.int 0)) (mAc (mC (.int 2)) (mA0))))) (mA0)))) (mCB gTup' (mAc (mC (.bool false)) (mAc (mC (.bool true)) (mA0))))) (op2 gEq (callM F_kept (mAc (mV 4) (mAc (mCB gTup' (mAc (mC (.int 1)) (mAc (mC (.int 1)) (mAc (mC (.int 0)) (mA0))))) (mA0)))) (mCB gTup' (mAc (mC (.bool false)) (mAc (mC (.bool false)) (mA0)))))))))))))
theorem Fb__law_tall_right_eq : Fb__law_tall_right = b__law_tall_right := by
  unfold Fb__law_tall_right b__law_tall_right
  simp only [F_kept_eq, F_moves_eq, F_winds_eq, F_fewest_eq, F_dead_eq, sshuts_eq, sstill_eq, swithin_eq, swithout_eq]
def F__law_tall_right : EM := runF 1 5 Fb__law_tall_right
theorem F__law_tall_right_eq : F__law_tall_right = m__law_tall_right := by
  unfold F__law_tall_right m__law_tall_right
  rw [runF_eq, Fb__law_tall_right_eq]
end M
namespace K25
open PySem PySem.Spec L2 DL M
def Fb_law : SM := seqS (asgT (gTl 5 (gCs (gNm 1 1) (gCs (gNm 1 2) (gCs (gNm 1 3) (gCs (gNm 1 4) (gCs (gNm 1 5) (gNl))))))) (callM F__law_known mA0)) (seqS (forS (iSeq (mSl gSl (op2 gAdd (mCB gLst (mAc (mC (.int 0)) (mA0))) (mV 0)) (mNoPart) (mPart (mC (.int 4))))) (gNm 1 6) (seqS (asgN 1 7 (callM m__law_deck (mAc (mV 6) (mAc (mC (.int 25)) (mA0))))) (seqS (ifS (mNot (callM F__law_tall_right (mAc (op2 gEq (callM m__law_pick (mAr 7 (mAc (mC (.int 2)) (mA0)))) (mC (.int 1))) (mA0)))) (retS' (mC (.bool false))) (nextS)) (seqS (asgT (gTp 2 (gCs (gNm 1 8) (gCs (gNm 1 9) (gNl)))) (mIfE (op2 gEq (callM m__law_pick (mAr 7 (mAc (mC (.int 2)) (mA0)))) (mC (.int 1))) (mCB gTup' (mAc (callM F_exchanged (mAc (mV 1) (mA0))) (mAc (mC (.int 1)) (mA0)))) (mCB gTup' (mAc (mV 1) (mAc (mC (.int 0)) (mA0)))))) (seqS (ifS (op2 gNe (mCB gLst (mAc (callM F_farthest (mAc (mV 8) (mAc (mV 9) (mA0)))) (mAc (callM F_farthest (mAc (mV 8) (mAc (op2 gSub (mC (.int 1)) (mV 9)) (mA0)))) (mAc (callM F_dead (mAc (mV 8) (mAc (mV 9) (mA0)))) (mA0))))) (mCB gLst (mAc (mC (.int 3)) (mAc (mC (.int 0)) (mAc (mCB gLst (mA0)) (mA0)))))) (retS' (mC (.bool false))) (nextS)) (ifS (op2 gNe (callM F_fewest (mAc (mV 8) (mAc (mCB gTup' (mAc (mC (.int 0)) (mAc (mC (.int 0)) (mA0)))) (mAc (mV 9) (mAc (mCB gTup' (mAc (mC (.int 1)) (mAc (mC (.int 0)) (mA0)))) (mA0)))))) (mCB gTup' (mAc (mCB gTup' (mAc (mC (.int 1)) (mAc (mC (.int 1)) (mA0)))) (mAc (mCB gTup' (mAc (mC (.int 0)) (mAc (mC (.int 1)) (mA0)))) (mAc (mCB gTup' (mAc (mC (.int 1)) (mAc (op1 gNeg (mC (.int 1))) (mA0)))) (mA0)))))) (retS' (mC (.bool false))) (nextS))))))) (seqS (ifS (mOr (op2 gNe (callM F_harms (mAc (mCB gTup' (mAc (mV 1) (mAc (mV 4) (mA0)))) (mA0))) (mCB gLst (mA0))) (op2 gNe (callM F_harms (mAc (mCB gTup' (mAc (mV 2) (mAc (mV 5) (mA0)))) (mA0))) (mCB gLst (mAc (mC (.str shalted)) (mAc (mC (.str sout)) (mA0)))))) (retS' (mC (.bool false))) (nextS)) (seqS (ifS (op2 gNe (callM F_harms (mAc (mCB gTup' (mAc (mV 3) (mAc (mV 5) (mA0)))) (mA0))) (mCB gLst (mAc (mC (.str shalted)) (mAc (mC (.str sjammed)) (mA0))))) (retS' (mC (.bool false))) (nextS)) (seqS (ifS (op2 gNe (mCB gLst (mAc (callM F_calm_harms (mAc (mCB gTup' (mAc (mV 2) (mAc (mV 5) (mA0)))) (mA0))) (mAc (callM F_calm_harms (mAc (mCB gTup' (mAc (mV 3) (mAc (mV 5) (mA0)))) (mA0))) (mAc (callM F_dead (mAc (mV 3) (mAc (mC (.int 0)) (mA0)))) (mA0))))) (mCB gLst (mAc (mCB gLst (mA0)) (mAc (mCB gLst (mAc (mC (.str shalted)) (mA0))) (mAc (mCB gLst (mAc (mCB gTup' (mAc (mC (.int 0)) (mAc (mC (.int 1)) (mA0)))) (mAc (mCB gTup' (mAc (mC (.int 1)) (mAc (mC (.int 1)) (mA0)))) (mA0)))) (mA0)))))) (retS' (mC (.bool false))) (nextS)) (seqS (ifS (op2 gNe (callM F_first_history (mAc (mCB gTup' (mAc (mV 2) (mAc (mV 5) (mA0)))) (mAc (mC (.str sout)) (mA0)))) (mCB gTup' (mAc (mCB gTup' (mAc (mC (.str shabit)) (mAc (mC (.int 0)) (mA0)))) (mAc (mCB gTup' (mAc (mC (.str sout)) (mA0))) (mAc (mCB gTup' (mAc (mC (.str swind)) (mAc (mC (.int 0)) (mAc (op1 gNeg (mC (.int 1))) (mA0))))) (mA0)))))) (retS' (mC (.bool false))) (nextS)) (seqS (ifS (mOr (op2 gNe (callM F_first_history (mAc (mCB gTup' (mAc (mV 3) (mAc (mV 5) (mA0)))) (mAc (mC (.str sjammed)) (mA0)))) (mCB gTup' (mAc (mCB gTup' (mAc (mC (.str swind)) (mAc (mC (.int 1)) (mAc (mC (.int 1)) (mA0))))) (mA0)))) (op2 gNe (callM F_count_stands (mAc (mCB gTup' (mAc (mV 1) (mAc (mV 4) (mA0)))) (mA0))) (mC (.int 3)))) (retS' (mC (.bool false))) (nextS)) (seqS (ifS (op2 gNe (mCB gLst (mAc (callM F_sure_steps (mAc (mV 1) (mAc (mC (.str sdry)) (mA0)))) (mAc (callM F_sure_steps (mAc (mV 1) (mAc (mC (.str sflyless)) (mA0)))) (mA0)))) (mCB gLst (mAc (mCB gLst (mAc (mCB gTup' (mAc (mCB gTup' (mAc (mC (.int 1)) (mAc (mC (.int 1)) (mA0)))) (mAc (mCB gTup' (mAc (mC (.int 0)) (mAc (mC (.int 0)) (mA0)))) (mA0)))) (mA0))) (mAc (mCB gLst (mAc (mCB gTup' (mAc (mCB gTup' (mAc (mC (.int 0)) (mAc (mC (.int 0)) (mA0)))) (mA0))) (mAc (mCB gTup' (mAc (mCB gTup' (mAc (mC (.int 1)) (mAc (mC (.int 0)) (mA0)))) (mA0))) (mA0)))) (mA0))))) (retS' (mC (.bool false))) (nextS)) (seqS (ifS (op2 gNe (mCB gLst (mAc (callM F_sure_steps (mAc (mV 1) (mAc (mC (.str snone)) (mA0)))) (mAc (callM F_sure_steps (mAc (callM F_exchanged (mAc (mV 1) (mA0))) (mAc (mC (.str sdry)) (mA0)))) (mAc (callM F_idle_bars (mAc (mV 1) (mA0))) (mA0))))) (mCB gLst (mAc (mCB gLst (mAc (mCB gTup' (mA0)) (mA0))) (mAc (mCB gLst (mA0)) (mAc (mCB gLst (mA0)) (mA0)))))) (retS' (mC (.bool false))) (nextS)) (retS' (mAnd (op2 gEq (mCB gLen (mAc (callM F_bar_changes (mAc (mV 1) (mA0))) mA0)) (mC (.int 4))) (op2 gEq (callM F_parting (mAc (mV 1) (mAc (mCB gTup' (mAc (op2 gIx (mV 1) (mC (.int 0))) (mAc (mCB gTup' (mA0)) (mA0)))) (mA0)))) (mCB gTup' (mAc (mCB gTup' (mAc (mC (.str shand)) (mAc (mC (.int 0)) (mAc (mC (.int 0)) (mAc (mC (.int 1)) (mA0)))))) (mA0))))))))))))))
theorem Fb_law_eq : Fb_law = b_law := by
  unfold Fb_law b_law
  simp only [F_exchanged_eq, F_fewest_eq, F_dead_eq, F_farthest_eq, F_harms_eq, F_calm_harms_eq, F_first_history_eq, F_count_stands_eq, F_bar_changes_eq, F_sure_steps_eq, F_parting_eq, F_idle_bars_eq, F__law_known_eq, F__law_tall_right_eq, sdry_eq, sflyless_eq, shabit_eq, shalted_eq, shand_eq, sjammed_eq, snone_eq, sout_eq, swind_eq]
end K25

namespace M
open PySem PySem.Spec L2 DL
/-! ### goal by goal: f ends at ρ in some way that keeps Q -/
def TS (f : SM) (ρ : DL.Env) (Q : Fl → Prop) : Prop := ∃ r, f ρ = some r ∧ Q r
section
variable {f g : SM} {ρ ρ1 : DL.Env} {Q : Fl → Prop}
theorem ts_eq (h : f ρ = some (.nx ρ1)) (q : TS g ρ1 Q) : TS (seqS f g) ρ Q := by
  obtain ⟨r, h1, h2⟩ := q
  exact ⟨r, seq_nx h h1, h2⟩
theorem ts_end {r : Fl} (h : f ρ = some r) (q : Q r) : TS f ρ Q := ⟨r, h, q⟩
theorem ts_seq (h : TS f ρ fun r => ∃ ρ1, r = .nx ρ1 ∧ TS g ρ1 Q) : TS (seqS f g) ρ Q := by
  obtain ⟨r, h1, ρ1, rfl, h2⟩ := h
  exact ts_eq h1 h2
/-- a loop, by an invariant of the items done -/
theorem ts_for {fi : IM} {T : TgM} {fb : SM} {ds : List D} (I : List D → DL.Env → Prop) (hi : fi ρ = some (.inl ds, ρ1)) (h0 : I [] ρ1)
    (hs : ∀ p d q ρ, ds = p ++ d :: q → I p ρ → ∃ ρ1, T d ρ = some ρ1 ∧ TS fb ρ1 fun r => ∃ ρ2, (r = .nx ρ2 ∨ r = .ct ρ2) ∧ I (p ++ [d]) ρ2) (hq : ∀ ρ', I ds ρ' → Q (.nx ρ')) : TS (forS fi T fb) ρ Q := by
  obtain ⟨ρ', h1, h2⟩ := forS_inv2 (T := T) (fb := fb) I hi h0 fun p d q ρ e hI => by
    obtain ⟨ρ1, h1, r, h2, ρ2, h3, h4⟩ := hs p d q ρ e hI
    refine ⟨ρ1, h1, ρ2, ?_, h4⟩
    rcases h3 with rfl | rfl
    · exact .inl h2
    · exact .inr h2
  exact ⟨_, h1, hq _ h2⟩
theorem ans_ts {np loc : Nat} {ρ : DL.Env} {fb : SM} {s : S} (hl : ρ.length = np) (h : TS fb (ρ ++ List.replicate loc none) fun r => ∃ ρ', r = .rt s ρ' ∧ np ≤ ρ'.length) : ∃ ρ', runQ np loc fb ρ = some (.ok s, ρ') := by
  obtain ⟨r, h1, ρ', rfl, h2⟩ := h
  exact ⟨restP ρ ρ', by rw [runQ_eq, if_pos hl, h1, runK_rt, if_pos h2]⟩
end
theorem gNm_go {np i : Nat} {x : D} {ρ : DL.Env} (h : okset np i ρ = true) : gNm np i x ρ = some (ρ.set i (some (.dat x))) := by
  unfold gNm
  rw [if_pos h]
theorem asgT2_go {np i j : Nat} {f : EM} {x y : D} {ρ ρ1 : DL.Env} (hv : f ρ = some (.ok (.dat (.tuple [x, y])), ρ1)) (h1 : okset np i ρ1 = true) (h2 : okset np j (ρ1.set i (some (.dat x))) = true) :
    asgT (gTp 2 (gCs (gNm np i) (gCs (gNm np j) gNl))) f ρ = some (.nx ((ρ1.set i (some (.dat x))).set j (some (.dat y)))) := by
  rw [asgT_eq, hv, thenS_ok]
  show (match gTp 2 (gCs (gNm np i) (gCs (gNm np j) gNl)) (.tuple [x, y]) ρ1 with
    | some ρ' => some (Fl.nx ρ')
    | none => none) = _
  have : gTp 2 (gCs (gNm np i) (gCs (gNm np j) gNl)) (.tuple [x, y]) ρ1 = some ((ρ1.set i (some (.dat x))).set j (some (.dat y))) := by
    show ((gNm np i x ρ1).bind (gCs (gNm np j) gNl [y])) = _
    rw [gNm_go h1]
    show ((gNm np j y _).bind (gNl [])) = _
    rw [gNm_go h2]
    rfl
  rw [this]
theorem ife_t {ft fa fb : EM} {ρ ρ1 : DL.Env} (h : ft ρ = some (.ok (.dat (.bool true)), ρ1)) : mIfE ft fa fb ρ = fa ρ1 := by
  rw [mIfE_eq, h, thenD_ok, boolK_b, if_pos rfl]
theorem ife_f {ft fa fb : EM} {ρ ρ1 : DL.Env} (h : ft ρ = some (.ok (.dat (.bool false)), ρ1)) : mIfE ft fa fb ρ = fb ρ1 := by
  rw [mIfE_eq, h, thenD_ok, boolK_b, if_neg (by simp)]
def okL (o : Option S) : Prop := o = none ∨ (∃ d, o = some (.dat d)) ∨ ∃ d, o = some (.own d)
theorem okL_set {np : Nat} {ρ : DL.Env} {i : Nat} {o : Option S} (h : ρ[i]? = some o) (hl : i < ρ.length) (ho : okL o) (hi : np ≤ i) : okset np i ρ = true := by
  rw [x_okset, h]
  rcases ho with rfl | ⟨d, rfl⟩ | ⟨d, rfl⟩ <;> simp [hl, hi]
theorem okL_d (d : D) : okL (some (.dat d)) := .inr (.inl ⟨d, rfl⟩)
theorem okL_o (d : List D) : okL (some (.own d)) := .inr (.inr ⟨d, rfl⟩)
end M

namespace M
open PySem PySem.Spec L2 DL
/-! ### the deck -/
def deckD (a b c : Int) : List D := [.int a, .int b, .int c]
/-- a deck of which at most m were drawn -/
def Deck (m : Int) (d : List D) : Prop := ∃ a b c : Int, d = deckD a b c ∧ 0 ≤ b ∧ b < 2147483579 ∧ 0 ≤ c ∧ c ≤ m
theorem Deck.mono {m n : Int} {d : List D} (h : Deck m d) (l : m ≤ n) : Deck n d := by
  obtain ⟨a, b, c, e, h1, h2, h3, h4⟩ := h
  exact ⟨a, b, c, e, h1, h2, h3, by omega⟩
section
variable {a b c x : Int} {ρ : DL.Env} {f : EM}
theorem oix0 : mOix 0 (mC (.int 0)) (some (.own (deckD a b c)) :: ρ) = some (.ok (.dat (.int a)), some (.own (deckD a b c)) :: ρ) := mOix_ok rfl rfl rfl
theorem oix1 : mOix 0 (mC (.int 1)) (some (.own (deckD a b c)) :: ρ) = some (.ok (.dat (.int b)), some (.own (deckD a b c)) :: ρ) := mOix_ok rfl rfl rfl
theorem oix2 : mOix 0 (mC (.int 2)) (some (.own (deckD a b c)) :: ρ) = some (.ok (.dat (.int c)), some (.own (deckD a b c)) :: ρ) := mOix_ok rfl rfl rfl
theorem set0 (h : f (some (.own (deckD a b c)) :: ρ) = some (.ok (.dat (.int x)), some (.own (deckD a b c)) :: ρ)) : setO 0 f (mC (.int 0)) (some (.own (deckD a b c)) :: ρ) = some (.nx (some (.own (deckD x b c)) :: ρ)) := setO_ok (i := 0) (g := mC (.int 0)) (ys := deckD a b c) (k := 0) h rfl rfl (j := 0) rfl
theorem set2 (h : f (some (.own (deckD a b c)) :: ρ) = some (.ok (.dat (.int x)), some (.own (deckD a b c)) :: ρ)) : setO 0 f (mC (.int 2)) (some (.own (deckD a b c)) :: ρ) = some (.nx (some (.own (deckD a b x)) :: ρ)) := setO_ok (i := 0) (g := mC (.int 2)) (ys := deckD a b c) (k := 2) h rfl rfl (j := 2) rfl
end
theorem gMod_ok {i j : Int} (h : j ≠ 0) : gMod (.int i) (.int j) = some (.int (i.fmod j)) := by
  show (if j ≠ 0 then _ else _) = _
  rw [if_pos h]
theorem gFdiv_ok {i j : Int} (h : j ≠ 0) (h2 : j.natAbs < 1073741824) : gFdiv (.int i) (.int j) = some (.int (i.fdiv j)) := by
  show (if j ≠ 0 ∧ j.natAbs < 1073741824 then _ else _) = _
  rw [if_pos ⟨h, h2⟩]
theorem gMul_ok {i j : Int} (h : CMul' i j) : gMul (.int i) (.int j) = some (.int (i * j)) := by
  show (if CMul' i j then _ else _) = _
  rw [if_pos h]
theorem gPow_ok {i j : Int} (h : 0 ≤ j ∧ j ≤ 1000000 ∧ i.natAbs < 18446744073709551616) : gPow (.int i) (.int j) = some (.int (i ^ j.toNat)) := by
  show (if 0 ≤ j ∧ j ≤ 1000000 ∧ i.natAbs < 18446744073709551616 then _ else _) = _
  rw [if_pos h]
theorem op2_go {g : D → D → Option D} {fa fb : EM} {ρ : DL.Env} {x y z : D} (ha : fa ρ = some (.ok (.dat x), ρ)) (hb : fb ρ = some (.ok (.dat y), ρ)) (h : g x y = some z) : op2 g fa fb ρ = some (.ok (.dat z), ρ) := by
  rw [op2_eq, ha, thenD_ok, hb, thenD_ok, h, optD_s]
theorem asg_go {np i : Nat} {f : EM} {ρ ρ1 : DL.Env} {s : S} (h : f ρ = some (.ok s, ρ1)) (ho : okset np i ρ1 = true) : asgN np i f ρ = some (.nx (ρ1.set i (some s))) := by
  rw [asgN_eq, h, thenS_ok, if_pos ho]
theorem ret_go {f : EM} {ρ ρ1 : DL.Env} {s : S} (h : f ρ = some (.ok s, ρ1)) : retS' f ρ = some (.rt s ρ1) := by
  rw [retS_eq', h, thenS_ok]
theorem if_t {ft : EM} {f g : SM} {ρ ρ1 : DL.Env} (h : ft ρ = some (.ok (.dat (.bool true)), ρ1)) : ifS ft f g ρ = f ρ1 := by
  rw [ifS_eq, h, thenS_ok, boolS_b, if_pos rfl]
theorem if_f {ft : EM} {f g : SM} {ρ ρ1 : DL.Env} (h : ft ρ = some (.ok (.dat (.bool false)), ρ1)) : ifS ft f g ρ = g ρ1 := by
  rw [ifS_eq, h, thenS_ok, boolS_b, if_neg (by simp)]
theorem int_go {f : EM} {ρ : DL.Env} {i : Int} (h : f ρ = some (.ok (.dat (.int i)), ρ)) : mCB gInt (mAc f mA0) ρ = some (.ok (.dat (.int i)), ρ) := by
  rw [mCB_eq, mAc_eq, h, argK_ok, mA0_eq, consA_in, thenA_in]
  rfl
theorem fmod_rng {i j : Int} (h : 0 < j) : 0 ≤ i.fmod j ∧ i.fmod j < j := ⟨Int.fmod_nonneg_of_pos _ h, Int.fmod_lt_of_pos _ h⟩
theorem pick_go {m : Int} {d : List D} {size : Int} (h : Deck m d) (hm : m ≤ 1000000) (hs : 0 < size) (hs2 : size < 1000000) :
    ∃ (r : Int) (d' : List D), 0 ≤ r ∧ r < size ∧ Deck (m + 1) d' ∧ m__law_pick [some (.own d), some (.dat (.int size))] = some (.ok (.dat (.int r)), [some (.own d'), some (.dat (.int size))]) := by
  obtain ⟨a, b, c, rfl, h1, h2, h3, h4⟩ := h
  by_cases ha : 1 < a
  · obtain ⟨r1, r2⟩ := fmod_rng (i := a) hs
    refine ⟨a.fmod size, deckD (a.fdiv size) b c, r1, r2, ⟨_, _, _, rfl, h1, h2, h3, by omega⟩, ?_⟩
    have ht : op2 gGt (mOix 0 (mC (.int 0))) (mC (.int 1)) [some (.own (deckD a b c)), some (.dat (.int size)), none, none] = some (.ok (.dat (.bool true)), [some (.own (deckD a b c)), some (.dat (.int size)), none, none]) := op2_go oix0 rfl (by simp [ha])
    have s1 : asgN 2 3 (op2 gMod (mCB gInt (mAc (mOix 0 (mC (.int 0))) mA0)) (mV 1)) [some (.own (deckD a b c)), some (.dat (.int size)), none, none] = some (.nx [some (.own (deckD a b c)), some (.dat (.int size)), none, some (.dat (.int (a.fmod size)))]) :=
      asg_go (op2_go (int_go oix0) rfl (gMod_ok (by omega))) rfl
    have s2 : setO 0 (op2 gFdiv (mOix 0 (mC (.int 0))) (mV 1)) (mC (.int 0)) [some (.own (deckD a b c)), some (.dat (.int size)), none, some (.dat (.int (a.fmod size)))] = some (.nx [some (.own (deckD (a.fdiv size) b c)), some (.dat (.int size)), none, some (.dat (.int (a.fmod size)))]) :=
      set0 (op2_go oix0 rfl (gFdiv_ok (by omega) (by omega)))
    have hb : b__law_pick [some (.own (deckD a b c)), some (.dat (.int size)), none, none] = some (.rt (.dat (.int (a.fmod size))) [some (.own (deckD (a.fdiv size) b c)), some (.dat (.int size)), none, some (.dat (.int (a.fmod size)))]) :=
      seq_rt ((if_t ht).trans (seq_nx s1 (seq_nx s2 (ret_go rfl))))
    show runK 2 [some (.own (deckD a b c)), some (.dat (.int size))] (b__law_pick [some (.own (deckD a b c)), some (.dat (.int size)), none, none]) = _
    rw [hb]
    simp
  · obtain ⟨n1, n2⟩ := fmod_rng (i := (b + 15485867 * (c + 1)) ^ 5) (j := 2147483647) (by omega)
    have ht : op2 gGt (mOix 0 (mC (.int 0))) (mC (.int 1)) [some (.own (deckD a b c)), some (.dat (.int size)), none, none] = some (.ok (.dat (.bool false)), [some (.own (deckD a b c)), some (.dat (.int size)), none, none]) := op2_go oix0 rfl (by simp [ha])
    have s1 : setO 0 (op2 gAdd (mOix 0 (mC (.int 2))) (mC (.int 1))) (mC (.int 2)) [some (.own (deckD a b c)), some (.dat (.int size)), none, none] = some (.nx [some (.own (deckD a b (c + 1))), some (.dat (.int size)), none, none]) := set2 (op2_go oix2 rfl rfl)
    generalize hnum : ((b + 15485867 * (c + 1)) ^ 5).fmod 2147483647 = num at n1 n2
    have s2 : asgN 2 2 (op2 gMod (op2 gPow (op2 gAdd (mOix 0 (mC (.int 1))) (op2 gMul (mC (.int 15485867)) (mOix 0 (mC (.int 2))))) (mC (.int 5))) (mC (.int 2147483647))) [some (.own (deckD a b (c + 1))), some (.dat (.int size)), none, none] = some (.nx [some (.own (deckD a b (c + 1))), some (.dat (.int size)), some (.dat (.int num)), none]) :=
      asg_go (op2_go (op2_go (op2_go oix1 (op2_go rfl oix2 (gMul_ok (.inl (by omega)))) rfl) rfl (gPow_ok (by omega))) rfl (by rw [gMod_ok (by omega)]; rw [← hnum]; rfl)) rfl
    generalize hf : (((num + 7919 * (c + 1)) ^ 3).fmod 2147483629).fdiv 32 = fo
    have s3 : asgN 2 3 (op2 gFdiv (op2 gMod (op2 gPow (op2 gAdd (mV 2) (op2 gMul (mC (.int 7919)) (mOix 0 (mC (.int 2))))) (mC (.int 3))) (mC (.int 2147483629))) (mC (.int 32))) [some (.own (deckD a b (c + 1))), some (.dat (.int size)), some (.dat (.int num)), none] = some (.nx [some (.own (deckD a b (c + 1))), some (.dat (.int size)), some (.dat (.int num)), some (.dat (.int fo))]) :=
      asg_go (op2_go (op2_go (op2_go (op2_go rfl (op2_go rfl oix2 (gMul_ok (.inl (by omega)))) rfl) rfl (gPow_ok (by omega))) rfl (gMod_ok (by omega))) rfl (by rw [gFdiv_ok (by omega) (by decide)]; rw [← hf]; rfl)) rfl
    obtain ⟨r1, r2⟩ := fmod_rng (i := fo) hs
    refine ⟨fo.fmod size, deckD a b (c + 1), r1, r2, ⟨_, _, _, rfl, h1, h2, by omega, by omega⟩, ?_⟩
    have s4 : retS' (op2 gMod (mCB gInt (mAc (mV 3) mA0)) (mV 1)) [some (.own (deckD a b (c + 1))), some (.dat (.int size)), some (.dat (.int num)), some (.dat (.int fo))] = some (.rt (.dat (.int (fo.fmod size))) [some (.own (deckD a b (c + 1))), some (.dat (.int size)), some (.dat (.int num)), some (.dat (.int fo))]) :=
      ret_go (op2_go (int_go rfl) rfl (gMod_ok (by omega)))
    have hb : b__law_pick [some (.own (deckD a b c)), some (.dat (.int size)), none, none] = some (.rt (.dat (.int (fo.fmod size))) [some (.own (deckD a b (c + 1))), some (.dat (.int size)), some (.dat (.int num)), some (.dat (.int fo))]) :=
      seq_nx ((if_f ht).trans nextS_eq) (seq_nx s1 (seq_nx s2 (seq_nx s3 s4)))
    show runK 2 [some (.own (deckD a b c)), some (.dat (.int size))] (b__law_pick [some (.own (deckD a b c)), some (.dat (.int size)), none, none]) = _
    rw [hb]
    simp
section
variable {F : EM} {f : EM} {i : Nat} {ρ : DL.Env} {d d' : List D} {x y : D} {o : Option S}
theorem call_ref2 (h : ρ[i]? = some (some (.own d))) (hf : f ρ = some (.ok (.dat x), ρ)) (hF : F [some (.own d), some (.dat x)] = some (.ok (.dat y), [some (.own d'), o])) : callM F (mAr i (mAc f mA0)) ρ = some (.ok (.dat y), ρ.set i (some (.own d'))) := by
  rw [callM_eq]
  have e : mAr i (mAc f mA0) ρ = some (.inl [.ref i, .dat x], ρ) := by
    unfold mAr
    rw [h]
    simp [hf]
  rw [e, thenA_in]
  unfold callK
  have e2 : argEnv [.ref i, .dat x] ρ = [some (.own d), some (.dat x)] := by simp [argEnv, argS, h]
  rw [e2, hF]
  simp [refsOf, nodupN, putBack]
theorem call_ref1 (h : ρ[i]? = some (some (.own d))) (hF : F [some (.own d)] = some (.ok (.dat y), [some (.own d')])) : callM F (mAr i mA0) ρ = some (.ok (.dat y), ρ.set i (some (.own d'))) := by
  rw [callM_eq]
  have e : mAr i mA0 ρ = some (.inl [.ref i], ρ) := by
    unfold mAr
    rw [h]
    simp
  rw [e, thenA_in]
  unfold callK
  have e2 : argEnv [.ref i] ρ = [some (.own d)] := by simp [argEnv, argS, h]
  rw [e2, hF]
  simp [refsOf, nodupN, putBack]
end
theorem pick_call {m : Int} {d : List D} {size : Int} {i : Nat} {f : EM} {ρ : DL.Env} (h : Deck m d) (hm : m ≤ 1000000) (hs : 0 < size) (hs2 : size < 1000000) (hi : ρ[i]? = some (some (.own d))) (hf : f ρ = some (.ok (.dat (.int size)), ρ)) :
    ∃ (r : Int) (d' : List D), 0 ≤ r ∧ r < size ∧ Deck (m + 1) d' ∧ callM m__law_pick (mAr i (mAc f mA0)) ρ = some (.ok (.dat (.int r)), ρ.set i (some (.own d'))) := by
  obtain ⟨r, d', h1, h2, h3, h4⟩ := pick_go h hm hs hs2
  exact ⟨r, d', h1, h2, h3, call_ref2 hi hf h4⟩
theorem par2_go {np i j : Nat} {f g : EM} {ρ ρ1 ρ2 : DL.Env} {s t : S} (h1 : f ρ = some (.ok s, ρ1)) (h2 : g ρ1 = some (.ok t, ρ2)) (o1 : okset np i ρ2 = true) (o2 : okset np j (ρ2.set i (some s)) = true) : parS np [i, j] [f, g] ρ = some (.nx ((ρ2.set i (some s)).set j (some t))) := by
  unfold parS
  simp only [parE, h1, h2, setAll, o1, o2, if_true]
theorem add_go {f g : EM} {ρ ρ1 ρ2 : DL.Env} {a b : Int} (h1 : f ρ = some (.ok (.dat (.int a)), ρ1)) (h2 : g ρ1 = some (.ok (.dat (.int b)), ρ2)) : op2 gAdd f g ρ = some (.ok (.dat (.int (a + b))), ρ2) := by
  rw [op2_eq, h1, thenD_ok, h2, thenD_ok]; rfl
theorem sub_go {f g : EM} {ρ ρ1 ρ2 : DL.Env} {a b : Int} (h1 : f ρ = some (.ok (.dat (.int a)), ρ1)) (h2 : g ρ1 = some (.ok (.dat (.int b)), ρ2)) : op2 gSub f g ρ = some (.ok (.dat (.int (a - b))), ρ2) := by
  rw [op2_eq, h1, thenD_ok, h2, thenD_ok]; rfl
theorem callK_own {F : EM} {ds xs : List D} {ρ ρ' : DL.Env} (hl : ρ'.length = ds.length) (h : F (ds.map fun d => some (.dat d)) = some (.ok (.own xs), ρ')) : callK F (ds.map Arg.dat) ρ = some (.ok (.own xs), ρ) := by
  unfold callK
  rw [refs_dat]
  have e : argEnv (ds.map Arg.dat) ρ = ds.map fun d => some (.dat d) := by simp [argEnv, argS]
  rw [e, h]
  simp [nodupN, optB, hl, putBack_dat]
theorem deck_go (cell t : Int) (ht0 : 0 ≤ t) : ∃ d, Deck t d ∧ m__law_deck [some (.dat (.int cell)), some (.dat (.int t))] = some (.ok (.own d), [some (.dat (.int cell)), some (.dat (.int t))]) := by
  obtain ⟨r1, r2⟩ := fmod_rng (i := cell) (j := 2147483579) (by omega)
  have hp : ∀ ρ, op2 gPow (mC (.int 10)) (mC (.int 18)) ρ = some (.ok (.dat (.int (10 ^ 18))), ρ) := fun ρ => op2_go rfl rfl (by rw [gPow_ok (by decide)]; rfl)
  have hm : ∀ ρ, op2 gMod (mV 0) (mC (.int 2147483579)) (some (.dat (.int cell)) :: ρ) = some (.ok (.dat (.int (cell.fmod 2147483579))), some (.dat (.int cell)) :: ρ) := fun ρ => op2_go rfl rfl (gMod_ok (by omega))
  have ht : op2 gGe (mV 0) (op2 gPow (mC (.int 10)) (mC (.int 18))) [some (.dat (.int cell)), some (.dat (.int t))] = some (.ok (.dat (.bool (decide (10 ^ 18 ≤ cell)))), [some (.dat (.int cell)), some (.dat (.int t))]) := op2_go rfl (hp _) rfl
  by_cases hc : (10 : Int) ^ 18 ≤ cell
  · refine ⟨deckD (cell - 10 ^ 18) (cell.fmod 2147483579) t, ⟨_, _, _, rfl, r1, r2, by omega, by omega⟩, ?_⟩
    rw [decide_eq_true hc] at ht
    have hb : b__law_deck [some (.dat (.int cell)), some (.dat (.int t))] = some (.rt (.own (deckD (cell - 10 ^ 18) (cell.fmod 2147483579) t)) [some (.dat (.int cell)), some (.dat (.int t))]) := by
      refine seq_rt ((if_t ht).trans (ret_go ?_))
      have hsub : op2 gSub (mV 0) (op2 gPow (mC (.int 10)) (mC (.int 18))) [some (.dat (.int cell)), some (.dat (.int t))] = some (.ok (.dat (.int (cell - 10 ^ 18))), [some (.dat (.int cell)), some (.dat (.int t))]) := op2_go rfl (hp _) rfl
      rw [mCB_eq, mAc_ok hsub, mAc_ok (hm _), mAc_ok (show mV 1 [some (.dat (.int cell)), some (.dat (.int t))] = some (.ok (.dat (.int t)), [some (.dat (.int cell)), some (.dat (.int t))]) from rfl), mA0_eq]
      simp only [consA_in, thenA_in, datsOf_cons, datsOf_nil, Option.map_some, optB_s]
      unfold gLstO
      rw [if_pos (by simp)]
      rfl
    show runK 2 [some (.dat (.int cell)), some (.dat (.int t))] (b__law_deck [some (.dat (.int cell)), some (.dat (.int t))]) = _
    rw [hb]
    simp
  · refine ⟨deckD 0 (cell.fmod 2147483579) t, ⟨_, _, _, rfl, r1, r2, by omega, by omega⟩, ?_⟩
    rw [decide_eq_false hc] at ht
    have hb : b__law_deck [some (.dat (.int cell)), some (.dat (.int t))] = some (.rt (.own (deckD 0 (cell.fmod 2147483579) t)) [some (.dat (.int cell)), some (.dat (.int t))]) := by
      refine seq_nx ((if_f ht).trans nextS_eq) (ret_go ?_)
      rw [mCB_eq, mAc_ok mC_eq, mAc_ok (hm _), mAc_ok (show mV 1 [some (.dat (.int cell)), some (.dat (.int t))] = some (.ok (.dat (.int t)), [some (.dat (.int cell)), some (.dat (.int t))]) from rfl), mA0_eq]
      simp only [consA_in, thenA_in, datsOf_cons, datsOf_nil, Option.map_some, optB_s]
      unfold gLstO
      rw [if_pos (by simp)]
      rfl
    show runK 2 [some (.dat (.int cell)), some (.dat (.int t))] (b__law_deck [some (.dat (.int cell)), some (.dat (.int t))]) = _
    rw [hb]
    simp
theorem deck_call {ρ : DL.Env} {j : Nat} {cell t : Int} (h : ρ[j]? = some (some (.dat (.int cell)))) (ht : 0 ≤ t) : ∃ d, Deck t d ∧ callM m__law_deck (mAc (mV j) (mAc (mC (.int t)) mA0)) ρ = some (.ok (.own d), ρ) := by
  obtain ⟨d, g, hd⟩ := deck_go cell t ht
  refine ⟨d, g, ?_⟩
  have w := callK_own (ds := [.int cell, .int t]) (ρ := ρ) rfl hd
  simp only [List.map] at w
  rw [callM_eq, mAc_ok (mV_s (e := none) h), mAc_ok mC_eq, mA0_eq]
  simp only [consA_in, thenA_in]
  exact w
theorem eq_go {f g : EM} {ρ ρ1 ρ2 : DL.Env} {x y : D} (hf : f ρ = some (.ok (.dat x), ρ1)) (hg : g ρ1 = some (.ok (.dat y), ρ2)) (h : eqOk x y = true) : op2 gEq f g ρ = some (.ok (.dat (.bool (PyData.eqv x y))), ρ2) := by
  rw [op2_eq, hf, thenD_ok, hg, thenD_ok, x_gEq, if_pos h, optD_s]
theorem not_t {f : EM} {ρ ρ1 : DL.Env} (h : f ρ = some (.ok (.dat (.bool true)), ρ1)) : mNot f ρ = some (.ok (.dat (.bool false)), ρ1) := by
  rw [mNot_eq, h, thenD_ok, boolK_b, if_pos rfl, retD_eq]
theorem not_f {f : EM} {ρ ρ1 : DL.Env} (h : f ρ = some (.ok (.dat (.bool false)), ρ1)) : mNot f ρ = some (.ok (.dat (.bool true)), ρ1) := by
  rw [mNot_eq, h, thenD_ok, boolK_b, if_neg (by simp), retD_eq]
theorem call1_go {F f : EM} {ρ ρ1 : DL.Env} {x y : D} (hf : f ρ = some (.ok (.dat x), ρ1)) (h : Ans F [x] y) : callM F (mAc f mA0) ρ = some (.ok (.dat y), ρ1) := by
  rw [callM_eq, mAc_ok hf, mA0_eq, consA_in, thenA_in]
  exact callK_dat h
theorem cells_go {ns : List Int} {ρ : DL.Env} {n : Nat} (h : ρ[0]? = some (some (.dat (.list (ns.map .int))))) (hl : ns.length ≤ 63) : iSeq (mSl gSl (op2 gAdd (mCB gLst (mAc (mC (.int 0)) mA0)) (mV 0)) mNoPart (mPart (mC (.int n)))) ρ = some (.inl ((PyData.int 0 :: ns.map PyData.int).take n), ρ) := by
  refine iSeq_ok (d := .list ((PyData.int 0 :: ns.map PyData.int).take n)) ?_ rfl
  have h0 : mCB gLst (mAc (mC (.int 0)) mA0) ρ = some (.ok (.dat (.list [.int 0])), ρ) := by
    rw [mCB_eq, mAc_ok mC_eq, mA0_eq, consA_in, thenA_in]
    rfl
  have ha : op2 gAdd (mCB gLst (mAc (mC (.int 0)) mA0)) (mV 0) ρ = some (.ok (.dat (.list (PyData.int 0 :: ns.map PyData.int))), ρ) := op2_go h0 (mV_s (e := none) h) (gAdd_l (by unfold big; simp; omega))
  rw [mSl_eq, ha, thenD_ok, mNoPart_eq, thenO_in, mPart_eq, mC_eq, partK_ok, thenO_in]
  have := cut_to (xs := PyData.int 0 :: ns.map PyData.int) (n := n)
  show optD (some (.list (cutD _ none (some (n : Int))))) _ = _
  rw [this]
  rfl
theorem cells_sub {ns : List Int} {n : Nat} {d : D} (h : d ∈ (PyData.int 0 :: ns.map PyData.int).take n) : ∃ i : Int, d = .int i := by
  have := List.mem_of_mem_take h
  rcases List.mem_cons.mp this with e | e
  · exact ⟨0, e⟩
  · obtain ⟨i, _, rfl⟩ := List.mem_map.mp e
    exact ⟨i, rfl⟩
end M

namespace K25
open PySem PySem.Spec L2 DL M
def lay (t r f : Int) (h w : Str) : D := .tuple [.int t, .int r, .int f, .str h, .str w]
def row4 (a b c d : Int) : D := .tuple [.int a, .int b, .int c, .int d]
def row2 (a b : Int) : D := .tuple [.int a, .int b]
def sash : D := lay 1 0 0 swithin sstill
def dFirst : D := .tuple [.tuple [sash, lay 1 (-1) 0 swithin sstill], .tuple [row4 0 1 1 1]]
def dFlip : D := .tuple [.tuple [lay 1 0 0 swithout sstill, lay 1 (-1) 0 swithout sstill], .tuple [row4 0 1 1 1]]
def dThird : D := .tuple [.tuple [lay 1 0 0 swithin sshuts, lay 1 (-1) 0 sboth sstill], .tuple []]
def dFourth : D := .tuple [.tuple [sash, lay 1 (-1) 0 swithout sopens], .tuple [row4 0 1 0 0]]
def dTwo : D := .tuple [.tuple [.tuple [row2 1 1, row2 0 1, row2 1 0], .str sflyless], .tuple [.tuple [row2 1 1, row2 0 0, row2 1 0], .str sdry]]
def dWide : D := .tuple [.tuple [.tuple [row2 0 1, row2 1 1], .str snone]]
def Ev (sc : D) (a b c d : Option S) : DL.Env := [some (.dat sc), some (.dat dFirst), some (.dat dThird), some (.dat dFourth), some (.dat dTwo), some (.dat dWide), a, b, c, d]
def En (sc : D) : DL.Env := [some (.dat sc), none, none, none, none, none, none, none, none, none]
theorem tall_t : F__law_tall_right [some (.dat (.bool true))] = some (.ok (.dat (.bool true)), [some (.dat (.bool true))]) := by kernel_rfl
theorem tall_f : F__law_tall_right [some (.dat (.bool false))] = some (.ok (.dat (.bool true)), [some (.dat (.bool false))]) := by kernel_rfl
theorem tall (b : Bool) : Ans m__law_tall_right [.bool b] (.bool true) := by
  rw [← F__law_tall_right_eq]
  cases b
  · exact ⟨_, rfl, tall_f⟩
  · exact ⟨_, rfl, tall_t⟩
theorem pair0 {sc : D} {i : Int} {o : List D} {c d : Option S} : mCB gTup' (mAc (mV 1) (mAc (mC (.int 0)) mA0)) (Ev sc (some (.dat (.int i))) (some (.own o)) c d) = some (.ok (.dat (.tuple [dFirst, .int 0])), Ev sc (some (.dat (.int i))) (some (.own o)) c d) := by kernel_rfl
theorem pair1 {sc : D} {i : Int} {o : List D} {c d : Option S} : mCB gTup' (mAc (callM F_exchanged (mAc (mV 1) mA0)) (mAc (mC (.int 1)) mA0)) (Ev sc (some (.dat (.int i))) (some (.own o)) c d) = some (.ok (.dat (.tuple [dFlip, .int 1])), Ev sc (some (.dat (.int i))) (some (.own o)) c d) := by kernel_rfl
theorem law_ts (ns : List Int) (hl : ns.length ≤ 63) : TS b_law (En (.list (ns.map .int))) fun r => ∃ ρ', r = .rt (.dat (.bool true)) ρ' ∧ 1 ≤ ρ'.length := by
  rw [← Fb_law_eq]
  generalize hsc : (PyData.list (ns.map .int) : D) = sc
  unfold Fb_law
  refine ts_eq (ρ1 := Ev sc none none none none) (by kernel_rfl) ?_
  refine ts_seq (ts_for (fun _ ρ => ∃ a b c d, ρ = Ev sc a b c d ∧ okL a ∧ okL b ∧ okL c ∧ okL d) (cells_go (n := 4) (ns := ns) (by subst hsc; rfl) hl) ⟨_, _, _, _, rfl, .inl rfl, .inl rfl, .inl rfl, .inl rfl⟩ (fun p e q ρ he hI => ?_) fun ρ' hI => ?_)
  · obtain ⟨a, b, c, d, rfl, oa, ob, oc, od⟩ := hI
    obtain ⟨i, rfl⟩ := cells_sub (ns := ns) (n := 4) (d := e) (by rw [he]; simp)
    refine ⟨Ev sc (some (.dat (.int i))) b c d, gNm_go (okL_set (o := a) rfl (by simp [Ev]) oa (by omega)), ?_⟩
    obtain ⟨d0, g0, hd0⟩ := deck_call (ρ := Ev sc (some (.dat (.int i))) b c d) (j := 6) (cell := i) (t := 25) rfl (by omega)
    refine ts_eq (ρ1 := Ev sc (some (.dat (.int i))) (some (.own d0)) c d) (asg_go hd0 (okL_set (o := b) rfl (by simp [Ev]) ob (by omega))) ?_
    obtain ⟨r1, d1, b1, b2, b3, b4⟩ := pick_call (i := 7) (f := mC (.int 2)) (ρ := Ev sc (some (.dat (.int i))) (some (.own d0)) c d) (size := 2) g0 (by omega) (by omega) (by omega) rfl rfl
    refine ts_eq (ρ1 := Ev sc (some (.dat (.int i))) (some (.own d1)) c d) ((if_f (not_t (call1_go (eq_go b4 mC_eq rfl) (by rw [F__law_tall_right_eq]; exact tall _)))).trans nextS_eq) ?_
    obtain ⟨r2, d2, c1, c2, c3, c4⟩ := pick_call (i := 7) (f := mC (.int 2)) (ρ := Ev sc (some (.dat (.int i))) (some (.own d1)) c d) (size := 2) b3 (by omega) (by omega) (by omega) rfl rfl
    have hr : r2 = 0 ∨ r2 = 1 := by omega
    rcases hr with rfl | rfl
    · have h2 := eq_go c4 (mC_eq (d := .int 1)) rfl
      refine ts_eq (ρ1 := Ev sc (some (.dat (.int i))) (some (.own d2)) (some (.dat dFirst)) (some (.dat (.int 0)))) (asgT2_go ((ife_f h2).trans (pair0 (sc := sc) (i := i) (o := d2) (c := c) (d := d))) (okL_set (o := c) rfl (by simp [Ev]) oc (by omega)) (okL_set (o := d) rfl (by simp [Ev]) od (by omega))) ?_
      refine ts_eq (ρ1 := Ev sc (some (.dat (.int i))) (some (.own d2)) (some (.dat dFirst)) (some (.dat (.int 0)))) (by kernel_rfl) ?_
      exact ts_end (r := .nx (Ev sc (some (.dat (.int i))) (some (.own d2)) (some (.dat dFirst)) (some (.dat (.int 0))))) (by kernel_rfl) ⟨_, .inl rfl, _, _, _, _, rfl, okL_d _, okL_o _, okL_d _, okL_d _⟩
    · have h2 := eq_go c4 (mC_eq (d := .int 1)) rfl
      refine ts_eq (ρ1 := Ev sc (some (.dat (.int i))) (some (.own d2)) (some (.dat dFlip)) (some (.dat (.int 1)))) (asgT2_go ((ife_t h2).trans (pair1 (sc := sc) (i := i) (o := d2) (c := c) (d := d))) (okL_set (o := c) rfl (by simp [Ev]) oc (by omega)) (okL_set (o := d) rfl (by simp [Ev]) od (by omega))) ?_
      refine ts_eq (ρ1 := Ev sc (some (.dat (.int i))) (some (.own d2)) (some (.dat dFlip)) (some (.dat (.int 1)))) (by kernel_rfl) ?_
      exact ts_end (r := .nx (Ev sc (some (.dat (.int i))) (some (.own d2)) (some (.dat dFlip)) (some (.dat (.int 1))))) (by kernel_rfl) ⟨_, .inl rfl, _, _, _, _, rfl, okL_d _, okL_o _, okL_d _, okL_d _⟩
  · obtain ⟨a, b, c, d, rfl, _⟩ := hI
    refine ⟨_, rfl, ?_⟩
    refine ts_eq (ρ1 := Ev sc a b c d) (by kernel_rfl) ?_
    refine ts_eq (ρ1 := Ev sc a b c d) (by kernel_rfl) ?_
    refine ts_eq (ρ1 := Ev sc a b c d) (by kernel_rfl) ?_
    refine ts_eq (ρ1 := Ev sc a b c d) (by kernel_rfl) ?_
    refine ts_eq (ρ1 := Ev sc a b c d) (by kernel_rfl) ?_
    refine ts_eq (ρ1 := Ev sc a b c d) (by kernel_rfl) ?_
    refine ts_eq (ρ1 := Ev sc a b c d) (by kernel_rfl) ?_
    exact ts_end (r := .rt (.dat (.bool true)) (Ev sc a b c d)) (by kernel_rfl) ⟨_, rfl, by simp [Ev]⟩
theorem law_true (ns : List Int) (hl : ns.length ≤ 63) : ∃ ρ', m_law [some (.dat (.list (ns.map .int)))] = some (.ok (.dat (.bool true)), ρ') := by
  unfold m_law
  exact ans_ts (np := 1) (loc := 9) rfl (law_ts ns hl)
end K25

namespace K25
open PySem PySem.Spec L2 DL M
def top (i : Nat) : Stmt := PySem.Challenge.pw_sashscreens_k25_whole_windows_by_words.main.body.getD i (.Pass ⟨0, 0, 0, 0⟩)
abbrev Df (K : PySem.W.Frag) (mg : Str → Option Value) (x : Str) (st : Stmt) : Prop := ∃ f fd, mg x = some (.ref f) ∧ FunD K x x (defArgs st) (defBody st) (defScope st) [] [] f fd
structure Facts [TheW] (Pr : Program) (w : World) (K : PySem.W.Frag) (mg : Str → Option Value) (base : Heap) : Prop where
  bi : Bi mg
  isP : Pr = TheW.P
  isW : w = TheW.w
  c_HANDS : ∃ a, mg "HANDS" = some (.ref a) ∧ ∀ H, Dp K H (.ref a) c_HANDS
  c_WINDS : ∃ a, mg "WINDS" = some (.ref a) ∧ ∀ H, Dp K H (.ref a) c_WINDS
  c_WISHES : ∃ a, mg "WISHES" = some (.ref a) ∧ ∀ H, Dp K H (.ref a) c_WISHES
  c_MOST_BARS : ∃ t, mg "MOST_BARS" = some (.int 6 t)
  c_MOST_STEPS : ∃ t, mg "MOST_STEPS" = some (.int 5 t)
  c_MOST_HABITS : ∃ t, mg "MOST_HABITS" = some (.int 3 t)
  c_PLACES : ∃ a, mg "PLACES" = some (.ref a) ∧ ∀ H, Dp K H (.ref a) c_PLACES
  c_HARMS : ∃ a, mg "HARMS" = some (.ref a) ∧ ∀ H, Dp K H (.ref a) c_HARMS
  d_is_within : Df K mg "is_within" (top 16)
  d_is_word : Df K mg "is_word" (top 17)
  d_is_layer : Df K mg "is_layer" (top 18)
  d_is_bar : Df K mg "is_bar" (top 19)
  d_is_window_value : Df K mg "is_window_value" (top 20)
  d_is_step : Df K mg "is_step" (top 21)
  d_is_habit : Df K mg "is_habit" (top 22)
  d_is_house_value : Df K mg "is_house_value" (top 23)
  d_is_settings_value : Df K mg "is_settings_value" (top 24)
  d_need_window : Df K mg "need_window" (top 25)
  d_need_house : Df K mg "need_house" (top 26)
  d_need_settings : Df K mg "need_settings" (top 27)
  d_need_place : Df K mg "need_place" (top 28)
  d_all_settings : Df K mg "all_settings" (top 29)
  d_shut_of : Df K mg "shut_of" (top 30)
  d_open_of : Df K mg "open_of" (top 31)
  d_kept_by : Df K mg "kept_by" (top 32)
  d_exchanged_so : Df K mg "exchanged_so" (top 33)
  d_kept : Df K mg "kept" (top 34)
  d_exchanged : Df K mg "exchanged" (top 35)
  d_is_free : Df K mg "is_free" (top 38)
  d_with_step : Df K mg "with_step" (top 39)
  d_can_step : Df K mg "can_step" (top 40)
  d_has_hand : Df K mg "has_hand" (top 41)
  d_hand_moves : Df K mg "hand_moves" (top 42)
  d_wind_moves : Df K mg "wind_moves" (top 43)
  d_ways_from : Df K mg "ways_from" (top 44)
  d_need_all : Df K mg "need_all" (top 45)
  d_moves : Df K mg "moves" (top 46)
  d_winds : Df K mg "winds" (top 47)
  d_fewest : Df K mg "fewest" (top 48)
  d_dead : Df K mg "dead" (top 49)
  d_farthest : Df K mg "farthest" (top 50)
  d_begin : Df K mg "begin" (top 52)
  d_towards : Df K mg "towards" (top 53)
  d_habit_done : Df K mg "habit_done" (top 54)
  d_broken : Df K mg "broken" (top 55)
  d_habit_rows : Df K mg "habit_rows" (top 56)
  d_event_rows : Df K mg "event_rows" (top 57)
  d_graph_of : Df K mg "graph_of" (top 60)
  d_histories : Df K mg "histories" (top 61)
  d_stand_harms : Df K mg "stand_harms" (top 62)
  d_first_harms : Df K mg "first_harms" (top 63)
  d_need_harm : Df K mg "need_harm" (top 64)
  d_harms : Df K mg "harms" (top 65)
  d_calm_harms : Df K mg "calm_harms" (top 66)
  d_first_history : Df K mg "first_history" (top 67)
  d_count_stands : Df K mg "count_stands" (top 68)
  d_all_bars : Df K mg "all_bars" (top 70)
  d_bars_changed : Df K mg "bars_changed" (top 71)
  d_steps_of : Df K mg "steps_of" (top 72)
  d_is_sure : Df K mg "is_sure" (top 73)
  d_bar_changes : Df K mg "bar_changes" (top 74)
  d_sure_steps : Df K mg "sure_steps" (top 75)
  d_deeds_of : Df K mg "deeds_of" (top 77)
  d_parted : Df K mg "parted" (top 78)
  d_need_two : Df K mg "need_two" (top 79)
  d_parting : Df K mg "parting" (top 80)
  d_idle_bars : Df K mg "idle_bars" (top 81)
  d__law_deck : Df K mg "_law_deck" (top 83)
  d__law_pick : Df K mg "_law_pick" (top 84)
  d__law_known : Df K mg "_law_known" (top 85)
  d__law_tall_right : Df K mg "_law_tall_right" (top 86)
  d_law : Df K mg "law" (top 87)
section
variable [TheW] {Pr : Program} {w : World} {K : PySem.W.Frag} {mg : Str → Option Value} {base : Heap}
abbrev s_is_within : Stmt := top 16
theorem sc_is_within : FnScope ["value", "low", "high"] ["value", "low", "high"] (defScope s_is_within) := ⟨rfl, rfl, rfl, by decide +kernel, rfl, by decide +kernel, by decide +kernel⟩
theorem ok_is_within (Φ : Facts Pr w K mg base) : FnD Pr w K mg base "is_within" 2 ["value", "low", "high"] m_is_within := by
  obtain ⟨f, fd, hm, F⟩ := Φ.d_is_within
  have hb : Binds K fd ["value", "low", "high"] [] := F.bindsN fun _ _ _ _ _ _ us hl => match us, hl with | [_, _, _], _ => rfl
  exact fndQ F hm hb sc_is_within fun cdv A outer s H E hr => (pdb_one (pds_ret (pd_and (p_isInt Φ.bi (pv 0)) (pd_and (pd_not (p_isBool Φ.bi (pv 0))) (pd_one (v_lele (pv 1) (pv 0) (pv 2)))))))
abbrev s_is_word : Stmt := top 17
theorem sc_is_word : FnScope ["value", "words"] ["value", "words"] (defScope s_is_word) := ⟨rfl, rfl, rfl, by decide +kernel, rfl, by decide +kernel, by decide +kernel⟩
theorem ok_is_word (Φ : Facts Pr w K mg base) : FnD Pr w K mg base "is_word" 2 ["value", "words"] m_is_word := by
  obtain ⟨f, fd, hm, F⟩ := Φ.d_is_word
  have hb : Binds K fd ["value", "words"] [] := F.bindsN fun _ _ _ _ _ _ us hl => match us, hl with | [_, _], _ => rfl
  exact fndQ F hm hb sc_is_word fun cdv A outer s H E hr => (pdb_one (pds_ret (pd_and (p_isStr Φ.bi (pv 0)) (pd_one (v_in hr (pv 0) (pv 1))))))
abbrev s_is_layer : Stmt := top 18
theorem sc_is_layer : FnScope ["value"] ["value"] (defScope s_is_layer) := ⟨rfl, rfl, rfl, by decide +kernel, rfl, by decide +kernel, by decide +kernel⟩
theorem ok_is_layer (Φ : Facts Pr w K mg base) : FnD Pr w K mg base "is_layer" 3 ["value"] m_is_layer := by
  obtain ⟨f, fd, hm, F⟩ := Φ.d_is_layer
  have hb : Binds K fd ["value"] [] := F.bindsN fun _ _ _ _ _ _ us hl => match us, hl with | [_], _ => rfl
  exact fndQ F hm hb sc_is_layer fun cdv A outer s H E hr => (pdb_cons (pds_if (pdt_w (pdw_or (pdt_not (pdt_val (p_isTuple Φ.bi (pv 0)))) (pdw_or (t_ne hr (p_len Φ.bi (pv 0)) (pd_int)) (pdw_or1 (pdt_not (pdt_val (pd_call ((ok_is_within Φ).mono (by decide)) hr rfl passL (pda_cons (p_ix (pv 0) (pd_int)) (pda_cons (pd_int) (pda_cons (pd_int) (pda_nil)))) (amc (amc (amc (am0))))))))))) (pdb_one (pds_ret (pd_bl))) (pdb_nil)) (pdb_cons (pds_if (pdt_w (pdw_or (pdt_not (pdt_val (pd_call ((ok_is_within Φ).mono (by decide)) hr rfl passL (pda_cons (p_ix (pv 0) (pd_int)) (pda_cons (p_neg (pd_int)) (pda_cons (p_ix (pv 0) (pd_int)) (pda_nil)))) (amc (amc (amc (am0))))))) (pdw_or1 (pdt_not (pdt_val (pd_call ((ok_is_within Φ).mono (by decide)) hr rfl passL (pda_cons (p_ix (pv 0) (pd_int)) (pda_cons (p_neg (pd_int)) (pda_cons (p_ix (pv 0) (pd_int)) (pda_nil)))) (amc (amc (amc (am0)))))))))) (pdb_one (pds_ret (pd_bl))) (pdb_nil)) (pdb_one (pds_ret (pd_and (pd_call ((ok_is_word Φ).mono (by decide)) hr rfl passL (pda_cons (p_ix (pv 0) (pd_int)) (pda_cons (p_gobj Φ.c_HANDS) (pda_nil))) (amc (amc (am0)))) (pd_one (pd_call ((ok_is_word Φ).mono (by decide)) hr rfl passL (pda_cons (p_ix (pv 0) (pd_int)) (pda_cons (p_gobj Φ.c_WINDS) (pda_nil))) (amc (amc (am0))))))))))
abbrev s_is_bar : Stmt := top 19
theorem sc_is_bar : FnScope ["layers", "value", "top"] ["layers", "value"] (defScope s_is_bar) := ⟨rfl, rfl, rfl, by decide +kernel, rfl, by decide +kernel, by decide +kernel⟩
theorem ok_is_bar (Φ : Facts Pr w K mg base) : FnD Pr w K mg base "is_bar" 3 ["layers", "value"] m_is_bar := by
  obtain ⟨f, fd, hm, F⟩ := Φ.d_is_bar
  have hb : Binds K fd ["layers", "value"] [] := F.bindsN fun _ _ _ _ _ _ us hl => match us, hl with | [_, _], _ => rfl
  exact fndQ F hm hb sc_is_bar fun cdv A outer s H E hr => (pdb_cons (pds_if (pdt_w (pdw_or (pdt_not (pdt_val (p_isTuple Φ.bi (pv 1)))) (pdw_or (t_ne hr (p_len Φ.bi (pv 1)) (pd_int)) (pdw_or1 (pdt_not (pdt_val (pd_call ((ok_is_within Φ).mono (by decide)) hr rfl passL (pda_cons (p_ix (pv 1) (pd_int)) (pda_cons (pd_int) (pda_cons (p_sub (p_len Φ.bi (pv 0)) (pd_int)) (pda_nil)))) (amc (amc (amc (am0))))))))))) (pdb_one (pds_ret (pd_bl))) (pdb_nil)) (pdb_cons (pds_if (pdt_w (pdw_or (pdt_not (pdt_val (pd_call ((ok_is_within Φ).mono (by decide)) hr rfl passL (pda_cons (p_ix (pv 1) (pd_int)) (pda_cons (pd_int) (pda_cons (p_sub (p_len Φ.bi (pv 0)) (pd_int)) (pda_nil)))) (amc (amc (amc (am0))))))) (pdw_or1 (t_eq hr (p_ix (pv 1) (pd_int)) (p_ix (pv 1) (pd_int)))))) (pdb_one (pds_ret (pd_bl))) (pdb_nil)) (pdb_cons (pds_set sc_is_bar.nd (i := 2) rfl (by first | exact .inl rfl | exact .inr rfl) (p_ix (p_ix (pv 0) (p_ix (pv 1) (pd_int))) (pd_int))) (pdb_cons (pds_if (pdt_w (pdw_or (pdt_not (pdt_val (pd_call ((ok_is_within Φ).mono (by decide)) hr rfl passL (pda_cons (p_ix (pv 1) (pd_int)) (pda_cons (pd_int) (pda_cons (pv 2) (pda_nil)))) (amc (amc (amc (am0))))))) (pdw_or1 (pdt_not (pdt_val (pd_call ((ok_is_within Φ).mono (by decide)) hr rfl passL (pda_cons (p_ix (pv 1) (pd_int)) (pda_cons (p_ix (pv 1) (pd_int)) (pda_cons (pv 2) (pda_nil)))) (amc (amc (amc (am0)))))))))) (pdb_one (pds_ret (pd_bl))) (pdb_nil)) (pdb_one (pds_ret (pd_or (v_gt (p_ix (pv 1) (pd_int)) (pd_int)) (pd_one (v_lt hr (p_ix (pv 1) (pd_int)) (pv 2))))))))))
abbrev s_is_window_value : Stmt := top 20
theorem sc_is_window_value : FnScope ["value", "layers", "bars", "one", "other"] ["value"] (defScope s_is_window_value) := ⟨rfl, rfl, rfl, by decide +kernel, rfl, by decide +kernel, by decide +kernel⟩
theorem ok_is_window_value (Φ : Facts Pr w K mg base) : FnD Pr w K mg base "is_window_value" 4 ["value"] m_is_window_value := by
  obtain ⟨f, fd, hm, F⟩ := Φ.d_is_window_value
  have hb : Binds K fd ["value"] [] := F.bindsN fun _ _ _ _ _ _ us hl => match us, hl with | [_], _ => rfl
  exact fndQ F hm hb sc_is_window_value fun cdv A outer s H E hr => (pdb_cons (pds_if (pdt_w (pdw_or (pdt_not (pdt_val (p_isTuple Φ.bi (pv 0)))) (pdw_or (t_ne hr (p_len Φ.bi (pv 0)) (pd_int)) (pdw_or1 (pdt_not (pdt_val (p_isTuple Φ.bi (p_ix (pv 0) (pd_int))))))))) (pdb_one (pds_ret (pd_bl))) (pdb_nil)) (pdb_cons (pds_asg (pv 0) (pdg_tup rfl (pdgs_cons (pdg_name sc_is_window_value.nd rfl (by first | exact .inl rfl | exact .inr rfl)) (pdgs_cons (pdg_name sc_is_window_value.nd rfl (by first | exact .inl rfl | exact .inr rfl)) (pdgs_nil))))) (pdb_cons (pds_if (pdt_w (pdw_or (pdt_not (t_lele (pd_int) (p_len Φ.bi (pv 1)) (pd_int))) (pdw_or1 (pdt_not (pdt_val (p_all Φ.bi rfl (pd_comp (own := [("one", 3)]) (ow := false) rfl sc_is_window_value.nd (pdi_seq (pv 1)) (blkOk_by (by kernel_rfl)) (by decide) (fun _ _ _ _ _ => pdg_name sc_is_window_value.nd rfl (by first | exact .inl rfl | exact .inr rfl)) (fun _ _ _ _ _ => pdts_nil) (fun _ _ _ _ _ => pd_call ((ok_is_layer Φ).mono (by decide)) hr rfl passL (pda_cons (pv 3) (pda_nil)) (amc (am0)))))))))) (pdb_one (pds_ret (pd_bl))) (pdb_nil)) (pdb_cons (pds_if (pdt_w (pdw_or (pdt_not (pdt_val (p_isTuple Φ.bi (pv 2)))) (pdw_or (t_gt (p_len Φ.bi (pv 2)) (p_gint Φ.c_MOST_BARS)) (pdw_or1 (pdt_not (pdt_val (p_all Φ.bi rfl (pd_comp (own := [("one", 3)]) (ow := false) rfl sc_is_window_value.nd (pdi_seq (pv 2)) (blkOk_by (by kernel_rfl)) (by decide) (fun _ _ _ _ _ => pdg_name sc_is_window_value.nd rfl (by first | exact .inl rfl | exact .inr rfl)) (fun _ _ _ _ _ => pdts_nil) (fun _ _ _ _ _ => pd_call ((ok_is_bar Φ).mono (by decide)) hr rfl passL (pda_cons (pv 1) (pda_cons (pv 3) (pda_nil))) (amc (amc (am0)))))))))))) (pdb_one (pds_ret (pd_bl))) (pdb_nil)) (pdb_one (pds_ret (p_all Φ.bi rfl (pd_comp (own := [("one", 3), ("other", 4)]) (ow := false) rfl sc_is_window_value.nd (i_zip Φ.bi (pda_cons (pv 2) (pda_cons (p_sl (pv 2) (pdo_some (pd_int)) (pdo_none)) (pda_nil)))) (blkOk_by (by kernel_rfl)) (by decide) (fun _ _ _ _ _ => pdg_tup rfl (pdgs_cons (pdg_name sc_is_window_value.nd rfl (by first | exact .inl rfl | exact .inr rfl)) (pdgs_cons (pdg_name sc_is_window_value.nd rfl (by first | exact .inl rfl | exact .inr rfl)) (pdgs_nil)))) (fun _ _ _ _ _ => pdts_nil) (fun _ _ _ _ _ => v_lt hr (pv 3) (pv 4))))))))))
abbrev s_is_step : Stmt := top 21
theorem sc_is_step : FnScope ["layers", "value"] ["layers", "value"] (defScope s_is_step) := ⟨rfl, rfl, rfl, by decide +kernel, rfl, by decide +kernel, by decide +kernel⟩
theorem ok_is_step (Φ : Facts Pr w K mg base) : FnD Pr w K mg base "is_step" 3 ["layers", "value"] m_is_step := by
  obtain ⟨f, fd, hm, F⟩ := Φ.d_is_step
  have hb : Binds K fd ["layers", "value"] [] := F.bindsN fun _ _ _ _ _ _ us hl => match us, hl with | [_, _], _ => rfl
  exact fndQ F hm hb sc_is_step fun cdv A outer s H E hr => (pdb_cons (pds_if (pdt_w (pdw_or (pdt_not (pdt_val (p_isTuple Φ.bi (pv 1)))) (pdw_or (t_ne hr (p_len Φ.bi (pv 1)) (pd_int)) (pdw_or1 (pdt_not (pdt_val (pd_call ((ok_is_within Φ).mono (by decide)) hr rfl passL (pda_cons (p_ix (pv 1) (pd_int)) (pda_cons (pd_int) (pda_cons (p_sub (p_len Φ.bi (pv 0)) (pd_int)) (pda_nil)))) (amc (amc (amc (am0))))))))))) (pdb_one (pds_ret (pd_bl))) (pdb_nil)) (pdb_one (pds_ret (pd_call ((ok_is_within Φ).mono (by decide)) hr rfl passL (pda_cons (p_ix (pv 1) (pd_int)) (pda_cons (pd_int) (pda_cons (p_ix (p_ix (pv 0) (p_ix (pv 1) (pd_int))) (pd_int)) (pda_nil)))) (amc (amc (amc (am0))))))))
abbrev s_is_habit : Stmt := top 22
theorem sc_is_habit : FnScope ["layers", "value", "one"] ["layers", "value"] (defScope s_is_habit) := ⟨rfl, rfl, rfl, by decide +kernel, rfl, by decide +kernel, by decide +kernel⟩
theorem ok_is_habit (Φ : Facts Pr w K mg base) : FnD Pr w K mg base "is_habit" 4 ["layers", "value"] m_is_habit := by
  obtain ⟨f, fd, hm, F⟩ := Φ.d_is_habit
  have hb : Binds K fd ["layers", "value"] [] := F.bindsN fun _ _ _ _ _ _ us hl => match us, hl with | [_, _], _ => rfl
  exact fndQ F hm hb sc_is_habit fun cdv A outer s H E hr => (pdb_cons (pds_if (pdt_w (pdw_or (pdt_not (pdt_val (p_isTuple Φ.bi (pv 1)))) (pdw_or (t_ne hr (p_len Φ.bi (pv 1)) (pd_int)) (pdw_or1 (pdt_not (pdt_val (p_isTuple Φ.bi (p_ix (pv 1) (pd_int))))))))) (pdb_one (pds_ret (pd_bl))) (pdb_nil)) (pdb_cons (pds_if (pdt_w (pdw_or (t_gt (p_len Φ.bi (p_ix (pv 1) (pd_int))) (p_gint Φ.c_MOST_STEPS)) (pdw_or1 (pdt_not (pdt_val (p_all Φ.bi rfl (pd_comp (own := [("one", 2)]) (ow := false) rfl sc_is_habit.nd (pdi_seq (p_ix (pv 1) (pd_int))) (blkOk_by (by kernel_rfl)) (by decide) (fun _ _ _ _ _ => pdg_name sc_is_habit.nd rfl (by first | exact .inl rfl | exact .inr rfl)) (fun _ _ _ _ _ => pdts_nil) (fun _ _ _ _ _ => pd_call ((ok_is_step Φ).mono (by decide)) hr rfl passL (pda_cons (pv 0) (pda_cons (pv 2) (pda_nil))) (amc (amc (am0))))))))))) (pdb_one (pds_ret (pd_bl))) (pdb_nil)) (pdb_one (pds_ret (pd_call ((ok_is_word Φ).mono (by decide)) hr rfl passL (pda_cons (p_ix (pv 1) (pd_int)) (pda_cons (p_gobj Φ.c_WISHES) (pda_nil))) (amc (amc (am0))))))))
abbrev s_is_house_value : Stmt := top 23
theorem sc_is_house_value : FnScope ["value", "one"] ["value"] (defScope s_is_house_value) := ⟨rfl, rfl, rfl, by decide +kernel, rfl, by decide +kernel, by decide +kernel⟩
theorem ok_is_house_value (Φ : Facts Pr w K mg base) : FnD Pr w K mg base "is_house_value" 5 ["value"] m_is_house_value := by
  obtain ⟨f, fd, hm, F⟩ := Φ.d_is_house_value
  have hb : Binds K fd ["value"] [] := F.bindsN fun _ _ _ _ _ _ us hl => match us, hl with | [_], _ => rfl
  exact fndQ F hm hb sc_is_house_value fun cdv A outer s H E hr => (pdb_cons (pds_if (pdt_w (pdw_or (pdt_not (pdt_val (p_isTuple Φ.bi (pv 0)))) (pdw_or (t_ne hr (p_len Φ.bi (pv 0)) (pd_int)) (pdw_or1 (pdt_not (pdt_val (pd_call ((ok_is_window_value Φ).mono (by decide)) hr rfl passL (pda_cons (p_ix (pv 0) (pd_int)) (pda_nil)) (amc (am0))))))))) (pdb_one (pds_ret (pd_bl))) (pdb_nil)) (pdb_cons (pds_if (pdt_w (pdw_or (pdt_not (pdt_val (p_isTuple Φ.bi (p_ix (pv 0) (pd_int))))) (pdw_or1 (pdt_not (t_lele (pd_int) (p_len Φ.bi (p_ix (pv 0) (pd_int))) (p_gint Φ.c_MOST_HABITS)))))) (pdb_one (pds_ret (pd_bl))) (pdb_nil)) (pdb_one (pds_ret (p_all Φ.bi rfl (pd_comp (own := [("one", 1)]) (ow := false) rfl sc_is_house_value.nd (pdi_seq (p_ix (pv 0) (pd_int))) (blkOk_by (by kernel_rfl)) (by decide) (fun _ _ _ _ _ => pdg_name sc_is_house_value.nd rfl (by first | exact .inl rfl | exact .inr rfl)) (fun _ _ _ _ _ => pdts_nil) (fun _ _ _ _ _ => pd_call ((ok_is_habit Φ).mono (by decide)) hr rfl passL (pda_cons (p_ix (p_ix (pv 0) (pd_int)) (pd_int)) (pda_cons (pv 1) (pda_nil))) (amc (amc (am0))))))))))
abbrev s_is_settings_value : Stmt := top 24
theorem sc_is_settings_value : FnScope ["window", "value", "one", "layer"] ["window", "value"] (defScope s_is_settings_value) := ⟨rfl, rfl, rfl, by decide +kernel, rfl, by decide +kernel, by decide +kernel⟩
theorem ok_is_settings_value (Φ : Facts Pr w K mg base) : FnD Pr w K mg base "is_settings_value" 3 ["window", "value"] m_is_settings_value := by
  obtain ⟨f, fd, hm, F⟩ := Φ.d_is_settings_value
  have hb : Binds K fd ["window", "value"] [] := F.bindsN fun _ _ _ _ _ _ us hl => match us, hl with | [_, _], _ => rfl
  exact fndQ F hm hb sc_is_settings_value fun cdv A outer s H E hr => (pdb_cons (pds_if (pdt_w (pdw_or (pdt_not (pdt_val (p_isTuple Φ.bi (pv 1)))) (pdw_or1 (t_ne hr (p_len Φ.bi (pv 1)) (p_len Φ.bi (p_ix (pv 0) (pd_int))))))) (pdb_one (pds_ret (pd_bl))) (pdb_nil)) (pdb_one (pds_ret (p_all Φ.bi rfl (pd_comp (own := [("one", 2), ("layer", 3)]) (ow := false) rfl sc_is_settings_value.nd (i_zip Φ.bi (pda_cons (pv 1) (pda_cons (p_ix (pv 0) (pd_int)) (pda_nil)))) (blkOk_by (by kernel_rfl)) (by decide) (fun _ _ _ _ _ => pdg_tup rfl (pdgs_cons (pdg_name sc_is_settings_value.nd rfl (by first | exact .inl rfl | exact .inr rfl)) (pdgs_cons (pdg_name sc_is_settings_value.nd rfl (by first | exact .inl rfl | exact .inr rfl)) (pdgs_nil)))) (fun _ _ _ _ _ => pdts_nil) (fun _ _ _ _ _ => pd_call ((ok_is_within Φ).mono (by decide)) hr rfl passL (pda_cons (pv 2) (pda_cons (pd_int) (pda_cons (p_ix (pv 3) (pd_int)) (pda_nil)))) (amc (amc (amc (am0))))))))))
abbrev s_need_window : Stmt := top 25
theorem sc_need_window : FnScope ["value"] ["value"] (defScope s_need_window) := ⟨rfl, rfl, rfl, by decide +kernel, rfl, by decide +kernel, by decide +kernel⟩
theorem ok_need_window (Φ : Facts Pr w K mg base) : FnD Pr w K mg base "need_window" 5 ["value"] m_need_window := by
  obtain ⟨f, fd, hm, F⟩ := Φ.d_need_window
  have hb : Binds K fd ["value"] [] := F.bindsN fun _ _ _ _ _ _ us hl => match us, hl with | [_], _ => rfl
  exact fndQ F hm hb sc_need_window fun cdv A outer s H E hr => (pdb_one (pds_if (pdt_not (pdt_val (pd_call ((ok_is_window_value Φ).mono (by decide)) hr rfl passL (pda_cons (pv 0) (pda_nil)) (amc (am0))))) (pdb_one (pds_never)) (pdb_nil)))
abbrev s_need_house : Stmt := top 26
theorem sc_need_house : FnScope ["value"] ["value"] (defScope s_need_house) := ⟨rfl, rfl, rfl, by decide +kernel, rfl, by decide +kernel, by decide +kernel⟩
theorem ok_need_house (Φ : Facts Pr w K mg base) : FnD Pr w K mg base "need_house" 6 ["value"] m_need_house := by
  obtain ⟨f, fd, hm, F⟩ := Φ.d_need_house
  have hb : Binds K fd ["value"] [] := F.bindsN fun _ _ _ _ _ _ us hl => match us, hl with | [_], _ => rfl
  exact fndQ F hm hb sc_need_house fun cdv A outer s H E hr => (pdb_one (pds_if (pdt_not (pdt_val (pd_call ((ok_is_house_value Φ).mono (by decide)) hr rfl passL (pda_cons (pv 0) (pda_nil)) (amc (am0))))) (pdb_one (pds_never)) (pdb_nil)))
abbrev s_need_settings : Stmt := top 27
theorem sc_need_settings : FnScope ["window", "value"] ["window", "value"] (defScope s_need_settings) := ⟨rfl, rfl, rfl, by decide +kernel, rfl, by decide +kernel, by decide +kernel⟩
theorem ok_need_settings (Φ : Facts Pr w K mg base) : FnD Pr w K mg base "need_settings" 4 ["window", "value"] m_need_settings := by
  obtain ⟨f, fd, hm, F⟩ := Φ.d_need_settings
  have hb : Binds K fd ["window", "value"] [] := F.bindsN fun _ _ _ _ _ _ us hl => match us, hl with | [_, _], _ => rfl
  exact fndQ F hm hb sc_need_settings fun cdv A outer s H E hr => (pdb_one (pds_if (pdt_not (pdt_val (pd_call ((ok_is_settings_value Φ).mono (by decide)) hr rfl passL (pda_cons (pv 0) (pda_cons (pv 1) (pda_nil))) (amc (amc (am0)))))) (pdb_one (pds_never)) (pdb_nil)))
abbrev s_need_place : Stmt := top 28
theorem sc_need_place : FnScope ["value"] ["value"] (defScope s_need_place) := ⟨rfl, rfl, rfl, by decide +kernel, rfl, by decide +kernel, by decide +kernel⟩
theorem ok_need_place (Φ : Facts Pr w K mg base) : FnD Pr w K mg base "need_place" 3 ["value"] m_need_place := by
  obtain ⟨f, fd, hm, F⟩ := Φ.d_need_place
  have hb : Binds K fd ["value"] [] := F.bindsN fun _ _ _ _ _ _ us hl => match us, hl with | [_], _ => rfl
  exact fndQ F hm hb sc_need_place fun cdv A outer s H E hr => (pdb_one (pds_if (pdt_not (pdt_val (pd_call ((ok_is_within Φ).mono (by decide)) hr rfl passL (pda_cons (pv 0) (pda_cons (pd_int) (pda_cons (pd_int) (pda_nil)))) (amc (amc (amc (am0))))))) (pdb_one (pds_never)) (pdb_nil)))
abbrev s_all_settings : Stmt := top 29
theorem sc_all_settings : FnScope ["window", "found", "layer", "row", "one"] ["window"] (defScope s_all_settings) := ⟨rfl, rfl, rfl, by decide +kernel, rfl, by decide +kernel, by decide +kernel⟩
theorem ok_all_settings (Φ : Facts Pr w K mg base) : FnD Pr w K mg base "all_settings" 2 ["window"] m_all_settings := by
  obtain ⟨f, fd, hm, F⟩ := Φ.d_all_settings
  have hb : Binds K fd ["window"] [] := F.bindsN fun _ _ _ _ _ _ us hl => match us, hl with | [_], _ => rfl
  exact fndQ F hm hb sc_all_settings fun cdv A outer s H E hr => (pdb_cons (pds_set sc_all_settings.nd (i := 1) rfl (by first | exact .inl rfl | exact .inr rfl) (pd_lst (pda_cons (pd_tup (pda_nil)) (pda_nil)))) (pdb_cons (pds_for PassesOwn.never rfl (pdi_seq (p_ix (pv 0) (pd_int))) (pdg_name sc_all_settings.nd rfl (by first | exact .inl rfl | exact .inr rfl)) (pdb_one (pds_setComp2 (own := [("row", 3), ("one", 4)]) (vs1 := [4]) (ow := false) rfl sc_all_settings.nd rfl rfl (sw_true rfl rfl rfl (by decide +kernel)) (pdi_seq (pv 1)) (blkOk_by (by kernel_rfl)) (by decide) (by decide) (by decide) (fun _ _ _ _ _ => pdg_name sc_all_settings.nd rfl (by first | exact .inl rfl | exact .inr rfl)) (fun _ _ _ _ _ => pdts_nil) (fun _ _ _ _ _ => i_rng1 Φ.bi (pda_cons (p_add (p_ix (pv 2) (pd_int)) (pd_int)) (pda_nil))) (fun _ _ _ _ _ => pdg_name sc_all_settings.nd rfl (by first | exact .inl rfl | exact .inr rfl)) (fun _ _ _ _ _ => pdts_nil) (fun _ _ _ _ _ => p_add (pv 3) (pd_tup (pda_cons (pv 4) (pda_nil))))))) (pdb_one (pds_ret (pv 1)))))
abbrev s_shut_of : Stmt := top 30
theorem sc_shut_of : FnScope ["window"] ["window"] (defScope s_shut_of) := ⟨rfl, rfl, rfl, by decide +kernel, rfl, by decide +kernel, by decide +kernel⟩
theorem ok_shut_of (Φ : Facts Pr w K mg base) : FnD Pr w K mg base "shut_of" 2 ["window"] m_shut_of := by
  obtain ⟨f, fd, hm, F⟩ := Φ.d_shut_of
  have hb : Binds K fd ["window"] [] := F.bindsN fun _ _ _ _ _ _ us hl => match us, hl with | [_], _ => rfl
  exact fndQ F hm hb sc_shut_of fun cdv A outer s H E hr => (pdb_one (pds_ret (p_rept (pd_tup (pda_cons (pd_int) (pda_nil))) (p_len Φ.bi (p_ix (pv 0) (pd_int))))))
abbrev s_open_of : Stmt := top 31
theorem sc_open_of : FnScope ["window", "layer"] ["window"] (defScope s_open_of) := ⟨rfl, rfl, rfl, by decide +kernel, rfl, by decide +kernel, by decide +kernel⟩
theorem ok_open_of (Φ : Facts Pr w K mg base) : FnD Pr w K mg base "open_of" 2 ["window"] m_open_of := by
  obtain ⟨f, fd, hm, F⟩ := Φ.d_open_of
  have hb : Binds K fd ["window"] [] := F.bindsN fun _ _ _ _ _ _ us hl => match us, hl with | [_], _ => rfl
  exact fndQ F hm hb sc_open_of fun cdv A outer s H E hr => (pdb_one (pds_ret (p_tuple Φ.bi (pd_comp (own := [("layer", 1)]) (ow := false) rfl sc_open_of.nd (pdi_seq (p_ix (pv 0) (pd_int))) (blkOk_by (by kernel_rfl)) (by decide) (fun _ _ _ _ _ => pdg_name sc_open_of.nd rfl (by first | exact .inl rfl | exact .inr rfl)) (fun _ _ _ _ _ => pdts_nil) (fun _ _ _ _ _ => p_ix (pv 1) (pd_int))))))
abbrev s_kept_by : Stmt := top 32
theorem sc_kept_by : FnScope ["window", "settings", "rain", "one", "layer"] ["window", "settings"] (defScope s_kept_by) := ⟨rfl, rfl, rfl, by decide +kernel, rfl, by decide +kernel, by decide +kernel⟩
theorem ok_kept_by (Φ : Facts Pr w K mg base) : FnD Pr w K mg base "kept_by" 2 ["window", "settings"] m_kept_by := by
  obtain ⟨f, fd, hm, F⟩ := Φ.d_kept_by
  have hb : Binds K fd ["window", "settings"] [] := F.bindsN fun _ _ _ _ _ _ us hl => match us, hl with | [_, _], _ => rfl
  exact fndQ F hm hb sc_kept_by fun cdv A outer s H E hr => (pdb_cons (pds_set sc_kept_by.nd (i := 2) rfl (by first | exact .inl rfl | exact .inr rfl) (p_any Φ.bi rfl (pd_comp (own := [("one", 3), ("layer", 4)]) (ow := false) rfl sc_kept_by.nd (i_zip Φ.bi (pda_cons (pv 1) (pda_cons (p_ix (pv 0) (pd_int)) (pda_nil)))) (blkOk_by (by kernel_rfl)) (by decide) (fun _ _ _ _ _ => pdg_tup rfl (pdgs_cons (pdg_name sc_kept_by.nd rfl (by first | exact .inl rfl | exact .inr rfl)) (pdgs_cons (pdg_name sc_kept_by.nd rfl (by first | exact .inl rfl | exact .inr rfl)) (pdgs_nil)))) (fun _ _ _ _ _ => pdts_nil) (fun _ _ _ _ _ => v_le (pv 3) (p_ix (pv 4) (pd_int)))))) (pdb_one (pds_ret (pd_tup (pda_cons (pv 2) (pda_cons (p_any Φ.bi rfl (pd_comp (own := [("one", 3), ("layer", 4)]) (ow := false) rfl sc_kept_by.nd (i_zip Φ.bi (pda_cons (pv 1) (pda_cons (p_ix (pv 0) (pd_int)) (pda_nil)))) (blkOk_by (by kernel_rfl)) (by decide) (fun _ _ _ _ _ => pdg_tup rfl (pdgs_cons (pdg_name sc_kept_by.nd rfl (by first | exact .inl rfl | exact .inr rfl)) (pdgs_cons (pdg_name sc_kept_by.nd rfl (by first | exact .inl rfl | exact .inr rfl)) (pdgs_nil)))) (fun _ _ _ _ _ => pdts_nil) (fun _ _ _ _ _ => v_le (pv 3) (p_ix (pv 4) (pd_int))))) (pda_nil)))))))
abbrev s_exchanged_so : Stmt := top 33
theorem sc_exchanged_so : FnScope ["window", "words", "layer"] ["window"] (defScope s_exchanged_so) := ⟨rfl, rfl, rfl, by decide +kernel, rfl, by decide +kernel, by decide +kernel⟩
theorem ok_exchanged_so (Φ : Facts Pr w K mg base) : FnD Pr w K mg base "exchanged_so" 2 ["window"] m_exchanged_so := by
  obtain ⟨f, fd, hm, F⟩ := Φ.d_exchanged_so
  have hb : Binds K fd ["window"] [] := F.bindsN fun _ _ _ _ _ _ us hl => match us, hl with | [_], _ => rfl
  exact fndQ F hm hb sc_exchanged_so fun cdv A outer s H E hr => (pdb_cons (pds_set sc_exchanged_so.nd (i := 1) rfl (by first | exact .inl rfl | exact .inr rfl) (pd_dk (pdp_str (pd_str) (pdp_str (pd_str) (pdp_nil))))) (pdb_one (pds_ret (pd_tup (pda_cons (p_tuple Φ.bi (pd_comp (own := [("layer", 2)]) (ow := false) rfl sc_exchanged_so.nd (pdi_seq (p_ix (pv 0) (pd_int))) (blkOk_by (by kernel_rfl)) (by decide) (fun _ _ _ _ _ => pdg_name sc_exchanged_so.nd rfl (by first | exact .inl rfl | exact .inr rfl)) (fun _ _ _ _ _ => pdts_nil) (fun _ _ _ _ _ => p_add (p_sl (pv 2) (pdo_none) (pdo_some (pd_int))) (pd_tup (pda_cons (pd_sdg2 ⟨Φ.isP, Φ.isW⟩ hr (i := 1) rfl (by first | exact .inl rfl | exact .inr (.inl rfl) | exact .inr (.inr rfl)) (p_ix (pv 2) (pd_int)) (p_ix (pv 2) (pd_int))) (pda_cons (p_ix (pv 2) (pd_int)) (pda_nil))))))) (pda_cons (p_ix (pv 0) (pd_int)) (pda_nil)))))))
abbrev s_kept : Stmt := top 34
theorem sc_kept : FnScope ["window", "settings"] ["window", "settings"] (defScope s_kept) := ⟨rfl, rfl, rfl, by decide +kernel, rfl, by decide +kernel, by decide +kernel⟩
theorem ok_kept (Φ : Facts Pr w K mg base) : FnD Pr w K mg base "kept" 6 ["window", "settings"] m_kept := by
  obtain ⟨f, fd, hm, F⟩ := Φ.d_kept
  have hb : Binds K fd ["window", "settings"] [] := F.bindsN fun _ _ _ _ _ _ us hl => match us, hl with | [_, _], _ => rfl
  exact fndQ F hm hb sc_kept fun cdv A outer s H E hr => (pdb_cons (pds_expr (pd_call ((ok_need_window Φ).mono (by decide)) hr rfl passL (pda_cons (pv 0) (pda_nil)) (amc (am0)))) (pdb_cons (pds_expr (pd_call ((ok_need_settings Φ).mono (by decide)) hr rfl passL (pda_cons (pv 0) (pda_cons (pv 1) (pda_nil))) (amc (amc (am0))))) (pdb_one (pds_ret (pd_call ((ok_kept_by Φ).mono (by decide)) hr rfl passL (pda_cons (pv 0) (pda_cons (pv 1) (pda_nil))) (amc (amc (am0))))))))
abbrev s_exchanged : Stmt := top 35
theorem sc_exchanged : FnScope ["window"] ["window"] (defScope s_exchanged) := ⟨rfl, rfl, rfl, by decide +kernel, rfl, by decide +kernel, by decide +kernel⟩
theorem ok_exchanged (Φ : Facts Pr w K mg base) : FnD Pr w K mg base "exchanged" 6 ["window"] m_exchanged := by
  obtain ⟨f, fd, hm, F⟩ := Φ.d_exchanged
  have hb : Binds K fd ["window"] [] := F.bindsN fun _ _ _ _ _ _ us hl => match us, hl with | [_], _ => rfl
  exact fndQ F hm hb sc_exchanged fun cdv A outer s H E hr => (pdb_cons (pds_expr (pd_call ((ok_need_window Φ).mono (by decide)) hr rfl passL (pda_cons (pv 0) (pda_nil)) (amc (am0)))) (pdb_one (pds_ret (pd_call ((ok_exchanged_so Φ).mono (by decide)) hr rfl passL (pda_cons (pv 0) (pda_nil)) (amc (am0))))))
abbrev s_is_free : Stmt := top 38
theorem sc_is_free : FnScope ["window", "settings", "layer", "one", "other", "low", "high"] ["window", "settings", "layer"] (defScope s_is_free) := ⟨rfl, rfl, rfl, by decide +kernel, rfl, by decide +kernel, by decide +kernel⟩
theorem ok_is_free (Φ : Facts Pr w K mg base) : FnD Pr w K mg base "is_free" 2 ["window", "settings", "layer"] m_is_free := by
  obtain ⟨f, fd, hm, F⟩ := Φ.d_is_free
  have hb : Binds K fd ["window", "settings", "layer"] [] := F.bindsN fun _ _ _ _ _ _ us hl => match us, hl with | [_, _, _], _ => rfl
  exact fndQ F hm hb sc_is_free fun cdv A outer s H E hr => (pdb_one (pds_ret (p_all Φ.bi rfl (pd_comp (own := [("one", 3), ("other", 4), ("low", 5), ("high", 6)]) (ow := false) rfl sc_is_free.nd (pdi_seq (p_ix (pv 0) (pd_int))) (blkOk_by (by kernel_rfl)) (by decide) (fun _ _ _ _ _ => pdg_tup rfl (pdgs_cons (pdg_name sc_is_free.nd rfl (by first | exact .inl rfl | exact .inr rfl)) (pdgs_cons (pdg_name sc_is_free.nd rfl (by first | exact .inl rfl | exact .inr rfl)) (pdgs_cons (pdg_name sc_is_free.nd rfl (by first | exact .inl rfl | exact .inr rfl)) (pdgs_cons (pdg_name sc_is_free.nd rfl (by first | exact .inl rfl | exact .inr rfl)) (pdgs_nil)))))) (fun _ _ _ _ _ => pdts_one (t_eq hr (pv 3) (pv 2))) (fun _ _ _ _ _ => v_lele (pv 5) (p_ix (pv 1) (pv 4)) (pv 6))))))
abbrev s_with_step : Stmt := top 39
theorem sc_with_step : FnScope ["settings", "layer", "step"] ["settings", "layer", "step"] (defScope s_with_step) := ⟨rfl, rfl, rfl, by decide +kernel, rfl, by decide +kernel, by decide +kernel⟩
theorem ok_with_step (Φ : Facts Pr w K mg base) : FnD Pr w K mg base "with_step" 2 ["settings", "layer", "step"] m_with_step := by
  obtain ⟨f, fd, hm, F⟩ := Φ.d_with_step
  have hb : Binds K fd ["settings", "layer", "step"] [] := F.bindsN fun _ _ _ _ _ _ us hl => match us, hl with | [_, _, _], _ => rfl
  exact fndQ F hm hb sc_with_step fun cdv A outer s H E hr => (pdb_one (pds_ret (p_add (p_add (p_sl (pv 0) (pdo_none) (pdo_some (pv 1))) (pd_tup (pda_cons (p_add (p_ix (pv 0) (pv 1)) (pv 2)) (pda_nil)))) (p_sl (pv 0) (pdo_some (p_add (pv 1) (pd_int))) (pdo_none)))))
abbrev s_can_step : Stmt := top 40
theorem sc_can_step : FnScope ["window", "settings", "layer", "step"] ["window", "settings", "layer", "step"] (defScope s_can_step) := ⟨rfl, rfl, rfl, by decide +kernel, rfl, by decide +kernel, by decide +kernel⟩
theorem ok_can_step (Φ : Facts Pr w K mg base) : FnD Pr w K mg base "can_step" 3 ["window", "settings", "layer", "step"] m_can_step := by
  obtain ⟨f, fd, hm, F⟩ := Φ.d_can_step
  have hb : Binds K fd ["window", "settings", "layer", "step"] [] := F.bindsN fun _ _ _ _ _ _ us hl => match us, hl with | [_, _, _, _], _ => rfl
  exact fndQ F hm hb sc_can_step fun cdv A outer s H E hr => (pdb_one (pds_ret (pd_and (v_lele (pd_int) (p_add (p_ix (pv 1) (pv 2)) (pv 3)) (p_ix (p_ix (p_ix (pv 0) (pd_int)) (pv 2)) (pd_int))) (pd_one (pd_call ((ok_is_free Φ).mono (by decide)) hr rfl passL (pda_cons (pv 0) (pda_cons (pv 1) (pda_cons (pv 2) (pda_nil)))) (amc (amc (amc (am0)))))))))
abbrev s_has_hand : Stmt := top 41
theorem sc_has_hand : FnScope ["window", "layer", "place"] ["window", "layer", "place"] (defScope s_has_hand) := ⟨rfl, rfl, rfl, by decide +kernel, rfl, by decide +kernel, by decide +kernel⟩
theorem ok_has_hand (Φ : Facts Pr w K mg base) : FnD Pr w K mg base "has_hand" 2 ["window", "layer", "place"] m_has_hand := by
  obtain ⟨f, fd, hm, F⟩ := Φ.d_has_hand
  have hb : Binds K fd ["window", "layer", "place"] [] := F.bindsN fun _ _ _ _ _ _ us hl => match us, hl with | [_, _, _], _ => rfl
  exact fndQ F hm hb sc_has_hand fun cdv A outer s H E hr => (pdb_one (pds_ret (v_in hr (p_ix (p_ix (p_ix (pv 0) (pd_int)) (pv 1)) (pd_int)) (pd_tup (pda_cons (pd_str) (pda_cons (p_ix (p_gobj Φ.c_PLACES) (pv 2)) (pda_nil)))))))
abbrev s_hand_moves : Stmt := top 42
theorem sc_hand_moves : FnScope ["window", "settings", "place", "layers", "layer", "step"] ["window", "settings", "place"] (defScope s_hand_moves) := ⟨rfl, rfl, rfl, by decide +kernel, rfl, by decide +kernel, by decide +kernel⟩
theorem ok_hand_moves (Φ : Facts Pr w K mg base) : FnD Pr w K mg base "hand_moves" 4 ["window", "settings", "place"] m_hand_moves := by
  obtain ⟨f, fd, hm, F⟩ := Φ.d_hand_moves
  have hb : Binds K fd ["window", "settings", "place"] [] := F.bindsN fun _ _ _ _ _ _ us hl => match us, hl with | [_, _, _], _ => rfl
  exact fndQ F hm hb sc_hand_moves fun cdv A outer s H E hr => (pdb_cons (pds_setComp (own := [("layer", 4)]) (ow := false) rfl sc_hand_moves.nd rfl rfl (sw_true rfl rfl rfl (by decide +kernel)) (i_rng1 Φ.bi (pda_cons (p_len Φ.bi (pv 1)) (pda_nil))) (blkOk_by (by kernel_rfl)) (by decide) (fun _ _ _ _ _ => pdg_name sc_hand_moves.nd rfl (by first | exact .inl rfl | exact .inr rfl)) (fun _ _ _ _ _ => pdts_one (pdt_val (pd_call ((ok_has_hand Φ).mono (by decide)) hr rfl passL (pda_cons (pv 0) (pda_cons (pv 4) (pda_cons (pv 2) (pda_nil)))) (amc (amc (amc (am0))))))) (fun _ _ _ _ _ => pv 4)) (pdb_one (pds_ret (pd_comp2 (own := [("layer", 4), ("step", 5)]) (vs1 := [5]) (ow := false) rfl sc_hand_moves.nd (pdi_seq (pv 3)) (blkOk_by (by kernel_rfl)) (by decide) (by decide) (by decide) (fun _ _ _ _ _ => pdg_name sc_hand_moves.nd rfl (by first | exact .inl rfl | exact .inr rfl)) (fun _ _ _ _ _ => pdts_nil) (fun _ _ _ _ _ => pdi_seq (pd_tup (pda_cons (p_neg (pd_int)) (pda_cons (pd_int) (pda_nil))))) (fun _ _ _ _ _ => pdg_name sc_hand_moves.nd rfl (by first | exact .inl rfl | exact .inr rfl)) (fun _ _ _ _ _ => pdts_one (pdt_val (pd_call ((ok_can_step Φ).mono (by decide)) hr rfl passL (pda_cons (pv 0) (pda_cons (pv 1) (pda_cons (pv 4) (pda_cons (pv 5) (pda_nil))))) (amc (amc (amc (amc (am0)))))))) (fun _ _ _ _ _ => pd_tup (pda_cons (pv 4) (pda_cons (pv 5) (pda_nil))))))))
abbrev s_wind_moves : Stmt := top 43
theorem sc_wind_moves : FnScope ["window", "settings", "found", "layer", "words", "steps", "step"] ["window", "settings"] (defScope s_wind_moves) := ⟨rfl, rfl, rfl, by decide +kernel, rfl, by decide +kernel, by decide +kernel⟩
theorem ok_wind_moves (Φ : Facts Pr w K mg base) : FnD Pr w K mg base "wind_moves" 4 ["window", "settings"] m_wind_moves := by
  obtain ⟨f, fd, hm, F⟩ := Φ.d_wind_moves
  have hb : Binds K fd ["window", "settings"] [] := F.bindsN fun _ _ _ _ _ _ us hl => match us, hl with | [_, _], _ => rfl
  exact fndQ F hm hb sc_wind_moves fun cdv A outer s H E hr => (pdb_cons (pds_set sc_wind_moves.nd (i := 2) rfl (by first | exact .inl rfl | exact .inr rfl) (pd_lst (pda_nil))) (pdb_cons (pds_for PassesOwn.never rfl (i_rng1 Φ.bi (pda_cons (p_len Φ.bi (pv 1)) (pda_nil))) (pdg_name sc_wind_moves.nd rfl (by first | exact .inl rfl | exact .inr rfl)) (pdb_cons (pds_set sc_wind_moves.nd (i := 4) rfl (by first | exact .inl rfl | exact .inr rfl) (p_ix (p_ix (p_ix (pv 0) (pd_int)) (pv 3)) (pd_int))) (pdb_cons (pds_set sc_wind_moves.nd (i := 5) rfl (by first | exact .inl rfl | exact .inr rfl) (pd_fdg2 ⟨Φ.isP, Φ.isW⟩ hr (pd_dk (pdp_str (pd_tup (pda_cons (p_neg (pd_int)) (pda_cons (pd_int) (pda_nil)))) (pdp_str (pd_tup (pda_cons (pd_int) (pda_nil))) (pdp_str (pd_tup (pda_cons (p_neg (pd_int)) (pda_nil))) (pdp_nil))))) (pv 4) (pd_tup (pda_nil)))) (pdb_one (pds_set sc_wind_moves.nd (i := 2) rfl (by first | exact .inl rfl | exact .inr rfl) (p_add (pv 2) (pd_comp (own := [("step", 6)]) (ow := false) rfl sc_wind_moves.nd (pdi_seq (pv 5)) (blkOk_by (by kernel_rfl)) (by decide) (fun _ _ _ _ _ => pdg_name sc_wind_moves.nd rfl (by first | exact .inl rfl | exact .inr rfl)) (fun _ _ _ _ _ => pdts_one (pdt_val (pd_call ((ok_can_step Φ).mono (by decide)) hr rfl passL (pda_cons (pv 0) (pda_cons (pv 1) (pda_cons (pv 3) (pda_cons (pv 6) (pda_nil))))) (amc (amc (amc (amc (am0)))))))) (fun _ _ _ _ _ => pd_tup (pda_cons (pv 3) (pda_cons (pv 6) (pda_nil))))))))))) (pdb_one (pds_ret (pv 2)))))
abbrev s_ways_from : Stmt := top 44
theorem sc_ways_from : FnScope ["window", "settings", "place", "found", "line", "at", "here", "layer", "step", "there"] ["window", "settings", "place"] (defScope s_ways_from) := ⟨rfl, rfl, rfl, by decide +kernel, rfl, by decide +kernel, by decide +kernel⟩
theorem ok_ways_from (Φ : Facts Pr w K mg base) : FnD Pr w K mg base "ways_from" 5 ["window", "settings", "place"] m_ways_from := by
  obtain ⟨f, fd, hm, F⟩ := Φ.d_ways_from
  have hb : Binds K fd ["window", "settings", "place"] [] := F.bindsN fun _ _ _ _ _ _ us hl => match us, hl with | [_, _, _], _ => rfl
  exact fndQ F hm hb sc_ways_from fun cdv A outer s H E hr => (pdb_cons (pds_par3 (i := 3) (j := 4) (l := 5) rfl sc_ways_from.nd rfl rfl rfl (by decide) (by decide) (by decide) rfl rfl rfl (pd_dn1 ⟨Φ.isP, Φ.isW⟩ hr (pv 1) (pd_tup (pda_nil))) (pd_lstO (pda_cons (pv 1) (pda_nil))) (pd_int) rfl) (pdb_cons (pds_while PassesOwn.never 5000 (t_lt hr (pv 5) (p_olen Φ.bi 4)) (pdb_cons (pds_set sc_ways_from.nd (i := 6) rfl (by first | exact .inl rfl | exact .inr rfl) (p_oix 4 (pv 5))) (pdb_cons (pds_augI sc_ways_from.nd (i := 5) rfl (by first | exact .inl rfl | exact .inr rfl) (pd_int)) (pdb_one (pds_for PassesOwn.never rfl (pdi_seq (pd_call ((ok_hand_moves Φ).mono (by decide)) hr rfl passL (pda_cons (pv 0) (pda_cons (pv 6) (pda_cons (pv 2) (pda_nil)))) (amc (amc (amc (am0)))))) (pdg_tup rfl (pdgs_cons (pdg_name sc_ways_from.nd rfl (by first | exact .inl rfl | exact .inr rfl)) (pdgs_cons (pdg_name sc_ways_from.nd rfl (by first | exact .inl rfl | exact .inr rfl)) (pdgs_nil)))) (pdb_cons (pds_set sc_ways_from.nd (i := 9) rfl (by first | exact .inl rfl | exact .inr rfl) (pd_call ((ok_with_step Φ).mono (by decide)) hr rfl passL (pda_cons (pv 6) (pda_cons (pv 7) (pda_cons (pv 8) (pda_nil)))) (amc (amc (amc (am0)))))) (pdb_one (pds_if (pdt_sdnin ⟨Φ.isP, Φ.isW⟩ hr (i := 3) rfl (by first | exact .inl rfl | exact .inr (.inl rfl) | exact .inr (.inr rfl)) (pv 9)) (pdb_cons (pds_dset ⟨Φ.isP, Φ.isW⟩ hr (i := 3) rfl (by first | exact .inl rfl | exact .inr (.inl rfl) | exact .inr (.inr rfl)) (p_add (pd_sdix ⟨Φ.isP, Φ.isW⟩ hr (i := 3) rfl (by first | exact .inl rfl | exact .inr (.inl rfl) | exact .inr (.inr rfl)) (pv 6)) (pd_tup (pda_cons (pd_tup (pda_cons (pv 7) (pda_cons (pv 8) (pda_nil)))) (pda_nil)))) (pv 9)) (pdb_one (pds_app (i := 4) rfl (by first | exact .inl rfl | exact .inr (.inl rfl) | exact .inr (.inr rfl)) (pv 9)))) (pdb_nil))))))))) (pdb_one (pds_retO (i := 3) rfl (by first | exact .inl rfl | exact .inr (.inl rfl) | exact .inr (.inr rfl))))))
abbrev s_need_all : Stmt := top 45
theorem sc_need_all : FnScope ["window", "settings", "place"] ["window", "settings", "place"] (defScope s_need_all) := ⟨rfl, rfl, rfl, by decide +kernel, rfl, by decide +kernel, by decide +kernel⟩
theorem ok_need_all (Φ : Facts Pr w K mg base) : FnD Pr w K mg base "need_all" 6 ["window", "settings", "place"] m_need_all := by
  obtain ⟨f, fd, hm, F⟩ := Φ.d_need_all
  have hb : Binds K fd ["window", "settings", "place"] [] := F.bindsN fun _ _ _ _ _ _ us hl => match us, hl with | [_, _, _], _ => rfl
  exact fndQ F hm hb sc_need_all fun cdv A outer s H E hr => (pdb_cons (pds_expr (pd_call ((ok_need_window Φ).mono (by decide)) hr rfl passL (pda_cons (pv 0) (pda_nil)) (amc (am0)))) (pdb_cons (pds_expr (pd_call ((ok_need_settings Φ).mono (by decide)) hr rfl passL (pda_cons (pv 0) (pda_cons (pv 1) (pda_nil))) (amc (amc (am0))))) (pdb_one (pds_expr (pd_call ((ok_need_place Φ).mono (by decide)) hr rfl passL (pda_cons (pv 2) (pda_nil)) (amc (am0)))))))
abbrev s_moves : Stmt := top 46
theorem sc_moves : FnScope ["window", "settings", "place"] ["window", "settings", "place"] (defScope s_moves) := ⟨rfl, rfl, rfl, by decide +kernel, rfl, by decide +kernel, by decide +kernel⟩
theorem ok_moves (Φ : Facts Pr w K mg base) : FnD Pr w K mg base "moves" 7 ["window", "settings", "place"] m_moves := by
  obtain ⟨f, fd, hm, F⟩ := Φ.d_moves
  have hb : Binds K fd ["window", "settings", "place"] [] := F.bindsN fun _ _ _ _ _ _ us hl => match us, hl with | [_, _, _], _ => rfl
  exact fndQ F hm hb sc_moves fun cdv A outer s H E hr => (pdb_cons (pds_expr (pd_call ((ok_need_all Φ).mono (by decide)) hr rfl passL (pda_cons (pv 0) (pda_cons (pv 1) (pda_cons (pv 2) (pda_nil)))) (amc (amc (amc (am0)))))) (pdb_one (pds_ret (pd_call ((ok_hand_moves Φ).mono (by decide)) hr rfl passL (pda_cons (pv 0) (pda_cons (pv 1) (pda_cons (pv 2) (pda_nil)))) (amc (amc (amc (am0))))))))
abbrev s_winds : Stmt := top 47
theorem sc_winds : FnScope ["window", "settings"] ["window", "settings"] (defScope s_winds) := ⟨rfl, rfl, rfl, by decide +kernel, rfl, by decide +kernel, by decide +kernel⟩
theorem ok_winds (Φ : Facts Pr w K mg base) : FnD Pr w K mg base "winds" 6 ["window", "settings"] m_winds := by
  obtain ⟨f, fd, hm, F⟩ := Φ.d_winds
  have hb : Binds K fd ["window", "settings"] [] := F.bindsN fun _ _ _ _ _ _ us hl => match us, hl with | [_, _], _ => rfl
  exact fndQ F hm hb sc_winds fun cdv A outer s H E hr => (pdb_cons (pds_expr (pd_call ((ok_need_window Φ).mono (by decide)) hr rfl passL (pda_cons (pv 0) (pda_nil)) (amc (am0)))) (pdb_cons (pds_expr (pd_call ((ok_need_settings Φ).mono (by decide)) hr rfl passL (pda_cons (pv 0) (pda_cons (pv 1) (pda_nil))) (amc (amc (am0))))) (pdb_one (pds_ret (pd_call ((ok_wind_moves Φ).mono (by decide)) hr rfl passL (pda_cons (pv 0) (pda_cons (pv 1) (pda_nil))) (amc (amc (am0))))))))
abbrev s_fewest : Stmt := top 48
theorem sc_fewest : FnScope ["window", "settings", "place", "goal"] ["window", "settings", "place", "goal"] (defScope s_fewest) := ⟨rfl, rfl, rfl, by decide +kernel, rfl, by decide +kernel, by decide +kernel⟩
theorem ok_fewest (Φ : Facts Pr w K mg base) : FnD Pr w K mg base "fewest" 7 ["window", "settings", "place", "goal"] m_fewest := by
  obtain ⟨f, fd, hm, F⟩ := Φ.d_fewest
  have hb : Binds K fd ["window", "settings", "place", "goal"] [] := F.bindsN fun _ _ _ _ _ _ us hl => match us, hl with | [_, _, _, _], _ => rfl
  exact fndQ F hm hb sc_fewest fun cdv A outer s H E hr => (pdb_cons (pds_expr (pd_call ((ok_need_all Φ).mono (by decide)) hr rfl passL (pda_cons (pv 0) (pda_cons (pv 1) (pda_cons (pv 2) (pda_nil)))) (amc (amc (amc (am0)))))) (pdb_cons (pds_expr (pd_call ((ok_need_settings Φ).mono (by decide)) hr rfl passL (pda_cons (pv 0) (pda_cons (pv 3) (pda_nil))) (amc (amc (am0))))) (pdb_one (pds_ret (pd_fdg1 ⟨Φ.isP, Φ.isW⟩ hr (pd_call ((ok_ways_from Φ).mono (by decide)) hr rfl passL (pda_cons (pv 0) (pda_cons (pv 1) (pda_cons (pv 2) (pda_nil)))) (amc (amc (amc (am0))))) (pv 3))))))
abbrev s_dead : Stmt := top 49
theorem sc_dead : FnScope ["window", "place", "shut", "one"] ["window", "place"] (defScope s_dead) := ⟨rfl, rfl, rfl, by decide +kernel, rfl, by decide +kernel, by decide +kernel⟩
theorem ok_dead (Φ : Facts Pr w K mg base) : FnD Pr w K mg base "dead" 6 ["window", "place"] m_dead := by
  obtain ⟨f, fd, hm, F⟩ := Φ.d_dead
  have hb : Binds K fd ["window", "place"] [] := F.bindsN fun _ _ _ _ _ _ us hl => match us, hl with | [_, _], _ => rfl
  exact fndQ F hm hb sc_dead fun cdv A outer s H E hr => (pdb_cons (pds_expr (pd_call ((ok_need_window Φ).mono (by decide)) hr rfl passL (pda_cons (pv 0) (pda_nil)) (amc (am0)))) (pdb_cons (pds_expr (pd_call ((ok_need_place Φ).mono (by decide)) hr rfl passL (pda_cons (pv 1) (pda_nil)) (amc (am0)))) (pdb_cons (pds_set sc_dead.nd (i := 2) rfl (by first | exact .inl rfl | exact .inr rfl) (pd_call ((ok_shut_of Φ).mono (by decide)) hr rfl passL (pda_cons (pv 0) (pda_nil)) (amc (am0)))) (pdb_one (pds_ret (pd_comp (own := [("one", 3)]) (ow := false) rfl sc_dead.nd (pdi_seq (pd_call ((ok_all_settings Φ).mono (by decide)) hr rfl passL (pda_cons (pv 0) (pda_nil)) (amc (am0)))) (blkOk_by (by kernel_rfl)) (by decide) (fun _ _ _ _ _ => pdg_name sc_dead.nd rfl (by first | exact .inl rfl | exact .inr rfl)) (fun _ _ _ _ _ => pdts_one (pdt_fdnin ⟨Φ.isP, Φ.isW⟩ hr (pv 2) (pd_call ((ok_ways_from Φ).mono (by decide)) hr rfl passL (pda_cons (pv 0) (pda_cons (pv 3) (pda_cons (pv 1) (pda_nil)))) (amc (amc (amc (am0))))))) (fun _ _ _ _ _ => pv 3)))))))
abbrev s_farthest : Stmt := top 50
theorem sc_farthest : FnScope ["window", "place", "best", "one", "ways", "goal"] ["window", "place"] (defScope s_farthest) := ⟨rfl, rfl, rfl, by decide +kernel, rfl, by decide +kernel, by decide +kernel⟩
theorem ok_farthest (Φ : Facts Pr w K mg base) : FnD Pr w K mg base "farthest" 6 ["window", "place"] m_farthest := by
  obtain ⟨f, fd, hm, F⟩ := Φ.d_farthest
  have hb : Binds K fd ["window", "place"] [] := F.bindsN fun _ _ _ _ _ _ us hl => match us, hl with | [_, _], _ => rfl
  exact fndQ F hm hb sc_farthest fun cdv A outer s H E hr => (pdb_cons (pds_expr (pd_call ((ok_need_window Φ).mono (by decide)) hr rfl passL (pda_cons (pv 0) (pda_nil)) (amc (am0)))) (pdb_cons (pds_expr (pd_call ((ok_need_place Φ).mono (by decide)) hr rfl passL (pda_cons (pv 1) (pda_nil)) (amc (am0)))) (pdb_cons (pds_set sc_farthest.nd (i := 2) rfl (by first | exact .inl rfl | exact .inr rfl) (pd_int)) (pdb_cons (pds_for PassesOwn.never rfl (pdi_seq (pd_call ((ok_all_settings Φ).mono (by decide)) hr rfl passL (pda_cons (pv 0) (pda_nil)) (amc (am0)))) (pdg_name sc_farthest.nd rfl (by first | exact .inl rfl | exact .inr rfl)) (pdb_cons (pds_set sc_farthest.nd (i := 4) rfl (by first | exact .inl rfl | exact .inr rfl) (pd_call ((ok_ways_from Φ).mono (by decide)) hr rfl passL (pda_cons (pv 0) (pda_cons (pv 3) (pda_cons (pv 1) (pda_nil)))) (amc (amc (amc (am0)))))) (pdb_one (pds_set sc_farthest.nd (i := 2) rfl (by first | exact .inl rfl | exact .inr rfl) (p_max2 Φ.bi rfl (pv 2) (p_max1 Φ.bi rfl (pd_lock (pd_comp (own := [("goal", 5)]) (ow := false) rfl sc_farthest.nd (pdi_dk (i := 4) rfl (by first | exact .inl rfl | exact .inr (.inl rfl) | exact .inr (.inr rfl))) (blkOk_by (by kernel_rfl)) (by decide) (fun _ _ _ _ _ => pdg_name sc_farthest.nd rfl (by first | exact .inl rfl | exact .inr rfl)) (fun _ _ _ _ _ => pdts_nil) (fun _ _ _ _ _ => p_len Φ.bi (pd_sdix ⟨Φ.isP, Φ.isW⟩ hr (i := 4) rfl (by first | exact .inl rfl | exact .inr (.inl rfl) | exact .inr (.inr rfl)) (pv 5))))))))))) (pdb_one (pds_ret (pv 2)))))))
abbrev s_begin : Stmt := top 52
theorem sc_begin : FnScope ["house"] ["house"] (defScope s_begin) := ⟨rfl, rfl, rfl, by decide +kernel, rfl, by decide +kernel, by decide +kernel⟩
theorem ok_begin (Φ : Facts Pr w K mg base) : FnD Pr w K mg base "begin" 3 ["house"] m_begin := by
  obtain ⟨f, fd, hm, F⟩ := Φ.d_begin
  have hb : Binds K fd ["house"] [] := F.bindsN fun _ _ _ _ _ _ us hl => match us, hl with | [_], _ => rfl
  exact fndQ F hm hb sc_begin fun cdv A outer s H E hr => (pdb_one (pds_ret (pd_tup (pda_cons (pd_call ((ok_shut_of Φ).mono (by decide)) hr rfl passL (pda_cons (p_ix (pv 0) (pd_int)) (pda_nil)) (amc (am0))) (pda_cons (pd_int) (pda_cons (pd_str) (pda_nil)))))))
abbrev s_towards : Stmt := top 53
theorem sc_towards : FnScope ["window", "settings", "place", "layer", "goal", "step"] ["window", "settings", "place", "layer", "goal"] (defScope s_towards) := ⟨rfl, rfl, rfl, by decide +kernel, rfl, by decide +kernel, by decide +kernel⟩
theorem ok_towards (Φ : Facts Pr w K mg base) : FnD Pr w K mg base "towards" 4 ["window", "settings", "place", "layer", "goal"] m_towards := by
  obtain ⟨f, fd, hm, F⟩ := Φ.d_towards
  have hb : Binds K fd ["window", "settings", "place", "layer", "goal"] [] := F.bindsN fun _ _ _ _ _ _ us hl => match us, hl with | [_, _, _, _, _], _ => rfl
  exact fndQ F hm hb sc_towards fun cdv A outer s H E hr => (pdb_cons (pds_while PassesOwn.never 5000 (t_ne hr (p_ix (pv 1) (pv 3)) (pv 4)) (pdb_cons (pds_set sc_towards.nd (i := 5) rfl (by first | exact .inl rfl | exact .inr rfl) (pd_if (t_lt hr (p_ix (pv 1) (pv 3)) (pv 4)) (pd_int) (p_neg (pd_int)))) (pdb_cons (pds_if (pdt_w (pdw_or (pdt_not (pdt_val (pd_call ((ok_has_hand Φ).mono (by decide)) hr rfl passL (pda_cons (pv 0) (pda_cons (pv 3) (pda_cons (pv 2) (pda_nil)))) (amc (amc (amc (am0))))))) (pdw_or1 (pdt_not (pdt_val (pd_call ((ok_can_step Φ).mono (by decide)) hr rfl passL (pda_cons (pv 0) (pda_cons (pv 1) (pda_cons (pv 3) (pda_cons (pv 5) (pda_nil))))) (amc (amc (amc (amc (am0))))))))))) (pdb_one (pds_ret (pv 1))) (pdb_nil)) (pdb_one (pds_set sc_towards.nd (i := 1) rfl (by first | exact .inl rfl | exact .inr rfl) (pd_call ((ok_with_step Φ).mono (by decide)) hr rfl passL (pda_cons (pv 1) (pda_cons (pv 3) (pda_cons (pv 5) (pda_nil)))) (amc (amc (amc (am0)))))))))) (pdb_one (pds_ret (pv 1))))
abbrev s_habit_done : Stmt := top 54
theorem sc_habit_done : FnScope ["window", "settings", "place", "steps", "halted", "layer", "goal"] ["window", "settings", "place", "steps"] (defScope s_habit_done) := ⟨rfl, rfl, rfl, by decide +kernel, rfl, by decide +kernel, by decide +kernel⟩
theorem ok_habit_done (Φ : Facts Pr w K mg base) : FnD Pr w K mg base "habit_done" 5 ["window", "settings", "place", "steps"] m_habit_done := by
  obtain ⟨f, fd, hm, F⟩ := Φ.d_habit_done
  have hb : Binds K fd ["window", "settings", "place", "steps"] [] := F.bindsN fun _ _ _ _ _ _ us hl => match us, hl with | [_, _, _, _], _ => rfl
  exact fndQ F hm hb sc_habit_done fun cdv A outer s H E hr => (pdb_cons (pds_set sc_habit_done.nd (i := 4) rfl (by first | exact .inl rfl | exact .inr rfl) (pd_bl)) (pdb_cons (pds_for PassesOwn.never rfl (pdi_seq (pv 3)) (pdg_tup rfl (pdgs_cons (pdg_name sc_habit_done.nd rfl (by first | exact .inl rfl | exact .inr rfl)) (pdgs_cons (pdg_name sc_habit_done.nd rfl (by first | exact .inl rfl | exact .inr rfl)) (pdgs_nil)))) (pdb_cons (pds_set sc_habit_done.nd (i := 1) rfl (by first | exact .inl rfl | exact .inr rfl) (pd_call ((ok_towards Φ).mono (by decide)) hr rfl passL (pda_cons (pv 0) (pda_cons (pv 1) (pda_cons (pv 2) (pda_cons (pv 5) (pda_cons (pv 6) (pda_nil)))))) (amc (amc (amc (amc (amc (am0)))))))) (pdb_one (pds_set sc_habit_done.nd (i := 4) rfl (by first | exact .inl rfl | exact .inr rfl) (pd_or (pv 4) (pd_one (v_ne hr (p_ix (pv 1) (pv 5)) (pv 6)))))))) (pdb_one (pds_ret (pd_tup (pda_cons (pv 1) (pda_cons (pv 4) (pda_nil))))))))
abbrev s_broken : Stmt := top 55
theorem sc_broken : FnScope ["window", "settings", "wish", "rain", "flies", "found"] ["window", "settings", "wish"] (defScope s_broken) := ⟨rfl, rfl, rfl, by decide +kernel, rfl, by decide +kernel, by decide +kernel⟩
theorem ok_broken (Φ : Facts Pr w K mg base) : FnD Pr w K mg base "broken" 3 ["window", "settings", "wish"] m_broken := by
  obtain ⟨f, fd, hm, F⟩ := Φ.d_broken
  have hb : Binds K fd ["window", "settings", "wish"] [] := F.bindsN fun _ _ _ _ _ _ us hl => match us, hl with | [_, _, _], _ => rfl
  exact fndQ F hm hb sc_broken fun cdv A outer s H E hr => (pdb_cons (pds_asg (pd_call ((ok_kept_by Φ).mono (by decide)) hr rfl passL (pda_cons (pv 0) (pda_cons (pv 1) (pda_nil))) (amc (amc (am0)))) (pdg_tup rfl (pdgs_cons (pdg_name sc_broken.nd rfl (by first | exact .inl rfl | exact .inr rfl)) (pdgs_cons (pdg_name sc_broken.nd rfl (by first | exact .inl rfl | exact .inr rfl)) (pdgs_nil))))) (pdb_cons (pds_set sc_broken.nd (i := 5) rfl (by first | exact .inl rfl | exact .inr rfl) (pd_if (pdt_w (pdw_and (t_in hr (pv 2) (pd_tup (pda_cons (pd_str) (pda_cons (pd_str) (pda_nil))))) (pdw_and1 (pdt_not (pdt_val (pv 4)))))) (pd_lst (pda_cons (pd_str) (pda_nil))) (pd_lst (pda_nil)))) (pdb_one (pds_ret (p_add (pv 5) (pd_rep (pda_cons (pd_str) (pda_nil)) (p_int Φ.bi (pd_and (v_in hr (pv 2) (pd_tup (pda_cons (pd_str) (pda_cons (pd_str) (pda_nil))))) (pd_one (pd_not (pv 3)))))))))))
abbrev s_habit_rows : Stmt := top 56
theorem sc_habit_rows : FnScope ["house", "stand", "settings", "place", "wish", "found", "number", "steps", "later", "there", "halted", "some"] ["house", "stand"] (defScope s_habit_rows) := ⟨rfl, rfl, rfl, by decide +kernel, rfl, by decide +kernel, by decide +kernel⟩
theorem ok_habit_rows (Φ : Facts Pr w K mg base) : FnD Pr w K mg base "habit_rows" 6 ["house", "stand"] m_habit_rows := by
  obtain ⟨f, fd, hm, F⟩ := Φ.d_habit_rows
  have hb : Binds K fd ["house", "stand"] [] := F.bindsN fun _ _ _ _ _ _ us hl => match us, hl with | [_, _], _ => rfl
  exact fndQ F hm hb sc_habit_rows fun cdv A outer s H E hr => (pdb_cons (pds_asg (pv 1) (pdg_tup rfl (pdgs_cons (pdg_name sc_habit_rows.nd rfl (by first | exact .inl rfl | exact .inr rfl)) (pdgs_cons (pdg_name sc_habit_rows.nd rfl (by first | exact .inl rfl | exact .inr rfl)) (pdgs_cons (pdg_name sc_habit_rows.nd rfl (by first | exact .inl rfl | exact .inr rfl)) (pdgs_nil)))))) (pdb_cons (pds_set sc_habit_rows.nd (i := 5) rfl (by first | exact .inl rfl | exact .inr rfl) (pd_lst (pda_nil))) (pdb_cons (pds_for PassesOwn.never rfl (i_enum Φ.bi (pda_cons (p_ix (pv 0) (pd_int)) (pda_nil))) (pdg_tup rfl (pdgs_cons (pdg_name sc_habit_rows.nd rfl (by first | exact .inl rfl | exact .inr rfl)) (pdgs_cons (pdg_tup rfl (pdgs_cons (pdg_name sc_habit_rows.nd rfl (by first | exact .inl rfl | exact .inr rfl)) (pdgs_cons (pdg_name sc_habit_rows.nd rfl (by first | exact .inl rfl | exact .inr rfl)) (pdgs_nil)))) (pdgs_nil)))) (pdb_cons (pds_asg (pd_call ((ok_habit_done Φ).mono (by decide)) hr rfl passL (pda_cons (p_ix (pv 0) (pd_int)) (pda_cons (pv 2) (pda_cons (pv 3) (pda_cons (pv 7) (pda_nil))))) (amc (amc (amc (amc (am0)))))) (pdg_tup rfl (pdgs_cons (pdg_name sc_habit_rows.nd rfl (by first | exact .inl rfl | exact .inr rfl)) (pdgs_cons (pdg_name sc_habit_rows.nd rfl (by first | exact .inl rfl | exact .inr rfl)) (pdgs_nil))))) (pdb_cons (pds_set sc_habit_rows.nd (i := 11) rfl (by first | exact .inl rfl | exact .inr rfl) (p_add (pd_call ((ok_broken Φ).mono (by decide)) hr rfl passL (pda_cons (p_ix (pv 0) (pd_int)) (pda_cons (pv 9) (pda_cons (pv 8) (pda_nil)))) (amc (amc (amc (am0))))) (pd_rep (pda_cons (pd_str) (pda_nil)) (p_int Φ.bi (pv 10))))) (pdb_one (pds_set sc_habit_rows.nd (i := 5) rfl (by first | exact .inl rfl | exact .inr rfl) (p_add (pv 5) (pd_lst (pda_cons (pd_tup (pda_cons (pd_tup (pda_cons (pd_str) (pda_cons (pv 6) (pda_nil)))) (pda_cons (p_sorted Φ.bi hr (pv 11)) (pda_cons (pd_tup (pda_cons (pv 9) (pda_cons (pv 3) (pda_cons (pv 8) (pda_nil))))) (pda_nil))))) (pda_nil))))))))) (pdb_one (pds_ret (pv 5))))))
abbrev s_event_rows : Stmt := top 57
theorem sc_event_rows : FnScope ["house", "stand", "settings", "place", "wish", "found", "layer", "step", "event", "there"] ["house", "stand"] (defScope s_event_rows) := ⟨rfl, rfl, rfl, by decide +kernel, rfl, by decide +kernel, by decide +kernel⟩
theorem ok_event_rows (Φ : Facts Pr w K mg base) : FnD Pr w K mg base "event_rows" 7 ["house", "stand"] m_event_rows := by
  obtain ⟨f, fd, hm, F⟩ := Φ.d_event_rows
  have hb : Binds K fd ["house", "stand"] [] := F.bindsN fun _ _ _ _ _ _ us hl => match us, hl with | [_, _], _ => rfl
  exact fndQ F hm hb sc_event_rows fun cdv A outer s H E hr => (pdb_cons (pds_asg (pv 1) (pdg_tup rfl (pdgs_cons (pdg_name sc_event_rows.nd rfl (by first | exact .inl rfl | exact .inr rfl)) (pdgs_cons (pdg_name sc_event_rows.nd rfl (by first | exact .inl rfl | exact .inr rfl)) (pdgs_cons (pdg_name sc_event_rows.nd rfl (by first | exact .inl rfl | exact .inr rfl)) (pdgs_nil)))))) (pdb_cons (pds_set sc_event_rows.nd (i := 5) rfl (by first | exact .inl rfl | exact .inr rfl) (pd_call ((ok_habit_rows Φ).mono (by decide)) hr rfl passL (pda_cons (pv 0) (pda_cons (pv 1) (pda_nil))) (amc (amc (am0))))) (pdb_cons (pds_if (t_eq hr (pv 2) (pd_call ((ok_open_of Φ).mono (by decide)) hr rfl passL (pda_cons (p_ix (pv 0) (pd_int)) (pda_nil)) (amc (am0)))) (pdb_cons (pds_set sc_event_rows.nd (i := 8) rfl (by first | exact .inl rfl | exact .inr rfl) (pd_if (t_eq hr (pv 3) (pd_int)) (pd_tup (pda_cons (pd_str) (pda_nil))) (pd_tup (pda_cons (pd_str) (pda_nil))))) (pdb_one (pds_set sc_event_rows.nd (i := 5) rfl (by first | exact .inl rfl | exact .inr rfl) (p_add (pv 5) (pd_lst (pda_cons (pd_tup (pda_cons (pv 8) (pda_cons (pd_call ((ok_broken Φ).mono (by decide)) hr rfl passL (pda_cons (p_ix (pv 0) (pd_int)) (pda_cons (pv 2) (pda_cons (pv 4) (pda_nil)))) (amc (amc (amc (am0))))) (pda_cons (pd_tup (pda_cons (pv 2) (pda_cons (p_sub (pd_int) (pv 3)) (pda_cons (pv 4) (pda_nil))))) (pda_nil))))) (pda_nil))))))) (pdb_nil)) (pdb_cons (pds_for PassesOwn.never rfl (pdi_seq (pd_call ((ok_wind_moves Φ).mono (by decide)) hr rfl passL (pda_cons (p_ix (pv 0) (pd_int)) (pda_cons (pv 2) (pda_nil))) (amc (amc (am0))))) (pdg_tup rfl (pdgs_cons (pdg_name sc_event_rows.nd rfl (by first | exact .inl rfl | exact .inr rfl)) (pdgs_cons (pdg_name sc_event_rows.nd rfl (by first | exact .inl rfl | exact .inr rfl)) (pdgs_nil)))) (pdb_cons (pds_set sc_event_rows.nd (i := 9) rfl (by first | exact .inl rfl | exact .inr rfl) (pd_call ((ok_with_step Φ).mono (by decide)) hr rfl passL (pda_cons (pv 2) (pda_cons (pv 6) (pda_cons (pv 7) (pda_nil)))) (amc (amc (amc (am0)))))) (pdb_one (pds_set sc_event_rows.nd (i := 5) rfl (by first | exact .inl rfl | exact .inr rfl) (p_add (pv 5) (pd_lst (pda_cons (pd_tup (pda_cons (pd_tup (pda_cons (pd_str) (pda_cons (pv 6) (pda_cons (pv 7) (pda_nil))))) (pda_cons (pd_call ((ok_broken Φ).mono (by decide)) hr rfl passL (pda_cons (p_ix (pv 0) (pd_int)) (pda_cons (pv 9) (pda_cons (pv 4) (pda_nil)))) (amc (amc (amc (am0))))) (pda_cons (pd_tup (pda_cons (pv 9) (pda_cons (pv 3) (pda_cons (pv 4) (pda_nil))))) (pda_nil))))) (pda_nil)))))))) (pdb_one (pds_ret (pv 5)))))))
abbrev s_graph_of : Stmt := top 60
theorem sc_graph_of : FnScope ["house", "windy", "found", "line", "later", "stand", "row"] ["house", "windy"] (defScope s_graph_of) := ⟨rfl, rfl, rfl, by decide +kernel, rfl, by decide +kernel, by decide +kernel⟩
theorem ok_graph_of (Φ : Facts Pr w K mg base) : FnD Pr w K mg base "graph_of" 8 ["house", "windy"] m_graph_of := by
  obtain ⟨f, fd, hm, F⟩ := Φ.d_graph_of
  have hb : Binds K fd ["house", "windy"] [] := F.bindsN fun _ _ _ _ _ _ us hl => match us, hl with | [_, _], _ => rfl
  exact fndQ F hm hb sc_graph_of fun cdv A outer s H E hr => (pdb_cons (pds_par (i := 2) (j := 3) rfl sc_graph_of.nd rfl rfl (by decide) rfl rfl (pd_dn0 ⟨Φ.isP, Φ.isW⟩) (pd_lst (pda_cons (pd_call ((ok_begin Φ).mono (by decide)) hr rfl passL (pda_cons (pv 0) (pda_nil)) (amc (am0))) (pda_nil))) rfl) (pdb_cons (pds_while PassesOwn.never 5000 (t_ne hr (pv 3) (pd_lst (pda_nil))) (pdb_cons (pds_set sc_graph_of.nd (i := 4) rfl (by first | exact .inl rfl | exact .inr rfl) (pd_lstO (pda_nil))) (pdb_cons (pds_for PassesOwn.never rfl (pdi_seq (pv 3)) (pdg_name sc_graph_of.nd rfl (by first | exact .inl rfl | exact .inr rfl)) (pdb_one (pds_if (pdt_sdnin ⟨Φ.isP, Φ.isW⟩ hr (i := 2) rfl (by first | exact .inl rfl | exact .inr (.inl rfl) | exact .inr (.inr rfl)) (pv 5)) (pdb_cons (pds_dset ⟨Φ.isP, Φ.isW⟩ hr (i := 2) rfl (by first | exact .inl rfl | exact .inr (.inl rfl) | exact .inr (.inr rfl)) (pd_comp (own := [("row", 6)]) (ow := false) rfl sc_graph_of.nd (pdi_seq (pd_call ((ok_event_rows Φ).mono (by decide)) hr rfl passL (pda_cons (pv 0) (pda_cons (pv 5) (pda_nil))) (amc (amc (am0))))) (blkOk_by (by kernel_rfl)) (by decide) (fun _ _ _ _ _ => pdg_name sc_graph_of.nd rfl (by first | exact .inl rfl | exact .inr rfl)) (fun _ _ _ _ _ => pdts_one (pdt_w (pdw_or (pdt_val (pv 1)) (pdw_or1 (t_ne hr (p_ix (p_ix (pv 6) (pd_int)) (pd_int)) (pd_str)))))) (fun _ _ _ _ _ => pv 6)) (pv 5)) (pdb_one (pds_iadd sc_graph_of.nd (i := 4) rfl (by first | exact .inl rfl | exact .inr rfl) (pd_comp (own := [("row", 6)]) (ow := true) rfl sc_graph_of.nd (pdi_seq (pd_sdix ⟨Φ.isP, Φ.isW⟩ hr (i := 2) rfl (by first | exact .inl rfl | exact .inr (.inl rfl) | exact .inr (.inr rfl)) (pv 5))) (blkOk_by (by kernel_rfl)) (by decide) (fun _ _ _ _ _ => pdg_name sc_graph_of.nd rfl (by first | exact .inl rfl | exact .inr rfl)) (fun _ _ _ _ _ => pdts_nil) (fun _ _ _ _ _ => p_ix (pv 6) (pd_int)))))) (pdb_nil)))) (pdb_frz (i := 4) (pdb_one (pds_set sc_graph_of.nd (i := 3) rfl (by first | exact .inl rfl | exact .inr rfl) (pv 4))))))) (pdb_one (pds_retO (i := 2) rfl (by first | exact .inl rfl | exact .inr (.inl rfl) | exact .inr (.inr rfl))))))
abbrev s_histories : Stmt := top 61
theorem sc_histories : FnScope ["house", "graph", "found", "stand", "event", "harms_so", "there"] ["house", "graph"] (defScope s_histories) := ⟨rfl, rfl, rfl, by decide +kernel, rfl, by decide +kernel, by decide +kernel⟩
theorem ok_histories (Φ : Facts Pr w K mg base) : FnD Pr w K mg base "histories" 4 ["house", "graph"] m_histories := by
  obtain ⟨f, fd, hm, F⟩ := Φ.d_histories
  have hb : Binds K fd ["house", "graph"] [] := F.bindsN fun _ _ _ _ _ _ us hl => match us, hl with | [_, _], _ => rfl
  exact fndQ F hm hb sc_histories fun cdv A outer s H E hr => (pdb_cons (pds_set sc_histories.nd (i := 2) rfl (by first | exact .inl rfl | exact .inr rfl) (pd_dn1 ⟨Φ.isP, Φ.isW⟩ hr (pd_call ((ok_begin Φ).mono (by decide)) hr rfl passL (pda_cons (pv 0) (pda_nil)) (amc (am0))) (pd_tup (pda_nil)))) (pdb_cons (pds_lock (pds_for PassesOwn.never rfl (pdi_dk (i := 1) rfl (by first | exact .inl rfl | exact .inr (.inl rfl) | exact .inr (.inr rfl))) (pdg_name sc_histories.nd rfl (by first | exact .inl rfl | exact .inr rfl)) (pdb_one (pds_for PassesOwn.never rfl (pdi_seq (pd_sdix ⟨Φ.isP, Φ.isW⟩ hr (i := 1) rfl (by first | exact .inl rfl | exact .inr (.inl rfl) | exact .inr (.inr rfl)) (pv 3))) (pdg_tup rfl (pdgs_cons (pdg_name sc_histories.nd rfl (by first | exact .inl rfl | exact .inr rfl)) (pdgs_cons (pdg_name sc_histories.nd rfl (by first | exact .inl rfl | exact .inr rfl)) (pdgs_cons (pdg_name sc_histories.nd rfl (by first | exact .inl rfl | exact .inr rfl)) (pdgs_nil))))) (pdb_one (pds_if (pdt_sdnin ⟨Φ.isP, Φ.isW⟩ hr (i := 2) rfl (by first | exact .inl rfl | exact .inr (.inl rfl) | exact .inr (.inr rfl)) (pv 6)) (pdb_one (pds_dset ⟨Φ.isP, Φ.isW⟩ hr (i := 2) rfl (by first | exact .inl rfl | exact .inr (.inl rfl) | exact .inr (.inr rfl)) (p_add (pd_sdix ⟨Φ.isP, Φ.isW⟩ hr (i := 2) rfl (by first | exact .inl rfl | exact .inr (.inl rfl) | exact .inr (.inr rfl)) (pv 3)) (pd_tup (pda_cons (pv 4) (pda_nil)))) (pv 6))) (pdb_nil))))))) (pdb_one (pds_retO (i := 2) rfl (by first | exact .inl rfl | exact .inr (.inl rfl) | exact .inr (.inr rfl))))))
abbrev s_stand_harms : Stmt := top 62
theorem sc_stand_harms : FnScope ["window", "stand", "settings", "place", "wish", "ways"] ["window", "stand"] (defScope s_stand_harms) := ⟨rfl, rfl, rfl, by decide +kernel, rfl, by decide +kernel, by decide +kernel⟩
theorem ok_stand_harms (Φ : Facts Pr w K mg base) : FnD Pr w K mg base "stand_harms" 6 ["window", "stand"] m_stand_harms := by
  obtain ⟨f, fd, hm, F⟩ := Φ.d_stand_harms
  have hb : Binds K fd ["window", "stand"] [] := F.bindsN fun _ _ _ _ _ _ us hl => match us, hl with | [_, _], _ => rfl
  exact fndQ F hm hb sc_stand_harms fun cdv A outer s H E hr => (pdb_cons (pds_asg (pv 1) (pdg_tup rfl (pdgs_cons (pdg_name sc_stand_harms.nd rfl (by first | exact .inl rfl | exact .inr rfl)) (pdgs_cons (pdg_name sc_stand_harms.nd rfl (by first | exact .inl rfl | exact .inr rfl)) (pdgs_cons (pdg_name sc_stand_harms.nd rfl (by first | exact .inl rfl | exact .inr rfl)) (pdgs_nil)))))) (pdb_cons (pds_set sc_stand_harms.nd (i := 5) rfl (by first | exact .inl rfl | exact .inr rfl) (pd_call ((ok_ways_from Φ).mono (by decide)) hr rfl passL (pda_cons (pv 0) (pda_cons (pv 2) (pda_cons (pv 3) (pda_nil)))) (amc (amc (amc (am0)))))) (pdb_cons (pds_if (t_eq hr (pv 3) (pd_int)) (pdb_one (pds_ret (pd_if (pdt_sdin ⟨Φ.isP, Φ.isW⟩ hr (i := 5) rfl (by first | exact .inl rfl | exact .inr (.inl rfl) | exact .inr (.inr rfl)) (pd_call ((ok_open_of Φ).mono (by decide)) hr rfl passL (pda_cons (pv 0) (pda_nil)) (amc (am0)))) (pd_lst (pda_nil)) (pd_lst (pda_cons (pd_str) (pda_nil)))))) (pdb_nil)) (pdb_one (pds_ret (pd_if (pdt_sdin ⟨Φ.isP, Φ.isW⟩ hr (i := 5) rfl (by first | exact .inl rfl | exact .inr (.inl rfl) | exact .inr (.inr rfl)) (pd_call ((ok_shut_of Φ).mono (by decide)) hr rfl passL (pda_cons (pv 0) (pda_nil)) (amc (am0)))) (pd_lst (pda_nil)) (pd_lst (pda_cons (pd_str) (pda_nil)))))))))
abbrev s_first_harms : Stmt := top 63
theorem sc_first_harms : FnScope ["house", "windy", "graph", "ways", "rows", "found", "stand", "history", "harm", "event", "some", "there"] ["house", "windy"] (defScope s_first_harms) := ⟨rfl, rfl, rfl, by decide +kernel, rfl, by decide +kernel, by decide +kernel⟩
theorem ok_first_harms (Φ : Facts Pr w K mg base) : FnD Pr w K mg base "first_harms" 9 ["house", "windy"] m_first_harms := by
  obtain ⟨f, fd, hm, F⟩ := Φ.d_first_harms
  have hb : Binds K fd ["house", "windy"] [] := F.bindsN fun _ _ _ _ _ _ us hl => match us, hl with | [_, _], _ => rfl
  exact fndQ F hm hb sc_first_harms fun cdv A outer s H E hr => (pdb_cons (pds_set sc_first_harms.nd (i := 2) rfl (by first | exact .inl rfl | exact .inr rfl) (pd_call ((ok_graph_of Φ).mono (by decide)) hr rfl passL (pda_cons (pv 0) (pda_cons (pv 1) (pda_nil))) (amc (amc (am0))))) (pdb_cons (pds_parT3 (i := 3) (j := 4) (l := 5) rfl sc_first_harms.nd rfl rfl rfl (by first | exact .inl rfl | exact .inr rfl) (by first | exact .inl rfl | exact .inr rfl) (by first | exact .inl rfl | exact .inr rfl) (pd_call ((ok_histories Φ).mono (by decide)) hr rfl passL (pda_cons (pv 0) (a_ref 2 (pda_nil))) (amc (amr (am0)))) (pd_lstO (pda_nil)) (pd_dk0)) (pdb_cons (pds_lock (pds_for PassesOwn.never rfl (pdi_dk (i := 2) rfl (by first | exact .inl rfl | exact .inr (.inl rfl) | exact .inr (.inr rfl))) (pdg_name sc_first_harms.nd rfl (by first | exact .inl rfl | exact .inr rfl)) (pdb_cons (pds_iadd sc_first_harms.nd (i := 4) rfl (by first | exact .inl rfl | exact .inr rfl) (pd_comp (own := [("harm", 8)]) (ow := true) rfl sc_first_harms.nd (pdi_seq (pd_call ((ok_stand_harms Φ).mono (by decide)) hr rfl passL (pda_cons (p_ix (pv 0) (pd_int)) (pda_cons (pv 6) (pda_nil))) (amc (amc (am0))))) (blkOk_by (by kernel_rfl)) (by decide) (fun _ _ _ _ _ => pdg_name sc_first_harms.nd rfl (by first | exact .inl rfl | exact .inr rfl)) (fun _ _ _ _ _ => pdts_nil) (fun _ _ _ _ _ => pd_tup (pda_cons (pd_sdix ⟨Φ.isP, Φ.isW⟩ hr (i := 3) rfl (by first | exact .inl rfl | exact .inr (.inl rfl) | exact .inr (.inr rfl)) (pv 6)) (pda_cons (pv 8) (pda_nil)))))) (pdb_one (pds_for PassesOwn.never rfl (pdi_seq (pd_sdix ⟨Φ.isP, Φ.isW⟩ hr (i := 2) rfl (by first | exact .inl rfl | exact .inr (.inl rfl) | exact .inr (.inr rfl)) (pv 6))) (pdg_tup rfl (pdgs_cons (pdg_name sc_first_harms.nd rfl (by first | exact .inl rfl | exact .inr rfl)) (pdgs_cons (pdg_name sc_first_harms.nd rfl (by first | exact .inl rfl | exact .inr rfl)) (pdgs_cons (pdg_name sc_first_harms.nd rfl (by first | exact .inl rfl | exact .inr rfl)) (pdgs_nil))))) (pdb_one (pds_iadd sc_first_harms.nd (i := 4) rfl (by first | exact .inl rfl | exact .inr rfl) (pd_comp (own := [("harm", 8)]) (ow := true) rfl sc_first_harms.nd (pdi_seq (pv 10)) (blkOk_by (by kernel_rfl)) (by decide) (fun _ _ _ _ _ => pdg_name sc_first_harms.nd rfl (by first | exact .inl rfl | exact .inr rfl)) (fun _ _ _ _ _ => pdts_nil) (fun _ _ _ _ _ => pd_tup (pda_cons (p_add (pd_sdix ⟨Φ.isP, Φ.isW⟩ hr (i := 3) rfl (by first | exact .inl rfl | exact .inr (.inl rfl) | exact .inr (.inr rfl)) (pv 6)) (pd_tup (pda_cons (pv 9) (pda_nil)))) (pda_cons (pv 8) (pda_nil)))))))))))) (pdb_frz (i := 4) (pdb_cons (pds_for PassesOwn.never rfl (pdi_seq (pv 4)) (pdg_tup rfl (pdgs_cons (pdg_name sc_first_harms.nd rfl (by first | exact .inl rfl | exact .inr rfl)) (pdgs_cons (pdg_name sc_first_harms.nd rfl (by first | exact .inl rfl | exact .inr rfl)) (pdgs_nil)))) (pdb_one (pds_if (pdt_w (pdw_or (pdt_sdnin ⟨Φ.isP, Φ.isW⟩ hr (i := 5) rfl (by first | exact .inl rfl | exact .inr (.inl rfl) | exact .inr (.inr rfl)) (pv 8)) (pdw_or1 (t_lta hr (pd_tup (pda_cons (p_len Φ.bi (pv 7)) (pda_cons (pv 7) (pda_nil)))) (pd_tup (pda_cons (p_len Φ.bi (pd_sdix ⟨Φ.isP, Φ.isW⟩ hr (i := 5) rfl (by first | exact .inl rfl | exact .inr (.inl rfl) | exact .inr (.inr rfl)) (pv 8))) (pda_cons (pd_sdix ⟨Φ.isP, Φ.isW⟩ hr (i := 5) rfl (by first | exact .inl rfl | exact .inr (.inl rfl) | exact .inr (.inr rfl)) (pv 8)) (pda_nil)))))))) (pdb_one (pds_dset ⟨Φ.isP, Φ.isW⟩ hr (i := 5) rfl (by first | exact .inl rfl | exact .inr (.inl rfl) | exact .inr (.inr rfl)) (pv 7) (pv 8))) (pdb_nil)))) (pdb_one (pds_retO (i := 5) rfl (by first | exact .inl rfl | exact .inr (.inl rfl) | exact .inr (.inr rfl)))))))))
abbrev s_need_harm : Stmt := top 64
theorem sc_need_harm : FnScope ["value"] ["value"] (defScope s_need_harm) := ⟨rfl, rfl, rfl, by decide +kernel, rfl, by decide +kernel, by decide +kernel⟩
theorem ok_need_harm (Φ : Facts Pr w K mg base) : FnD Pr w K mg base "need_harm" 3 ["value"] m_need_harm := by
  obtain ⟨f, fd, hm, F⟩ := Φ.d_need_harm
  have hb : Binds K fd ["value"] [] := F.bindsN fun _ _ _ _ _ _ us hl => match us, hl with | [_], _ => rfl
  exact fndQ F hm hb sc_need_harm fun cdv A outer s H E hr => (pdb_one (pds_if (pdt_not (pdt_val (pd_call ((ok_is_word Φ).mono (by decide)) hr rfl passL (pda_cons (pv 0) (pda_cons (p_gobj Φ.c_HARMS) (pda_nil))) (amc (amc (am0)))))) (pdb_one (pds_never)) (pdb_nil)))
abbrev s_harms : Stmt := top 65
theorem sc_harms : FnScope ["house"] ["house"] (defScope s_harms) := ⟨rfl, rfl, rfl, by decide +kernel, rfl, by decide +kernel, by decide +kernel⟩
theorem ok_harms (Φ : Facts Pr w K mg base) : FnD Pr w K mg base "harms" 10 ["house"] m_harms := by
  obtain ⟨f, fd, hm, F⟩ := Φ.d_harms
  have hb : Binds K fd ["house"] [] := F.bindsN fun _ _ _ _ _ _ us hl => match us, hl with | [_], _ => rfl
  exact fndQ F hm hb sc_harms fun cdv A outer s H E hr => (pdb_cons (pds_expr (pd_call ((ok_need_house Φ).mono (by decide)) hr rfl passL (pda_cons (pv 0) (pda_nil)) (amc (am0)))) (pdb_one (pds_ret (pd_fsort Φ.bi rfl hr (pd_call ((ok_first_harms Φ).mono (by decide)) hr rfl passL (pda_cons (pv 0) (pda_cons (pd_bl) (pda_nil))) (amc (amc (am0))))))))
abbrev s_calm_harms : Stmt := top 66
theorem sc_calm_harms : FnScope ["house"] ["house"] (defScope s_calm_harms) := ⟨rfl, rfl, rfl, by decide +kernel, rfl, by decide +kernel, by decide +kernel⟩
theorem ok_calm_harms (Φ : Facts Pr w K mg base) : FnD Pr w K mg base "calm_harms" 10 ["house"] m_calm_harms := by
  obtain ⟨f, fd, hm, F⟩ := Φ.d_calm_harms
  have hb : Binds K fd ["house"] [] := F.bindsN fun _ _ _ _ _ _ us hl => match us, hl with | [_], _ => rfl
  exact fndQ F hm hb sc_calm_harms fun cdv A outer s H E hr => (pdb_cons (pds_expr (pd_call ((ok_need_house Φ).mono (by decide)) hr rfl passL (pda_cons (pv 0) (pda_nil)) (amc (am0)))) (pdb_one (pds_ret (pd_fsort Φ.bi rfl hr (pd_call ((ok_first_harms Φ).mono (by decide)) hr rfl passL (pda_cons (pv 0) (pda_cons (pd_bl) (pda_nil))) (amc (amc (am0))))))))
abbrev s_first_history : Stmt := top 67
theorem sc_first_history : FnScope ["house", "harm"] ["house", "harm"] (defScope s_first_history) := ⟨rfl, rfl, rfl, by decide +kernel, rfl, by decide +kernel, by decide +kernel⟩
theorem ok_first_history (Φ : Facts Pr w K mg base) : FnD Pr w K mg base "first_history" 10 ["house", "harm"] m_first_history := by
  obtain ⟨f, fd, hm, F⟩ := Φ.d_first_history
  have hb : Binds K fd ["house", "harm"] [] := F.bindsN fun _ _ _ _ _ _ us hl => match us, hl with | [_, _], _ => rfl
  exact fndQ F hm hb sc_first_history fun cdv A outer s H E hr => (pdb_cons (pds_expr (pd_call ((ok_need_house Φ).mono (by decide)) hr rfl passL (pda_cons (pv 0) (pda_nil)) (amc (am0)))) (pdb_cons (pds_expr (pd_call ((ok_need_harm Φ).mono (by decide)) hr rfl passL (pda_cons (pv 1) (pda_nil)) (amc (am0)))) (pdb_one (pds_ret (pd_fdg1 ⟨Φ.isP, Φ.isW⟩ hr (pd_call ((ok_first_harms Φ).mono (by decide)) hr rfl passL (pda_cons (pv 0) (pda_cons (pd_bl) (pda_nil))) (amc (amc (am0)))) (pv 1))))))
abbrev s_count_stands : Stmt := top 68
theorem sc_count_stands : FnScope ["house"] ["house"] (defScope s_count_stands) := ⟨rfl, rfl, rfl, by decide +kernel, rfl, by decide +kernel, by decide +kernel⟩
theorem ok_count_stands (Φ : Facts Pr w K mg base) : FnD Pr w K mg base "count_stands" 9 ["house"] m_count_stands := by
  obtain ⟨f, fd, hm, F⟩ := Φ.d_count_stands
  have hb : Binds K fd ["house"] [] := F.bindsN fun _ _ _ _ _ _ us hl => match us, hl with | [_], _ => rfl
  exact fndQ F hm hb sc_count_stands fun cdv A outer s H E hr => (pdb_cons (pds_expr (pd_call ((ok_need_house Φ).mono (by decide)) hr rfl passL (pda_cons (pv 0) (pda_nil)) (amc (am0)))) (pdb_one (pds_ret (pd_flen ⟨Φ.isP, Φ.isW⟩ Φ.bi (pd_call ((ok_graph_of Φ).mono (by decide)) hr rfl passL (pda_cons (pv 0) (pda_cons (pd_bl) (pda_nil))) (amc (amc (am0))))))))
abbrev s_all_bars : Stmt := top 70
theorem sc_all_bars : FnScope ["layers", "numbers", "rows", "spans", "one", "other", "low", "high", "row", "span"] ["layers"] (defScope s_all_bars) := ⟨rfl, rfl, rfl, by decide +kernel, rfl, by decide +kernel, by decide +kernel⟩
theorem ok_all_bars (Φ : Facts Pr w K mg base) : FnD Pr w K mg base "all_bars" 4 ["layers"] m_all_bars := by
  obtain ⟨f, fd, hm, F⟩ := Φ.d_all_bars
  have hb : Binds K fd ["layers"] [] := F.bindsN fun _ _ _ _ _ _ us hl => match us, hl with | [_], _ => rfl
  exact fndQ F hm hb sc_all_bars fun cdv A outer s H E hr => (pdb_cons (pds_set sc_all_bars.nd (i := 1) rfl (by first | exact .inl rfl | exact .inr rfl) (p_lr Φ.bi rfl (p_len Φ.bi (pv 0)))) (pdb_cons (pds_setComp2 (own := [("one", 4), ("other", 5)]) (vs1 := [5]) (ow := false) rfl sc_all_bars.nd rfl rfl (sw_true rfl rfl rfl (by decide +kernel)) (pdi_seq (pv 1)) (blkOk_by (by kernel_rfl)) (by decide) (by decide) (by decide) (fun _ _ _ _ _ => pdg_name sc_all_bars.nd rfl (by first | exact .inl rfl | exact .inr rfl)) (fun _ _ _ _ _ => pdts_nil) (fun _ _ _ _ _ => pdi_seq (pv 1)) (fun _ _ _ _ _ => pdg_name sc_all_bars.nd rfl (by first | exact .inl rfl | exact .inr rfl)) (fun _ _ _ _ _ => pdts_nil) (fun _ _ _ _ _ => pd_tup (pda_cons (pv 4) (pda_cons (pv 5) (pda_nil))))) (pdb_cons (pds_set sc_all_bars.nd (i := 3) rfl (by first | exact .inl rfl | exact .inr rfl) (pd_comp2 (own := [("low", 6), ("high", 7)]) (vs1 := [7]) (ow := false) rfl sc_all_bars.nd (i_rng1 Φ.bi (pda_cons (pd_int) (pda_nil))) (blkOk_by (by kernel_rfl)) (by decide) (by decide) (by decide) (fun _ _ _ _ _ => pdg_name sc_all_bars.nd rfl (by first | exact .inl rfl | exact .inr rfl)) (fun _ _ _ _ _ => pdts_nil) (fun _ _ _ _ _ => i_rng1 Φ.bi (pda_cons (pd_int) (pda_nil))) (fun _ _ _ _ _ => pdg_name sc_all_bars.nd rfl (by first | exact .inl rfl | exact .inr rfl)) (fun _ _ _ _ _ => pdts_nil) (fun _ _ _ _ _ => pd_tup (pda_cons (pv 6) (pda_cons (pv 7) (pda_nil)))))) (pdb_one (pds_ret (pd_comp2 (own := [("row", 8), ("span", 9)]) (vs1 := [9]) (ow := false) rfl sc_all_bars.nd (pdi_seq (pv 2)) (blkOk_by (by kernel_rfl)) (by decide) (by decide) (by decide) (fun _ _ _ _ _ => pdg_name sc_all_bars.nd rfl (by first | exact .inl rfl | exact .inr rfl)) (fun _ _ _ _ _ => pdts_nil) (fun _ _ _ _ _ => pdi_seq (pv 3)) (fun _ _ _ _ _ => pdg_name sc_all_bars.nd rfl (by first | exact .inl rfl | exact .inr rfl)) (fun _ _ _ _ _ => pdts_one (pdt_val (pd_call ((ok_is_bar Φ).mono (by decide)) hr rfl passL (pda_cons (pv 0) (pda_cons (p_add (pv 8) (pv 9)) (pda_nil))) (amc (amc (am0)))))) (fun _ _ _ _ _ => p_add (pv 8) (pv 9))))))))
abbrev s_bars_changed : Stmt := top 71
theorem sc_bars_changed : FnScope ["window", "layers", "bars", "found", "at", "bar"] ["window"] (defScope s_bars_changed) := ⟨rfl, rfl, rfl, by decide +kernel, rfl, by decide +kernel, by decide +kernel⟩
theorem ok_bars_changed (Φ : Facts Pr w K mg base) : FnD Pr w K mg base "bars_changed" 5 ["window"] m_bars_changed := by
  obtain ⟨f, fd, hm, F⟩ := Φ.d_bars_changed
  have hb : Binds K fd ["window"] [] := F.bindsN fun _ _ _ _ _ _ us hl => match us, hl with | [_], _ => rfl
  exact fndQ F hm hb sc_bars_changed fun cdv A outer s H E hr => (pdb_cons (pds_asg (pv 0) (pdg_tup rfl (pdgs_cons (pdg_name sc_bars_changed.nd rfl (by first | exact .inl rfl | exact .inr rfl)) (pdgs_cons (pdg_name sc_bars_changed.nd rfl (by first | exact .inl rfl | exact .inr rfl)) (pdgs_nil))))) (pdb_cons (pds_setComp (own := [("at", 4)]) (ow := true) rfl sc_bars_changed.nd rfl rfl (sw_true rfl rfl rfl (by decide +kernel)) (i_rng1 Φ.bi (pda_cons (p_len Φ.bi (pv 2)) (pda_nil))) (blkOk_by (by kernel_rfl)) (by decide) (fun _ _ _ _ _ => pdg_name sc_bars_changed.nd rfl (by first | exact .inl rfl | exact .inr rfl)) (fun _ _ _ _ _ => pdts_nil) (fun _ _ _ _ _ => pd_tup (pda_cons (pv 1) (pda_cons (p_add (p_sl (pv 2) (pdo_none) (pdo_some (pv 4))) (p_sl (pv 2) (pdo_some (p_add (pv 4) (pd_int))) (pdo_none))) (pda_nil))))) (pdb_cons (pds_if (t_lt hr (p_len Φ.bi (pv 2)) (p_gint Φ.c_MOST_BARS)) (pdb_one (pds_iadd sc_bars_changed.nd (i := 3) rfl (by first | exact .inl rfl | exact .inr rfl) (pd_comp (own := [("bar", 5)]) (ow := true) rfl sc_bars_changed.nd (pdi_seq (pd_call ((ok_all_bars Φ).mono (by decide)) hr rfl passL (pda_cons (pv 1) (pda_nil)) (amc (am0)))) (blkOk_by (by kernel_rfl)) (by decide) (fun _ _ _ _ _ => pdg_name sc_bars_changed.nd rfl (by first | exact .inl rfl | exact .inr rfl)) (fun _ _ _ _ _ => pdts_one (t_notin hr (pv 5) (pv 2))) (fun _ _ _ _ _ => pd_tup (pda_cons (pv 1) (pda_cons (p_tuple Φ.bi (p_sorted Φ.bi hr (p_add (pv 2) (pd_tup (pda_cons (pv 5) (pda_nil)))))) (pda_nil))))))) (pdb_nil)) (pdb_frz (i := 3) (pdb_one (pds_ret (p_sorted Φ.bi hr (pv 3))))))))
abbrev s_steps_of : Stmt := top 72
theorem sc_steps_of : FnScope ["layers", "layer", "goal"] ["layers"] (defScope s_steps_of) := ⟨rfl, rfl, rfl, by decide +kernel, rfl, by decide +kernel, by decide +kernel⟩
theorem ok_steps_of (Φ : Facts Pr w K mg base) : FnD Pr w K mg base "steps_of" 2 ["layers"] m_steps_of := by
  obtain ⟨f, fd, hm, F⟩ := Φ.d_steps_of
  have hb : Binds K fd ["layers"] [] := F.bindsN fun _ _ _ _ _ _ us hl => match us, hl with | [_], _ => rfl
  exact fndQ F hm hb sc_steps_of fun cdv A outer s H E hr => (pdb_one (pds_ret (pd_comp2 (own := [("layer", 1), ("goal", 2)]) (vs1 := [2]) (ow := false) rfl sc_steps_of.nd (i_rng1 Φ.bi (pda_cons (p_len Φ.bi (pv 0)) (pda_nil))) (blkOk_by (by kernel_rfl)) (by decide) (by decide) (by decide) (fun _ _ _ _ _ => pdg_name sc_steps_of.nd rfl (by first | exact .inl rfl | exact .inr rfl)) (fun _ _ _ _ _ => pdts_nil) (fun _ _ _ _ _ => i_rng1 Φ.bi (pda_cons (p_add (p_ix (p_ix (pv 0) (pv 1)) (pd_int)) (pd_int)) (pda_nil))) (fun _ _ _ _ _ => pdg_name sc_steps_of.nd rfl (by first | exact .inl rfl | exact .inr rfl)) (fun _ _ _ _ _ => pdts_nil) (fun _ _ _ _ _ => pd_tup (pda_cons (pv 1) (pda_cons (pv 2) (pda_nil)))))))
abbrev s_is_sure : Stmt := top 73
theorem sc_is_sure : FnScope ["window", "steps", "wish", "rows", "settings", "there"] ["window", "steps", "wish"] (defScope s_is_sure) := ⟨rfl, rfl, rfl, by decide +kernel, rfl, by decide +kernel, by decide +kernel⟩
theorem ok_is_sure (Φ : Facts Pr w K mg base) : FnD Pr w K mg base "is_sure" 6 ["window", "steps", "wish"] m_is_sure := by
  obtain ⟨f, fd, hm, F⟩ := Φ.d_is_sure
  have hb : Binds K fd ["window", "steps", "wish"] [] := F.bindsN fun _ _ _ _ _ _ us hl => match us, hl with | [_, _, _], _ => rfl
  exact fndQ F hm hb sc_is_sure fun cdv A outer s H E hr => (pdb_cons (pds_setComp (own := [("settings", 4)]) (ow := false) rfl sc_is_sure.nd rfl rfl (sw_true rfl rfl rfl (by decide +kernel)) (pdi_seq (pd_call ((ok_all_settings Φ).mono (by decide)) hr rfl passL (pda_cons (pv 0) (pda_nil)) (amc (am0)))) (blkOk_by (by kernel_rfl)) (by decide) (fun _ _ _ _ _ => pdg_name sc_is_sure.nd rfl (by first | exact .inl rfl | exact .inr rfl)) (fun _ _ _ _ _ => pdts_nil) (fun _ _ _ _ _ => p_ix (pd_call ((ok_habit_done Φ).mono (by decide)) hr rfl passL (pda_cons (pv 0) (pda_cons (pv 4) (pda_cons (pd_int) (pda_cons (pv 1) (pda_nil))))) (amc (amc (amc (amc (am0)))))) (pd_int))) (pdb_one (pds_ret (pd_not (p_any Φ.bi rfl (pd_comp (own := [("there", 5)]) (ow := false) rfl sc_is_sure.nd (pdi_seq (pv 3)) (blkOk_by (by kernel_rfl)) (by decide) (fun _ _ _ _ _ => pdg_name sc_is_sure.nd rfl (by first | exact .inl rfl | exact .inr rfl)) (fun _ _ _ _ _ => pdts_nil) (fun _ _ _ _ _ => v_ne hr (pd_call ((ok_broken Φ).mono (by decide)) hr rfl passL (pda_cons (pv 0) (pda_cons (pv 5) (pda_cons (pv 2) (pda_nil)))) (amc (amc (amc (am0))))) (pd_lst (pda_nil)))))))))
abbrev s_bar_changes : Stmt := top 74
theorem sc_bar_changes : FnScope ["window"] ["window"] (defScope s_bar_changes) := ⟨rfl, rfl, rfl, by decide +kernel, rfl, by decide +kernel, by decide +kernel⟩
theorem ok_bar_changes (Φ : Facts Pr w K mg base) : FnD Pr w K mg base "bar_changes" 6 ["window"] m_bar_changes := by
  obtain ⟨f, fd, hm, F⟩ := Φ.d_bar_changes
  have hb : Binds K fd ["window"] [] := F.bindsN fun _ _ _ _ _ _ us hl => match us, hl with | [_], _ => rfl
  exact fndQ F hm hb sc_bar_changes fun cdv A outer s H E hr => (pdb_cons (pds_expr (pd_call ((ok_need_window Φ).mono (by decide)) hr rfl passL (pda_cons (pv 0) (pda_nil)) (amc (am0)))) (pdb_one (pds_ret (pd_call ((ok_bars_changed Φ).mono (by decide)) hr rfl passL (pda_cons (pv 0) (pda_nil)) (amc (am0))))))
abbrev s_sure_steps : Stmt := top 75
theorem sc_sure_steps : FnScope ["window", "wish", "rows", "turn", "found", "steps", "step"] ["window", "wish"] (defScope s_sure_steps) := ⟨rfl, rfl, rfl, by decide +kernel, rfl, by decide +kernel, by decide +kernel⟩
theorem ok_sure_steps (Φ : Facts Pr w K mg base) : FnD Pr w K mg base "sure_steps" 7 ["window", "wish"] m_sure_steps := by
  obtain ⟨f, fd, hm, F⟩ := Φ.d_sure_steps
  have hb : Binds K fd ["window", "wish"] [] := F.bindsN fun _ _ _ _ _ _ us hl => match us, hl with | [_, _], _ => rfl
  exact fndQ F hm hb sc_sure_steps fun cdv A outer s H E hr => (pdb_cons (pds_expr (pd_call ((ok_need_window Φ).mono (by decide)) hr rfl passL (pda_cons (pv 0) (pda_nil)) (amc (am0)))) (pdb_cons (pds_if (pdt_not (pdt_val (pd_call ((ok_is_word Φ).mono (by decide)) hr rfl passL (pda_cons (pv 1) (pda_cons (p_gobj Φ.c_WISHES) (pda_nil))) (amc (amc (am0)))))) (pdb_one (pds_never)) (pdb_nil)) (pdb_cons (pds_set sc_sure_steps.nd (i := 2) rfl (by first | exact .inl rfl | exact .inr rfl) (pd_lst (pda_cons (pd_tup (pda_nil)) (pda_nil)))) (pdb_cons (pds_for PassesOwn.never rfl (i_rng1 Φ.bi (pda_cons (pd_int) (pda_nil))) (pdg_name sc_sure_steps.nd rfl (by first | exact .inl rfl | exact .inr rfl)) (pdb_cons (pds_setComp (own := [("steps", 5)]) (ow := false) rfl sc_sure_steps.nd rfl rfl (sw_true rfl rfl rfl (by decide +kernel)) (pdi_seq (pv 2)) (blkOk_by (by kernel_rfl)) (by decide) (fun _ _ _ _ _ => pdg_name sc_sure_steps.nd rfl (by first | exact .inl rfl | exact .inr rfl)) (fun _ _ _ _ _ => pdts_one (pdt_val (pd_call ((ok_is_sure Φ).mono (by decide)) hr rfl passL (pda_cons (pv 0) (pda_cons (pv 5) (pda_cons (pv 1) (pda_nil)))) (amc (amc (amc (am0))))))) (fun _ _ _ _ _ => pv 5)) (pdb_cons (pds_if (t_ne hr (pv 4) (pd_lst (pda_nil))) (pdb_one (pds_ret (pv 4))) (pdb_nil)) (pdb_one (pds_setComp2 (own := [("steps", 5), ("step", 6)]) (vs1 := [6]) (ow := false) rfl sc_sure_steps.nd rfl rfl (sw_true rfl rfl rfl (by decide +kernel)) (pdi_seq (pv 2)) (blkOk_by (by kernel_rfl)) (by decide) (by decide) (by decide) (fun _ _ _ _ _ => pdg_name sc_sure_steps.nd rfl (by first | exact .inl rfl | exact .inr rfl)) (fun _ _ _ _ _ => pdts_nil) (fun _ _ _ _ _ => pdi_seq (pd_call ((ok_steps_of Φ).mono (by decide)) hr rfl passL (pda_cons (p_ix (pv 0) (pd_int)) (pda_nil)) (amc (am0)))) (fun _ _ _ _ _ => pdg_name sc_sure_steps.nd rfl (by first | exact .inl rfl | exact .inr rfl)) (fun _ _ _ _ _ => pdts_nil) (fun _ _ _ _ _ => p_add (pv 5) (pd_tup (pda_cons (pv 6) (pda_nil))))))))) (pdb_one (pds_ret (pd_lst (pda_nil))))))))
abbrev s_deeds_of : Stmt := top 77
theorem sc_deeds_of : FnScope ["window", "settings", "found", "place", "move"] ["window", "settings"] (defScope s_deeds_of) := ⟨rfl, rfl, rfl, by decide +kernel, rfl, by decide +kernel, by decide +kernel⟩
theorem ok_deeds_of (Φ : Facts Pr w K mg base) : FnD Pr w K mg base "deeds_of" 5 ["window", "settings"] m_deeds_of := by
  obtain ⟨f, fd, hm, F⟩ := Φ.d_deeds_of
  have hb : Binds K fd ["window", "settings"] [] := F.bindsN fun _ _ _ _ _ _ us hl => match us, hl with | [_, _], _ => rfl
  exact fndQ F hm hb sc_deeds_of fun cdv A outer s H E hr => (pdb_cons (pds_set sc_deeds_of.nd (i := 2) rfl (by first | exact .inl rfl | exact .inr rfl) (pd_lstO (pda_nil))) (pdb_cons (pds_for PassesOwn.never rfl (pdi_seq (pd_tup (pda_cons (pd_int) (pda_cons (pd_int) (pda_nil))))) (pdg_name sc_deeds_of.nd rfl (by first | exact .inl rfl | exact .inr rfl)) (pdb_one (pds_iadd sc_deeds_of.nd (i := 2) rfl (by first | exact .inl rfl | exact .inr rfl) (pd_comp (own := [("move", 4)]) (ow := true) rfl sc_deeds_of.nd (pdi_seq (pd_call ((ok_hand_moves Φ).mono (by decide)) hr rfl passL (pda_cons (pv 0) (pda_cons (pv 1) (pda_cons (pv 3) (pda_nil)))) (amc (amc (amc (am0)))))) (blkOk_by (by kernel_rfl)) (by decide) (fun _ _ _ _ _ => pdg_name sc_deeds_of.nd rfl (by first | exact .inl rfl | exact .inr rfl)) (fun _ _ _ _ _ => pdts_nil) (fun _ _ _ _ _ => p_add (pd_tup (pda_cons (pd_str) (pda_cons (pv 3) (pda_nil)))) (pv 4)))))) (pdb_frz (i := 2) (pdb_one (pds_ret (p_add (pv 2) (pd_comp (own := [("move", 4)]) (ow := false) rfl sc_deeds_of.nd (pdi_seq (pd_call ((ok_wind_moves Φ).mono (by decide)) hr rfl passL (pda_cons (pv 0) (pda_cons (pv 1) (pda_nil))) (amc (amc (am0))))) (blkOk_by (by kernel_rfl)) (by decide) (fun _ _ _ _ _ => pdg_name sc_deeds_of.nd rfl (by first | exact .inl rfl | exact .inr rfl)) (fun _ _ _ _ _ => pdts_nil) (fun _ _ _ _ _ => p_add (pd_tup (pda_cons (pd_str) (pda_nil))) (pv 4)))))))))
abbrev s_parted : Stmt := top 78
theorem sc_parted : FnScope ["one", "other", "first", "line", "seen", "at", "settings", "row", "mine", "yours", "deed", "there"] ["one", "other"] (defScope s_parted) := ⟨rfl, rfl, rfl, by decide +kernel, rfl, by decide +kernel, by decide +kernel⟩
theorem ok_parted (Φ : Facts Pr w K mg base) : FnD Pr w K mg base "parted" 6 ["one", "other"] m_parted := by
  obtain ⟨f, fd, hm, F⟩ := Φ.d_parted
  have hb : Binds K fd ["one", "other"] [] := F.bindsN fun _ _ _ _ _ _ us hl => match us, hl with | [_, _], _ => rfl
  exact fndQ F hm hb sc_parted fun cdv A outer s H E hr => (pdb_cons (pds_set sc_parted.nd (i := 2) rfl (by first | exact .inl rfl | exact .inr rfl) (pd_call ((ok_shut_of Φ).mono (by decide)) hr rfl passL (pda_cons (pv 0) (pda_nil)) (amc (am0)))) (pdb_cons (pds_if (t_ne hr (pd_call ((ok_kept_by Φ).mono (by decide)) hr rfl passL (pda_cons (pv 0) (pda_cons (pv 2) (pda_nil))) (amc (amc (am0)))) (pd_call ((ok_kept_by Φ).mono (by decide)) hr rfl passL (pda_cons (pv 1) (pda_cons (pv 2) (pda_nil))) (amc (amc (am0))))) (pdb_one (pds_ret (pd_tup (pda_nil)))) (pdb_nil)) (pdb_cons (pds_par3 (i := 3) (j := 4) (l := 5) rfl sc_parted.nd rfl rfl rfl (by decide) (by decide) (by decide) rfl rfl rfl (pd_lstO (pda_cons (pd_tup (pda_cons (pv 2) (pda_cons (pd_tup (pda_nil)) (pda_nil)))) (pda_nil))) (pd_dn1 ⟨Φ.isP, Φ.isW⟩ hr (pv 2) (pd_bl)) (pd_int) rfl) (pdb_cons (pds_while PassesOwn.never 5000 (t_lt hr (pv 5) (p_olen Φ.bi 3)) (pdb_cons (pds_asg (p_oix 3 (pv 5)) (pdg_tup rfl (pdgs_cons (pdg_name sc_parted.nd rfl (by first | exact .inl rfl | exact .inr rfl)) (pdgs_cons (pdg_name sc_parted.nd rfl (by first | exact .inl rfl | exact .inr rfl)) (pdgs_nil))))) (pdb_cons (pds_augI sc_parted.nd (i := 5) rfl (by first | exact .inl rfl | exact .inr rfl) (pd_int)) (pdb_cons (pds_par (i := 8) (j := 9) rfl sc_parted.nd rfl rfl (by decide) rfl rfl (pd_call ((ok_deeds_of Φ).mono (by decide)) hr rfl passL (pda_cons (pv 0) (pda_cons (pv 6) (pda_nil))) (amc (amc (am0)))) (pd_call ((ok_deeds_of Φ).mono (by decide)) hr rfl passL (pda_cons (pv 1) (pda_cons (pv 6) (pda_nil))) (amc (amc (am0)))) rfl) (pdb_one (pds_for PassesOwn.never rfl (pdi_seq (p_sk Φ.bi rfl hr (p_add (pv 8) (pv 9)))) (pdg_name sc_parted.nd rfl (by first | exact .inl rfl | exact .inr rfl)) (pdb_cons (pds_set sc_parted.nd (i := 11) rfl (by first | exact .inl rfl | exact .inr rfl) (pd_call ((ok_with_step Φ).mono (by decide)) hr rfl passL (pda_cons (pv 6) (pda_cons (p_ix (pv 10) (p_neg (pd_int))) (pda_cons (p_ix (pv 10) (p_neg (pd_int))) (pda_nil)))) (amc (amc (amc (am0)))))) (pdb_cons (pds_if (pdt_w (pdw_or (t_notin hr (pv 10) (pv 8)) (pdw_or (t_notin hr (pv 10) (pv 9)) (pdw_or1 (t_ne hr (pd_call ((ok_kept_by Φ).mono (by decide)) hr rfl passL (pda_cons (pv 0) (pda_cons (pv 11) (pda_nil))) (amc (amc (am0)))) (pd_call ((ok_kept_by Φ).mono (by decide)) hr rfl passL (pda_cons (pv 1) (pda_cons (pv 11) (pda_nil))) (amc (amc (am0))))))))) (pdb_one (pds_ret (p_add (pv 7) (pd_tup (pda_cons (pv 10) (pda_nil)))))) (pdb_nil)) (pdb_one (pds_if (pdt_sdnin ⟨Φ.isP, Φ.isW⟩ hr (i := 4) rfl (by first | exact .inl rfl | exact .inr (.inl rfl) | exact .inr (.inr rfl)) (pv 11)) (pdb_cons (pds_dset ⟨Φ.isP, Φ.isW⟩ hr (i := 4) rfl (by first | exact .inl rfl | exact .inr (.inl rfl) | exact .inr (.inr rfl)) (pd_bl) (pv 11)) (pdb_one (pds_app (i := 3) rfl (by first | exact .inl rfl | exact .inr (.inl rfl) | exact .inr (.inr rfl)) (pd_tup (pda_cons (pv 11) (pda_cons (p_add (pv 7) (pd_tup (pda_cons (pv 10) (pda_nil)))) (pda_nil))))))) (pdb_nil))))))))))) (pdb_one (pds_ret (pd_non)))))))
abbrev s_need_two : Stmt := top 79
theorem sc_need_two : FnScope ["one", "other", "layer"] ["one", "other"] (defScope s_need_two) := ⟨rfl, rfl, rfl, by decide +kernel, rfl, by decide +kernel, by decide +kernel⟩
theorem ok_need_two (Φ : Facts Pr w K mg base) : FnD Pr w K mg base "need_two" 6 ["one", "other"] m_need_two := by
  obtain ⟨f, fd, hm, F⟩ := Φ.d_need_two
  have hb : Binds K fd ["one", "other"] [] := F.bindsN fun _ _ _ _ _ _ us hl => match us, hl with | [_, _], _ => rfl
  exact fndQ F hm hb sc_need_two fun cdv A outer s H E hr => (pdb_cons (pds_expr (pd_call ((ok_need_window Φ).mono (by decide)) hr rfl passL (pda_cons (pv 0) (pda_nil)) (amc (am0)))) (pdb_cons (pds_expr (pd_call ((ok_need_window Φ).mono (by decide)) hr rfl passL (pda_cons (pv 1) (pda_nil)) (amc (am0)))) (pdb_one (pds_if (t_ne hr (pd_comp (own := [("layer", 2)]) (ow := false) rfl sc_need_two.nd (pdi_seq (p_ix (pv 0) (pd_int))) (blkOk_by (by kernel_rfl)) (by decide) (fun _ _ _ _ _ => pdg_name sc_need_two.nd rfl (by first | exact .inl rfl | exact .inr rfl)) (fun _ _ _ _ _ => pdts_nil) (fun _ _ _ _ _ => p_ix (pv 2) (pd_int))) (pd_comp (own := [("layer", 2)]) (ow := false) rfl sc_need_two.nd (pdi_seq (p_ix (pv 1) (pd_int))) (blkOk_by (by kernel_rfl)) (by decide) (fun _ _ _ _ _ => pdg_name sc_need_two.nd rfl (by first | exact .inl rfl | exact .inr rfl)) (fun _ _ _ _ _ => pdts_nil) (fun _ _ _ _ _ => p_ix (pv 2) (pd_int)))) (pdb_one (pds_never)) (pdb_nil)))))
abbrev s_parting : Stmt := top 80
theorem sc_parting : FnScope ["one", "other"] ["one", "other"] (defScope s_parting) := ⟨rfl, rfl, rfl, by decide +kernel, rfl, by decide +kernel, by decide +kernel⟩
theorem ok_parting (Φ : Facts Pr w K mg base) : FnD Pr w K mg base "parting" 7 ["one", "other"] m_parting := by
  obtain ⟨f, fd, hm, F⟩ := Φ.d_parting
  have hb : Binds K fd ["one", "other"] [] := F.bindsN fun _ _ _ _ _ _ us hl => match us, hl with | [_, _], _ => rfl
  exact fndQ F hm hb sc_parting fun cdv A outer s H E hr => (pdb_cons (pds_expr (pd_call ((ok_need_two Φ).mono (by decide)) hr rfl passL (pda_cons (pv 0) (pda_cons (pv 1) (pda_nil))) (amc (amc (am0))))) (pdb_one (pds_ret (pd_call ((ok_parted Φ).mono (by decide)) hr rfl passL (pda_cons (pv 0) (pda_cons (pv 1) (pda_nil))) (amc (amc (am0)))))))
abbrev s_idle_bars : Stmt := top 81
theorem sc_idle_bars : FnScope ["window", "layers", "bars", "rows", "at", "less"] ["window"] (defScope s_idle_bars) := ⟨rfl, rfl, rfl, by decide +kernel, rfl, by decide +kernel, by decide +kernel⟩
theorem ok_idle_bars (Φ : Facts Pr w K mg base) : FnD Pr w K mg base "idle_bars" 7 ["window"] m_idle_bars := by
  obtain ⟨f, fd, hm, F⟩ := Φ.d_idle_bars
  have hb : Binds K fd ["window"] [] := F.bindsN fun _ _ _ _ _ _ us hl => match us, hl with | [_], _ => rfl
  exact fndQ F hm hb sc_idle_bars fun cdv A outer s H E hr => (pdb_cons (pds_expr (pd_call ((ok_need_window Φ).mono (by decide)) hr rfl passL (pda_cons (pv 0) (pda_nil)) (amc (am0)))) (pdb_cons (pds_asg (pv 0) (pdg_tup rfl (pdgs_cons (pdg_name sc_idle_bars.nd rfl (by first | exact .inl rfl | exact .inr rfl)) (pdgs_cons (pdg_name sc_idle_bars.nd rfl (by first | exact .inl rfl | exact .inr rfl)) (pdgs_nil))))) (pdb_cons (pds_setComp (own := [("at", 4)]) (ow := false) rfl sc_idle_bars.nd rfl rfl (sw_true rfl rfl rfl (by decide +kernel)) (i_rng1 Φ.bi (pda_cons (p_len Φ.bi (pv 2)) (pda_nil))) (blkOk_by (by kernel_rfl)) (by decide) (fun _ _ _ _ _ => pdg_name sc_idle_bars.nd rfl (by first | exact .inl rfl | exact .inr rfl)) (fun _ _ _ _ _ => pdts_nil) (fun _ _ _ _ _ => pd_tup (pda_cons (pv 1) (pda_cons (p_add (p_sl (pv 2) (pdo_none) (pdo_some (pv 4))) (p_sl (pv 2) (pdo_some (p_add (pv 4) (pd_int))) (pdo_none))) (pda_nil))))) (pdb_one (pds_ret (pd_comp (own := [("at", 4), ("less", 5)]) (ow := false) rfl sc_idle_bars.nd (i_enum Φ.bi (pda_cons (pv 3) (pda_nil))) (blkOk_by (by kernel_rfl)) (by decide) (fun _ _ _ _ _ => pdg_tup rfl (pdgs_cons (pdg_name sc_idle_bars.nd rfl (by first | exact .inl rfl | exact .inr rfl)) (pdgs_cons (pdg_name sc_idle_bars.nd rfl (by first | exact .inl rfl | exact .inr rfl)) (pdgs_nil)))) (fun _ _ _ _ _ => pdts_one (t_is (pd_call ((ok_parted Φ).mono (by decide)) hr rfl passL (pda_cons (pv 0) (pda_cons (pv 5) (pda_nil))) (amc (amc (am0)))) (pd_non))) (fun _ _ _ _ _ => pv 4)))))))
abbrev s__law_deck : Stmt := top 83
theorem sc__law_deck : FnScope ["cell", "turn"] ["cell", "turn"] (defScope s__law_deck) := ⟨rfl, rfl, rfl, by decide +kernel, rfl, by decide +kernel, by decide +kernel⟩
theorem ok__law_deck (Φ : Facts Pr w K mg base) : FnD Pr w K mg base "_law_deck" 2 ["cell", "turn"] m__law_deck := by
  obtain ⟨f, fd, hm, F⟩ := Φ.d__law_deck
  have hb : Binds K fd ["cell", "turn"] [] := F.bindsN fun _ _ _ _ _ _ us hl => match us, hl with | [_, _], _ => rfl
  exact fndQ F hm hb sc__law_deck fun cdv A outer s H E hr => (pdb_cons (pds_if (t_ge (pv 0) (p_pow (pd_int) (pd_int))) (pdb_one (pds_ret (pd_lstO (pda_cons (p_sub (pv 0) (p_pow (pd_int) (pd_int))) (pda_cons (p_mod (pv 0) (pd_int)) (pda_cons (pv 1) (pda_nil))))))) (pdb_nil)) (pdb_one (pds_ret (pd_lstO (pda_cons (pd_int) (pda_cons (p_mod (pv 0) (pd_int)) (pda_cons (pv 1) (pda_nil))))))))
abbrev s__law_pick : Stmt := top 84
theorem sc__law_pick : FnScope ["deck", "size", "number", "found"] ["deck", "size"] (defScope s__law_pick) := ⟨rfl, rfl, rfl, by decide +kernel, rfl, by decide +kernel, by decide +kernel⟩
theorem ok__law_pick (Φ : Facts Pr w K mg base) : FnD Pr w K mg base "_law_pick" 2 ["deck", "size"] m__law_pick := by
  obtain ⟨f, fd, hm, F⟩ := Φ.d__law_pick
  have hb : Binds K fd ["deck", "size"] [] := F.bindsN fun _ _ _ _ _ _ us hl => match us, hl with | [_, _], _ => rfl
  exact fndQ F hm hb sc__law_pick fun cdv A outer s H E hr => (pdb_cons (pds_if (t_gt (p_oix 0 (pd_int)) (pd_int)) (pdb_cons (pds_set sc__law_pick.nd (i := 3) rfl (by first | exact .inl rfl | exact .inr rfl) (p_mod (p_int Φ.bi (p_oix 0 (pd_int))) (pv 1))) (pdb_cons (pds_oset (i := 0) rfl (by first | exact .inl rfl | exact .inr (.inl rfl) | exact .inr (.inr rfl)) (p_fdiv (p_oix 0 (pd_int)) (pv 1)) (pd_int)) (pdb_one (pds_ret (pv 3))))) (pdb_nil)) (pdb_cons (pds_oset (i := 0) rfl (by first | exact .inl rfl | exact .inr (.inl rfl) | exact .inr (.inr rfl)) (p_add (p_oix 0 (pd_int)) (pd_int)) (pd_int)) (pdb_cons (pds_set sc__law_pick.nd (i := 2) rfl (by first | exact .inl rfl | exact .inr rfl) (p_mod (p_pow (p_add (p_oix 0 (pd_int)) (p_mul (pd_int) (p_oix 0 (pd_int)))) (pd_int)) (pd_int))) (pdb_cons (pds_set sc__law_pick.nd (i := 3) rfl (by first | exact .inl rfl | exact .inr rfl) (p_fdiv (p_mod (p_pow (p_add (pv 2) (p_mul (pd_int) (p_oix 0 (pd_int)))) (pd_int)) (pd_int)) (pd_int))) (pdb_one (pds_ret (p_mod (p_int Φ.bi (pv 3)) (pv 1))))))))
abbrev s__law_known : Stmt := top 85
theorem sc__law_known : FnScope ["sash", "screen", "first", "third", "fourth", "two"] [] (defScope s__law_known) := ⟨rfl, rfl, rfl, by decide +kernel, rfl, by decide +kernel, by decide +kernel⟩
theorem ok__law_known (Φ : Facts Pr w K mg base) : FnD Pr w K mg base "_law_known" 2 [] m__law_known := by
  obtain ⟨f, fd, hm, F⟩ := Φ.d__law_known
  have hb : Binds K fd [] [] := F.bindsN fun _ _ _ _ _ _ us hl => match us, hl with | [], _ => rfl
  exact fndQ F hm hb sc__law_known fun cdv A outer s H E hr => (pdb_cons (pds_asg (pd_tup (pda_cons (pd_tup (pda_cons (pd_int) (pda_cons (pd_int) (pda_cons (pd_int) (pda_cons (pd_str) (pda_cons (pd_str) (pda_nil))))))) (pda_cons (pd_tup (pda_cons (pd_int) (pda_cons (p_neg (pd_int)) (pda_cons (pd_int) (pda_cons (pd_str) (pda_cons (pd_str) (pda_nil))))))) (pda_nil)))) (pdg_tup rfl (pdgs_cons (pdg_name sc__law_known.nd rfl (by first | exact .inl rfl | exact .inr rfl)) (pdgs_cons (pdg_name sc__law_known.nd rfl (by first | exact .inl rfl | exact .inr rfl)) (pdgs_nil))))) (pdb_cons (pds_set sc__law_known.nd (i := 2) rfl (by first | exact .inl rfl | exact .inr rfl) (pd_tup (pda_cons (pd_tup (pda_cons (pv 0) (pda_cons (pv 1) (pda_nil)))) (pda_cons (pd_tup (pda_cons (pd_tup (pda_cons (pd_int) (pda_cons (pd_int) (pda_cons (pd_int) (pda_cons (pd_int) (pda_nil)))))) (pda_nil))) (pda_nil))))) (pdb_cons (pds_set sc__law_known.nd (i := 3) rfl (by first | exact .inl rfl | exact .inr rfl) (pd_tup (pda_cons (pd_tup (pda_cons (pd_tup (pda_cons (pd_int) (pda_cons (pd_int) (pda_cons (pd_int) (pda_cons (pd_str) (pda_cons (pd_str) (pda_nil))))))) (pda_cons (pd_tup (pda_cons (pd_int) (pda_cons (p_neg (pd_int)) (pda_cons (pd_int) (pda_cons (pd_str) (pda_cons (pd_str) (pda_nil))))))) (pda_nil)))) (pda_cons (pd_tup (pda_nil)) (pda_nil))))) (pdb_cons (pds_set sc__law_known.nd (i := 4) rfl (by first | exact .inl rfl | exact .inr rfl) (pd_tup (pda_cons (pd_tup (pda_cons (pv 0) (pda_cons (pd_tup (pda_cons (pd_int) (pda_cons (p_neg (pd_int)) (pda_cons (pd_int) (pda_cons (pd_str) (pda_cons (pd_str) (pda_nil))))))) (pda_nil)))) (pda_cons (pd_tup (pda_cons (pd_tup (pda_cons (pd_int) (pda_cons (pd_int) (pda_cons (pd_int) (pda_cons (pd_int) (pda_nil)))))) (pda_nil))) (pda_nil))))) (pdb_cons (pds_set sc__law_known.nd (i := 5) rfl (by first | exact .inl rfl | exact .inr rfl) (pd_tup (pda_cons (pd_tup (pda_cons (pd_tup (pda_cons (pd_tup (pda_cons (pd_int) (pda_cons (pd_int) (pda_nil)))) (pda_cons (pd_tup (pda_cons (pd_int) (pda_cons (pd_int) (pda_nil)))) (pda_cons (pd_tup (pda_cons (pd_int) (pda_cons (pd_int) (pda_nil)))) (pda_nil))))) (pda_cons (pd_str) (pda_nil)))) (pda_cons (pd_tup (pda_cons (pd_tup (pda_cons (pd_tup (pda_cons (pd_int) (pda_cons (pd_int) (pda_nil)))) (pda_cons (pd_tup (pda_cons (pd_int) (pda_cons (pd_int) (pda_nil)))) (pda_cons (pd_tup (pda_cons (pd_int) (pda_cons (pd_int) (pda_nil)))) (pda_nil))))) (pda_cons (pd_str) (pda_nil)))) (pda_nil))))) (pdb_one (pds_ret (pd_lst (pda_cons (pv 2) (pda_cons (pv 3) (pda_cons (pv 4) (pda_cons (pv 5) (pda_cons (pd_tup (pda_cons (pd_tup (pda_cons (pd_tup (pda_cons (pd_tup (pda_cons (pd_int) (pda_cons (pd_int) (pda_nil)))) (pda_cons (pd_tup (pda_cons (pd_int) (pda_cons (pd_int) (pda_nil)))) (pda_nil)))) (pda_cons (pd_str) (pda_nil)))) (pda_nil))) (pda_nil))))))))))))))
abbrev s__law_tall_right : Stmt := top 86
theorem sc__law_tall_right : FnScope ["flipped", "hand_so", "spot", "layers", "pane", "way"] ["flipped"] (defScope s__law_tall_right) := ⟨rfl, rfl, rfl, by decide +kernel, rfl, by decide +kernel, by decide +kernel⟩
theorem ok__law_tall_right (Φ : Facts Pr w K mg base) : FnD Pr w K mg base "_law_tall_right" 8 ["flipped"] m__law_tall_right := by
  obtain ⟨f, fd, hm, F⟩ := Φ.d__law_tall_right
  have hb : Binds K fd ["flipped"] [] := F.bindsN fun _ _ _ _ _ _ us hl => match us, hl with | [_], _ => rfl
  exact fndQ F hm hb sc__law_tall_right fun cdv A outer s H E hr => (pdb_cons (pds_asg (pd_if (pdt_val (pv 0)) (pd_tup (pda_cons (pd_str) (pda_cons (pd_int) (pda_nil)))) (pd_tup (pda_cons (pd_str) (pda_cons (pd_int) (pda_nil))))) (pdg_tup rfl (pdgs_cons (pdg_name sc__law_tall_right.nd rfl (by first | exact .inl rfl | exact .inr rfl)) (pdgs_cons (pdg_name sc__law_tall_right.nd rfl (by first | exact .inl rfl | exact .inr rfl)) (pdgs_nil))))) (pdb_cons (pds_set sc__law_tall_right.nd (i := 3) rfl (by first | exact .inl rfl | exact .inr rfl) (pd_tup (pda_cons (pd_tup (pda_cons (pd_int) (pda_cons (pd_int) (pda_cons (pd_int) (pda_cons (pv 1) (pda_cons (pd_str) (pda_nil))))))) (pda_cons (pd_tup (pda_cons (pd_int) (pda_cons (p_neg (pd_int)) (pda_cons (pd_int) (pda_cons (pv 1) (pda_cons (pd_str) (pda_nil))))))) (pda_cons (pd_tup (pda_cons (pd_int) (pda_cons (p_neg (pd_int)) (pda_cons (p_neg (pd_int)) (pda_cons (pv 1) (pda_cons (pd_str) (pda_nil))))))) (pda_nil)))))) (pdb_cons (pds_set sc__law_tall_right.nd (i := 4) rfl (by first | exact .inl rfl | exact .inr rfl) (pd_tup (pda_cons (pv 3) (pda_cons (pd_tup (pda_cons (pd_tup (pda_cons (pd_int) (pda_cons (pd_int) (pda_cons (pd_int) (pda_cons (pd_int) (pda_nil)))))) (pda_cons (pd_tup (pda_cons (pd_int) (pda_cons (pd_int) (pda_cons (pd_int) (pda_cons (pd_int) (pda_nil)))))) (pda_nil)))) (pda_nil))))) (pdb_cons (pds_if (pdt_w (pdw_or (t_ne hr (pd_call ((ok_moves Φ).mono (by decide)) hr rfl passL (pda_cons (pv 4) (pda_cons (pd_tup (pda_cons (pd_int) (pda_cons (pd_int) (pda_cons (pd_int) (pda_nil))))) (pda_cons (pv 2) (pda_nil)))) (amc (amc (amc (am0))))) (pd_lst (pda_cons (pd_tup (pda_cons (pd_int) (pda_cons (pd_int) (pda_nil)))) (pda_nil)))) (pdw_or1 (t_ne hr (pd_call ((ok_moves Φ).mono (by decide)) hr rfl passL (pda_cons (pv 4) (pda_cons (pd_tup (pda_cons (pd_int) (pda_cons (pd_int) (pda_cons (pd_int) (pda_nil))))) (pda_cons (pv 2) (pda_nil)))) (amc (amc (amc (am0))))) (pd_lst (pda_cons (pd_tup (pda_cons (pd_int) (pda_cons (pd_int) (pda_nil)))) (pda_cons (pd_tup (pda_cons (pd_int) (pda_cons (p_neg (pd_int)) (pda_nil)))) (pda_cons (pd_tup (pda_cons (pd_int) (pda_cons (pd_int) (pda_nil)))) (pda_nil))))))))) (pdb_one (pds_ret (pd_bl))) (pdb_nil)) (pdb_cons (pds_set sc__law_tall_right.nd (i := 5) rfl (by first | exact .inl rfl | exact .inr rfl) (pd_call ((ok_fewest Φ).mono (by decide)) hr rfl passL (pda_cons (pv 4) (pda_cons (pd_tup (pda_cons (pd_int) (pda_cons (pd_int) (pda_cons (pd_int) (pda_nil))))) (pda_cons (pv 2) (pda_cons (pd_tup (pda_cons (pd_int) (pda_cons (pd_int) (pda_cons (pd_int) (pda_nil))))) (pda_nil))))) (amc (amc (amc (amc (am0))))))) (pdb_cons (pds_if (pdt_w (pdw_or (t_ne hr (p_len Φ.bi (pv 5)) (pd_int)) (pdw_or1 (pdt_w (pdw_and (t_ne hr (p_sl (pv 5) (pdo_none) (pdo_some (pd_int))) (pd_tup (pda_cons (pd_tup (pda_cons (pd_int) (pda_cons (pd_int) (pda_nil)))) (pda_cons (pd_tup (pda_cons (pd_int) (pda_cons (pd_int) (pda_nil)))) (pda_cons (pd_tup (pda_cons (pd_int) (pda_cons (pd_int) (pda_nil)))) (pda_nil)))))) (pdw_and1 (t_ne hr (p_sl (pv 5) (pdo_none) (pdo_some (pd_int))) (pd_tup (pda_cons (pd_tup (pda_cons (pd_int) (pda_cons (pd_int) (pda_nil)))) (pda_cons (pd_tup (pda_cons (pd_int) (pda_cons (pd_int) (pda_nil)))) (pda_nil))))))))))) (pdb_one (pds_ret (pd_bl))) (pdb_nil)) (pdb_cons (pds_if (pdt_w (pdw_or (t_ne hr (pd_call ((ok_dead Φ).mono (by decide)) hr rfl passL (pda_cons (pv 4) (pda_cons (pv 2) (pda_nil))) (amc (amc (am0)))) (pd_lst (pda_nil))) (pdw_or (t_ne hr (pd_call ((ok_winds Φ).mono (by decide)) hr rfl passL (pda_cons (pv 4) (pda_cons (pd_tup (pda_cons (pd_int) (pda_cons (pd_int) (pda_cons (pd_int) (pda_nil))))) (pda_nil))) (amc (amc (am0)))) (pd_lst (pda_cons (pd_tup (pda_cons (pd_int) (pda_cons (p_neg (pd_int)) (pda_nil)))) (pda_nil)))) (pdw_or1 (t_ne hr (pd_call ((ok_winds Φ).mono (by decide)) hr rfl passL (pda_cons (pv 4) (pda_cons (pd_tup (pda_cons (pd_int) (pda_cons (pd_int) (pda_cons (pd_int) (pda_nil))))) (pda_nil))) (amc (amc (am0)))) (pd_lst (pda_nil))))))) (pdb_one (pds_ret (pd_bl))) (pdb_nil)) (pdb_one (pds_ret (pd_and (v_eq hr (pd_call ((ok_kept Φ).mono (by decide)) hr rfl passL (pda_cons (pv 4) (pda_cons (pd_tup (pda_cons (pd_int) (pda_cons (pd_int) (pda_cons (pd_int) (pda_nil))))) (pda_nil))) (amc (amc (am0)))) (pd_tup (pda_cons (pd_bl) (pda_cons (pd_bl) (pda_nil))))) (pd_one (v_eq hr (pd_call ((ok_kept Φ).mono (by decide)) hr rfl passL (pda_cons (pv 4) (pda_cons (pd_tup (pda_cons (pd_int) (pda_cons (pd_int) (pda_cons (pd_int) (pda_nil))))) (pda_nil))) (amc (amc (am0)))) (pd_tup (pda_cons (pd_bl) (pda_cons (pd_bl) (pda_nil))))))))))))))))
abbrev s_law : Stmt := top 87
theorem sc_law : FnScope ["script", "first", "third", "fourth", "two", "wide", "cell", "deck", "flat", "spot"] ["script"] (defScope s_law) := ⟨rfl, rfl, rfl, by decide +kernel, rfl, by decide +kernel, by decide +kernel⟩
theorem ok_law (Φ : Facts Pr w K mg base) {f : Addr} {fd : FuncData} (hm : mg "law" = some (.ref f)) (F : FunD K "law" "law" (defArgs s_law) (defBody s_law) (defScope s_law) [] [] f fd) : FnOk Pr w K mg base (L2.CX Pr w) 11 f fd ["script"] (spF K mg 1 m_law) := by
  have hb : Binds K fd ["script"] [] := F.bindsN fun _ _ _ _ _ _ us hl => match us, hl with | [_], _ => rfl
  exact fndOk F hm hb sc_law fun cdv A outer s H E hr => (pdb_cons (pds_asg (pd_call0 ((ok__law_known Φ).mono (by decide)) hr rfl passL) (pdg_tupL rfl (pdgs_cons (pdg_name sc_law.nd rfl (by first | exact .inl rfl | exact .inr rfl)) (pdgs_cons (pdg_name sc_law.nd rfl (by first | exact .inl rfl | exact .inr rfl)) (pdgs_cons (pdg_name sc_law.nd rfl (by first | exact .inl rfl | exact .inr rfl)) (pdgs_cons (pdg_name sc_law.nd rfl (by first | exact .inl rfl | exact .inr rfl)) (pdgs_cons (pdg_name sc_law.nd rfl (by first | exact .inl rfl | exact .inr rfl)) (pdgs_nil)))))))) (pdb_cons (pds_for PassesOwn.never rfl (pdi_seq (p_sl (p_add (pd_lst (pda_cons (pd_int) (pda_nil))) (pv 0)) (pdo_none) (pdo_some (pd_int)))) (pdg_name sc_law.nd rfl (by first | exact .inl rfl | exact .inr rfl)) (pdb_cons (pds_set sc_law.nd (i := 7) rfl (by first | exact .inl rfl | exact .inr rfl) (pd_call ((ok__law_deck Φ).mono (by decide)) hr rfl passL (pda_cons (pv 6) (pda_cons (pd_int) (pda_nil))) (amc (amc (am0))))) (pdb_cons (pds_if (pdt_not (pdt_val (pd_call ((ok__law_tall_right Φ).mono (by decide)) hr rfl passL (pda_cons (v_eq hr (pd_call ((ok__law_pick Φ).mono (by decide)) hr rfl passL (a_ref 7 (pda_cons (pd_int) (pda_nil))) (amr (amc (am0)))) (pd_int)) (pda_nil)) (amc (am0))))) (pdb_one (pds_ret (pd_bl))) (pdb_nil)) (pdb_cons (pds_asg (pd_if (t_eq hr (pd_call ((ok__law_pick Φ).mono (by decide)) hr rfl passL (a_ref 7 (pda_cons (pd_int) (pda_nil))) (amr (amc (am0)))) (pd_int)) (pd_tup (pda_cons (pd_call ((ok_exchanged Φ).mono (by decide)) hr rfl passL (pda_cons (pv 1) (pda_nil)) (amc (am0))) (pda_cons (pd_int) (pda_nil)))) (pd_tup (pda_cons (pv 1) (pda_cons (pd_int) (pda_nil))))) (pdg_tup rfl (pdgs_cons (pdg_name sc_law.nd rfl (by first | exact .inl rfl | exact .inr rfl)) (pdgs_cons (pdg_name sc_law.nd rfl (by first | exact .inl rfl | exact .inr rfl)) (pdgs_nil))))) (pdb_cons (pds_if (t_ne hr (pd_lst (pda_cons (pd_call ((ok_farthest Φ).mono (by decide)) hr rfl passL (pda_cons (pv 8) (pda_cons (pv 9) (pda_nil))) (amc (amc (am0)))) (pda_cons (pd_call ((ok_farthest Φ).mono (by decide)) hr rfl passL (pda_cons (pv 8) (pda_cons (p_sub (pd_int) (pv 9)) (pda_nil))) (amc (amc (am0)))) (pda_cons (pd_call ((ok_dead Φ).mono (by decide)) hr rfl passL (pda_cons (pv 8) (pda_cons (pv 9) (pda_nil))) (amc (amc (am0)))) (pda_nil))))) (pd_lst (pda_cons (pd_int) (pda_cons (pd_int) (pda_cons (pd_lst (pda_nil)) (pda_nil)))))) (pdb_one (pds_ret (pd_bl))) (pdb_nil)) (pdb_one (pds_if (t_ne hr (pd_call ((ok_fewest Φ).mono (by decide)) hr rfl passL (pda_cons (pv 8) (pda_cons (pd_tup (pda_cons (pd_int) (pda_cons (pd_int) (pda_nil)))) (pda_cons (pv 9) (pda_cons (pd_tup (pda_cons (pd_int) (pda_cons (pd_int) (pda_nil)))) (pda_nil))))) (amc (amc (amc (amc (am0)))))) (pd_tup (pda_cons (pd_tup (pda_cons (pd_int) (pda_cons (pd_int) (pda_nil)))) (pda_cons (pd_tup (pda_cons (pd_int) (pda_cons (pd_int) (pda_nil)))) (pda_cons (pd_tup (pda_cons (pd_int) (pda_cons (p_neg (pd_int)) (pda_nil)))) (pda_nil)))))) (pdb_one (pds_ret (pd_bl))) (pdb_nil)))))))) (pdb_cons (pds_if (pdt_w (pdw_or (t_ne hr (pd_call ((ok_harms Φ).mono (by decide)) hr rfl passL (pda_cons (pd_tup (pda_cons (pv 1) (pda_cons (pv 4) (pda_nil)))) (pda_nil)) (amc (am0))) (pd_lst (pda_nil))) (pdw_or1 (t_ne hr (pd_call ((ok_harms Φ).mono (by decide)) hr rfl passL (pda_cons (pd_tup (pda_cons (pv 2) (pda_cons (pv 5) (pda_nil)))) (pda_nil)) (amc (am0))) (pd_lst (pda_cons (pd_str) (pda_cons (pd_str) (pda_nil)))))))) (pdb_one (pds_ret (pd_bl))) (pdb_nil)) (pdb_cons (pds_if (t_ne hr (pd_call ((ok_harms Φ).mono (by decide)) hr rfl passL (pda_cons (pd_tup (pda_cons (pv 3) (pda_cons (pv 5) (pda_nil)))) (pda_nil)) (amc (am0))) (pd_lst (pda_cons (pd_str) (pda_cons (pd_str) (pda_nil))))) (pdb_one (pds_ret (pd_bl))) (pdb_nil)) (pdb_cons (pds_if (t_ne hr (pd_lst (pda_cons (pd_call ((ok_calm_harms Φ).mono (by decide)) hr rfl passL (pda_cons (pd_tup (pda_cons (pv 2) (pda_cons (pv 5) (pda_nil)))) (pda_nil)) (amc (am0))) (pda_cons (pd_call ((ok_calm_harms Φ).mono (by decide)) hr rfl passL (pda_cons (pd_tup (pda_cons (pv 3) (pda_cons (pv 5) (pda_nil)))) (pda_nil)) (amc (am0))) (pda_cons (pd_call ((ok_dead Φ).mono (by decide)) hr rfl passL (pda_cons (pv 3) (pda_cons (pd_int) (pda_nil))) (amc (amc (am0)))) (pda_nil))))) (pd_lst (pda_cons (pd_lst (pda_nil)) (pda_cons (pd_lst (pda_cons (pd_str) (pda_nil))) (pda_cons (pd_lst (pda_cons (pd_tup (pda_cons (pd_int) (pda_cons (pd_int) (pda_nil)))) (pda_cons (pd_tup (pda_cons (pd_int) (pda_cons (pd_int) (pda_nil)))) (pda_nil)))) (pda_nil)))))) (pdb_one (pds_ret (pd_bl))) (pdb_nil)) (pdb_cons (pds_if (t_ne hr (pd_call ((ok_first_history Φ).mono (by decide)) hr rfl passL (pda_cons (pd_tup (pda_cons (pv 2) (pda_cons (pv 5) (pda_nil)))) (pda_cons (pd_str) (pda_nil))) (amc (amc (am0)))) (pd_tup (pda_cons (pd_tup (pda_cons (pd_str) (pda_cons (pd_int) (pda_nil)))) (pda_cons (pd_tup (pda_cons (pd_str) (pda_nil))) (pda_cons (pd_tup (pda_cons (pd_str) (pda_cons (pd_int) (pda_cons (p_neg (pd_int)) (pda_nil))))) (pda_nil)))))) (pdb_one (pds_ret (pd_bl))) (pdb_nil)) (pdb_cons (pds_if (pdt_w (pdw_or (t_ne hr (pd_call ((ok_first_history Φ).mono (by decide)) hr rfl passL (pda_cons (pd_tup (pda_cons (pv 3) (pda_cons (pv 5) (pda_nil)))) (pda_cons (pd_str) (pda_nil))) (amc (amc (am0)))) (pd_tup (pda_cons (pd_tup (pda_cons (pd_str) (pda_cons (pd_int) (pda_cons (pd_int) (pda_nil))))) (pda_nil)))) (pdw_or1 (t_ne hr (pd_call ((ok_count_stands Φ).mono (by decide)) hr rfl passL (pda_cons (pd_tup (pda_cons (pv 1) (pda_cons (pv 4) (pda_nil)))) (pda_nil)) (amc (am0))) (pd_int))))) (pdb_one (pds_ret (pd_bl))) (pdb_nil)) (pdb_cons (pds_if (t_ne hr (pd_lst (pda_cons (pd_call ((ok_sure_steps Φ).mono (by decide)) hr rfl passL (pda_cons (pv 1) (pda_cons (pd_str) (pda_nil))) (amc (amc (am0)))) (pda_cons (pd_call ((ok_sure_steps Φ).mono (by decide)) hr rfl passL (pda_cons (pv 1) (pda_cons (pd_str) (pda_nil))) (amc (amc (am0)))) (pda_nil)))) (pd_lst (pda_cons (pd_lst (pda_cons (pd_tup (pda_cons (pd_tup (pda_cons (pd_int) (pda_cons (pd_int) (pda_nil)))) (pda_cons (pd_tup (pda_cons (pd_int) (pda_cons (pd_int) (pda_nil)))) (pda_nil)))) (pda_nil))) (pda_cons (pd_lst (pda_cons (pd_tup (pda_cons (pd_tup (pda_cons (pd_int) (pda_cons (pd_int) (pda_nil)))) (pda_nil))) (pda_cons (pd_tup (pda_cons (pd_tup (pda_cons (pd_int) (pda_cons (pd_int) (pda_nil)))) (pda_nil))) (pda_nil)))) (pda_nil))))) (pdb_one (pds_ret (pd_bl))) (pdb_nil)) (pdb_cons (pds_if (t_ne hr (pd_lst (pda_cons (pd_call ((ok_sure_steps Φ).mono (by decide)) hr rfl passL (pda_cons (pv 1) (pda_cons (pd_str) (pda_nil))) (amc (amc (am0)))) (pda_cons (pd_call ((ok_sure_steps Φ).mono (by decide)) hr rfl passL (pda_cons (pd_call ((ok_exchanged Φ).mono (by decide)) hr rfl passL (pda_cons (pv 1) (pda_nil)) (amc (am0))) (pda_cons (pd_str) (pda_nil))) (amc (amc (am0)))) (pda_cons (pd_call ((ok_idle_bars Φ).mono (by decide)) hr rfl passL (pda_cons (pv 1) (pda_nil)) (amc (am0))) (pda_nil))))) (pd_lst (pda_cons (pd_lst (pda_cons (pd_tup (pda_nil)) (pda_nil))) (pda_cons (pd_lst (pda_nil)) (pda_cons (pd_lst (pda_nil)) (pda_nil)))))) (pdb_one (pds_ret (pd_bl))) (pdb_nil)) (pdb_one (pds_ret (pd_and (v_eq hr (p_len Φ.bi (pd_call ((ok_bar_changes Φ).mono (by decide)) hr rfl passL (pda_cons (pv 1) (pda_nil)) (amc (am0)))) (pd_int)) (pd_one (v_eq hr (pd_call ((ok_parting Φ).mono (by decide)) hr rfl passL (pda_cons (pv 1) (pda_cons (pd_tup (pda_cons (p_ix (pv 1) (pd_int)) (pda_cons (pd_tup (pda_nil)) (pda_nil)))) (pda_nil))) (amc (amc (am0)))) (pd_tup (pda_cons (pd_tup (pda_cons (pd_str) (pda_cons (pd_int) (pda_cons (pd_int) (pda_cons (pd_int) (pda_nil)))))) (pda_nil)))))))))))))))))
end
def dd_is_within : He.DefD := ⟨("is_within", none), "is_within", "is_within", defArgs (top 16), defBody (top 16), defScope (top 16), [], []⟩
def dd_is_word : He.DefD := ⟨("is_word", none), "is_word", "is_word", defArgs (top 17), defBody (top 17), defScope (top 17), [], []⟩
def dd_is_layer : He.DefD := ⟨("is_layer", none), "is_layer", "is_layer", defArgs (top 18), defBody (top 18), defScope (top 18), [], []⟩
def dd_is_bar : He.DefD := ⟨("is_bar", none), "is_bar", "is_bar", defArgs (top 19), defBody (top 19), defScope (top 19), [], []⟩
def dd_is_window_value : He.DefD := ⟨("is_window_value", none), "is_window_value", "is_window_value", defArgs (top 20), defBody (top 20), defScope (top 20), [], []⟩
def dd_is_step : He.DefD := ⟨("is_step", none), "is_step", "is_step", defArgs (top 21), defBody (top 21), defScope (top 21), [], []⟩
def dd_is_habit : He.DefD := ⟨("is_habit", none), "is_habit", "is_habit", defArgs (top 22), defBody (top 22), defScope (top 22), [], []⟩
def dd_is_house_value : He.DefD := ⟨("is_house_value", none), "is_house_value", "is_house_value", defArgs (top 23), defBody (top 23), defScope (top 23), [], []⟩
def dd_is_settings_value : He.DefD := ⟨("is_settings_value", none), "is_settings_value", "is_settings_value", defArgs (top 24), defBody (top 24), defScope (top 24), [], []⟩
def dd_need_window : He.DefD := ⟨("need_window", none), "need_window", "need_window", defArgs (top 25), defBody (top 25), defScope (top 25), [], []⟩
def dd_need_house : He.DefD := ⟨("need_house", none), "need_house", "need_house", defArgs (top 26), defBody (top 26), defScope (top 26), [], []⟩
def dd_need_settings : He.DefD := ⟨("need_settings", none), "need_settings", "need_settings", defArgs (top 27), defBody (top 27), defScope (top 27), [], []⟩
def dd_need_place : He.DefD := ⟨("need_place", none), "need_place", "need_place", defArgs (top 28), defBody (top 28), defScope (top 28), [], []⟩
def dd_all_settings : He.DefD := ⟨("all_settings", none), "all_settings", "all_settings", defArgs (top 29), defBody (top 29), defScope (top 29), [], []⟩
def dd_shut_of : He.DefD := ⟨("shut_of", none), "shut_of", "shut_of", defArgs (top 30), defBody (top 30), defScope (top 30), [], []⟩
def dd_open_of : He.DefD := ⟨("open_of", none), "open_of", "open_of", defArgs (top 31), defBody (top 31), defScope (top 31), [], []⟩
def dd_kept_by : He.DefD := ⟨("kept_by", none), "kept_by", "kept_by", defArgs (top 32), defBody (top 32), defScope (top 32), [], []⟩
def dd_exchanged_so : He.DefD := ⟨("exchanged_so", none), "exchanged_so", "exchanged_so", defArgs (top 33), defBody (top 33), defScope (top 33), [], []⟩
def dd_kept : He.DefD := ⟨("kept", none), "kept", "kept", defArgs (top 34), defBody (top 34), defScope (top 34), [], []⟩
def dd_exchanged : He.DefD := ⟨("exchanged", none), "exchanged", "exchanged", defArgs (top 35), defBody (top 35), defScope (top 35), [], []⟩
def dd_is_free : He.DefD := ⟨("is_free", none), "is_free", "is_free", defArgs (top 38), defBody (top 38), defScope (top 38), [], []⟩
def dd_with_step : He.DefD := ⟨("with_step", none), "with_step", "with_step", defArgs (top 39), defBody (top 39), defScope (top 39), [], []⟩
def dd_can_step : He.DefD := ⟨("can_step", none), "can_step", "can_step", defArgs (top 40), defBody (top 40), defScope (top 40), [], []⟩
def dd_has_hand : He.DefD := ⟨("has_hand", none), "has_hand", "has_hand", defArgs (top 41), defBody (top 41), defScope (top 41), [], []⟩
def dd_hand_moves : He.DefD := ⟨("hand_moves", none), "hand_moves", "hand_moves", defArgs (top 42), defBody (top 42), defScope (top 42), [], []⟩
def dd_wind_moves : He.DefD := ⟨("wind_moves", none), "wind_moves", "wind_moves", defArgs (top 43), defBody (top 43), defScope (top 43), [], []⟩
def dd_ways_from : He.DefD := ⟨("ways_from", none), "ways_from", "ways_from", defArgs (top 44), defBody (top 44), defScope (top 44), [], []⟩
def dd_need_all : He.DefD := ⟨("need_all", none), "need_all", "need_all", defArgs (top 45), defBody (top 45), defScope (top 45), [], []⟩
def dd_moves : He.DefD := ⟨("moves", none), "moves", "moves", defArgs (top 46), defBody (top 46), defScope (top 46), [], []⟩
def dd_winds : He.DefD := ⟨("winds", none), "winds", "winds", defArgs (top 47), defBody (top 47), defScope (top 47), [], []⟩
def dd_fewest : He.DefD := ⟨("fewest", none), "fewest", "fewest", defArgs (top 48), defBody (top 48), defScope (top 48), [], []⟩
def dd_dead : He.DefD := ⟨("dead", none), "dead", "dead", defArgs (top 49), defBody (top 49), defScope (top 49), [], []⟩
def dd_farthest : He.DefD := ⟨("farthest", none), "farthest", "farthest", defArgs (top 50), defBody (top 50), defScope (top 50), [], []⟩
def dd_begin : He.DefD := ⟨("begin", none), "begin", "begin", defArgs (top 52), defBody (top 52), defScope (top 52), [], []⟩
def dd_towards : He.DefD := ⟨("towards", none), "towards", "towards", defArgs (top 53), defBody (top 53), defScope (top 53), [], []⟩
def dd_habit_done : He.DefD := ⟨("habit_done", none), "habit_done", "habit_done", defArgs (top 54), defBody (top 54), defScope (top 54), [], []⟩
def dd_broken : He.DefD := ⟨("broken", none), "broken", "broken", defArgs (top 55), defBody (top 55), defScope (top 55), [], []⟩
def dd_habit_rows : He.DefD := ⟨("habit_rows", none), "habit_rows", "habit_rows", defArgs (top 56), defBody (top 56), defScope (top 56), [], []⟩
def dd_event_rows : He.DefD := ⟨("event_rows", none), "event_rows", "event_rows", defArgs (top 57), defBody (top 57), defScope (top 57), [], []⟩
def dd_graph_of : He.DefD := ⟨("graph_of", none), "graph_of", "graph_of", defArgs (top 60), defBody (top 60), defScope (top 60), [], []⟩
def dd_histories : He.DefD := ⟨("histories", none), "histories", "histories", defArgs (top 61), defBody (top 61), defScope (top 61), [], []⟩
def dd_stand_harms : He.DefD := ⟨("stand_harms", none), "stand_harms", "stand_harms", defArgs (top 62), defBody (top 62), defScope (top 62), [], []⟩
def dd_first_harms : He.DefD := ⟨("first_harms", none), "first_harms", "first_harms", defArgs (top 63), defBody (top 63), defScope (top 63), [], []⟩
def dd_need_harm : He.DefD := ⟨("need_harm", none), "need_harm", "need_harm", defArgs (top 64), defBody (top 64), defScope (top 64), [], []⟩
def dd_harms : He.DefD := ⟨("harms", none), "harms", "harms", defArgs (top 65), defBody (top 65), defScope (top 65), [], []⟩
def dd_calm_harms : He.DefD := ⟨("calm_harms", none), "calm_harms", "calm_harms", defArgs (top 66), defBody (top 66), defScope (top 66), [], []⟩
def dd_first_history : He.DefD := ⟨("first_history", none), "first_history", "first_history", defArgs (top 67), defBody (top 67), defScope (top 67), [], []⟩
def dd_count_stands : He.DefD := ⟨("count_stands", none), "count_stands", "count_stands", defArgs (top 68), defBody (top 68), defScope (top 68), [], []⟩
def dd_all_bars : He.DefD := ⟨("all_bars", none), "all_bars", "all_bars", defArgs (top 70), defBody (top 70), defScope (top 70), [], []⟩
def dd_bars_changed : He.DefD := ⟨("bars_changed", none), "bars_changed", "bars_changed", defArgs (top 71), defBody (top 71), defScope (top 71), [], []⟩
def dd_steps_of : He.DefD := ⟨("steps_of", none), "steps_of", "steps_of", defArgs (top 72), defBody (top 72), defScope (top 72), [], []⟩
def dd_is_sure : He.DefD := ⟨("is_sure", none), "is_sure", "is_sure", defArgs (top 73), defBody (top 73), defScope (top 73), [], []⟩
def dd_bar_changes : He.DefD := ⟨("bar_changes", none), "bar_changes", "bar_changes", defArgs (top 74), defBody (top 74), defScope (top 74), [], []⟩
def dd_sure_steps : He.DefD := ⟨("sure_steps", none), "sure_steps", "sure_steps", defArgs (top 75), defBody (top 75), defScope (top 75), [], []⟩
def dd_deeds_of : He.DefD := ⟨("deeds_of", none), "deeds_of", "deeds_of", defArgs (top 77), defBody (top 77), defScope (top 77), [], []⟩
def dd_parted : He.DefD := ⟨("parted", none), "parted", "parted", defArgs (top 78), defBody (top 78), defScope (top 78), [], []⟩
def dd_need_two : He.DefD := ⟨("need_two", none), "need_two", "need_two", defArgs (top 79), defBody (top 79), defScope (top 79), [], []⟩
def dd_parting : He.DefD := ⟨("parting", none), "parting", "parting", defArgs (top 80), defBody (top 80), defScope (top 80), [], []⟩
def dd_idle_bars : He.DefD := ⟨("idle_bars", none), "idle_bars", "idle_bars", defArgs (top 81), defBody (top 81), defScope (top 81), [], []⟩
def dd__law_deck : He.DefD := ⟨("_law_deck", none), "_law_deck", "_law_deck", defArgs (top 83), defBody (top 83), defScope (top 83), [], []⟩
def dd__law_pick : He.DefD := ⟨("_law_pick", none), "_law_pick", "_law_pick", defArgs (top 84), defBody (top 84), defScope (top 84), [], []⟩
def dd__law_known : He.DefD := ⟨("_law_known", none), "_law_known", "_law_known", defArgs (top 85), defBody (top 85), defScope (top 85), [], []⟩
def dd__law_tall_right : He.DefD := ⟨("_law_tall_right", none), "_law_tall_right", "_law_tall_right", defArgs (top 86), defBody (top 86), defScope (top 86), [], []⟩
def dd_law : He.DefD := ⟨("law", none), "law", "law", defArgs (top 87), defBody (top 87), defScope (top 87), [], []⟩
def hfn0 : List He.DefD := [dd_is_within, dd_is_word, dd_is_layer, dd_is_bar, dd_is_window_value, dd_is_step, dd_is_habit, dd_is_house_value, dd_is_settings_value, dd_need_window, dd_need_house, dd_need_settings]
def hfn1 : List He.DefD := [dd_need_place, dd_all_settings, dd_shut_of, dd_open_of, dd_kept_by, dd_exchanged_so, dd_kept, dd_exchanged, dd_is_free, dd_with_step, dd_can_step, dd_has_hand]
def hfn2 : List He.DefD := [dd_hand_moves, dd_wind_moves, dd_ways_from, dd_need_all, dd_moves, dd_winds, dd_fewest, dd_dead, dd_farthest, dd_begin, dd_towards, dd_habit_done]
def hfn3 : List He.DefD := [dd_broken, dd_habit_rows, dd_event_rows, dd_graph_of, dd_histories, dd_stand_harms, dd_first_harms, dd_need_harm, dd_harms, dd_calm_harms, dd_first_history, dd_count_stands]
def hfn4 : List He.DefD := [dd_all_bars, dd_bars_changed, dd_steps_of, dd_is_sure, dd_bar_changes, dd_sure_steps, dd_deeds_of, dd_parted, dd_need_two, dd_parting, dd_idle_bars, dd__law_deck]
def hfn5 : List He.DefD := [dd__law_pick, dd__law_known, dd__law_tall_right, dd_law]
def hfn : List He.DefD := hfn0 ++ hfn1 ++ hfn2 ++ hfn3 ++ hfn4 ++ hfn5
def hfa0 : List He.Fa := [.glo "is_within", .glo "is_word", .glo "is_layer", .glo "is_bar", .glo "is_window_value", .glo "is_step", .glo "is_habit", .glo "is_house_value", .glo "is_settings_value", .glo "need_window", .glo "need_house", .glo "need_settings"]
def hfa1 : List He.Fa := [.glo "need_place", .glo "all_settings", .glo "shut_of", .glo "open_of", .glo "kept_by", .glo "exchanged_so", .glo "kept", .glo "exchanged", .glo "is_free", .glo "with_step", .glo "can_step", .glo "has_hand"]
def hfa2 : List He.Fa := [.glo "hand_moves", .glo "wind_moves", .glo "ways_from", .glo "need_all", .glo "moves", .glo "winds", .glo "fewest", .glo "dead", .glo "farthest", .glo "begin", .glo "towards", .glo "habit_done"]
def hfa3 : List He.Fa := [.glo "broken", .glo "habit_rows", .glo "event_rows", .glo "graph_of", .glo "histories", .glo "stand_harms", .glo "first_harms", .glo "need_harm", .glo "harms", .glo "calm_harms", .glo "first_history", .glo "count_stands"]
def hfa4 : List He.Fa := [.glo "all_bars", .glo "bars_changed", .glo "steps_of", .glo "is_sure", .glo "bar_changes", .glo "sure_steps", .glo "deeds_of", .glo "parted", .glo "need_two", .glo "parting", .glo "idle_bars", .glo "_law_deck"]
def hfa5 : List He.Fa := [.glo "_law_pick", .glo "_law_known", .glo "_law_tall_right", .glo "law", .glo "HANDS", .glo "WINDS", .glo "WISHES", .glo "PLACES", .glo "HARMS", .free "all", .free "any", .free "enumerate"]
def hfa6 : List He.Fa := [.free "int", .free "isinstance", .free "len", .free "list", .free "max", .free "range", .free "set", .free "sorted", .free "str", .free "tuple", .free "zip", .free "bool"]
def hfa7 : List He.Fa := [.int "MOST_BARS" 6, .int "MOST_STEPS" 5, .int "MOST_HABITS" 3]
def hfa : List He.Fa := hfa0 ++ hfa1 ++ hfa2 ++ hfa3 ++ hfa4 ++ hfa5 ++ hfa6 ++ hfa7
def hts : List He.Tab := []
def hex (K : PySem.W.Frag) : Bool := He.tupB K "HANDS" [.str "both", .str "within", .str "without"] && He.tupB K "WINDS" [.str "both", .str "opens", .str "shuts", .str "still"] && He.tupB K "WISHES" [.str "both", .str "dry", .str "flyless", .str "none"] && He.tupB K "PLACES" [.str "within", .str "without"] && He.tupB K "HARMS" [.str "bitten", .str "halted", .str "jammed", .str "out", .str "wet"]
def loose0 : List PySem.Str := ["WindowError", "InvalidWindow", "InvalidHouse", "InvalidSettings", "InvalidPlace", "InvalidHarm", "InvalidWish", "Unlike", "HANDS", "WINDS", "WISHES", "MOST_BARS", "MOST_STEPS", "MOST_HABITS", "is_within", "is_word", "is_layer", "is_bar", "is_window_value", "is_step", "is_habit", "is_house_value", "is_settings_value", "need_window", "need_house", "need_settings", "need_place", "all_settings", "shut_of", "open_of"]
def loose1 : List PySem.Str := ["kept_by", "exchanged_so", "kept", "exchanged", "PLACES", "is_free", "with_step", "can_step", "has_hand", "hand_moves", "wind_moves", "ways_from", "need_all", "moves", "winds", "fewest", "dead", "farthest", "begin", "towards", "habit_done", "broken", "habit_rows", "event_rows", "HARMS", "graph_of", "histories", "stand_harms", "first_harms", "need_harm"]
def loose2 : List PySem.Str := ["harms", "calm_harms", "first_history", "count_stands", "all_bars", "bars_changed", "steps_of", "is_sure", "bar_changes", "sure_steps", "deeds_of", "parted", "need_two", "parting", "idle_bars", "_law_deck", "_law_pick", "_law_known", "_law_tall_right"]
def loose : List PySem.Str := loose0 ++ loose1 ++ loose2
abbrev R : PySem.W.OpenRow := PySem.W.OpenLaw.row PySem.Challenge.rw_sashscreens_k25_whole_windows_by_words
abbrev hk : PySem.W.Hook := He.hookX 4 hfa hfn hts [] hex
def ob (s : PySem.W.SharedT) : He.AlX := He.obsX 4 hfa hfn hts [] hex (HandSHeadRun.getT s)
theorem ob_eq (s : PySem.W.SharedT) : ob s = hk.obs s.abs := He.obsX_eq (HandSHeadRun.getT_eq s)
theorem run (w : World) : HandSHeadRun.RunEq R (PySem.W.view R.prog [87]) hk ob 20000 loose w := by
  intro os
  kernel_rfl
theorem fact {K : PySem.W.Frag} (c : He.SaysD hfa hfn K) {f : He.Fa} (h : f ∈ hfa) : f.ok K = true := c.facts h
set_option maxHeartbeats 0 in
theorem facts [TheW] {Pr : Program} {w : World} {K : PySem.W.Frag} {h : Heap} {mg : Str → Option Value} {base : Heap} (X : K.In h) (G : h.Ns mainGlobals mg) (c : He.SaysD hfa hfn K) (ct : He.SaysT hfa hfn hts w K) (m : hex K = true) (hP : Pr = TheW.P) (hw : w = TheW.w) : Facts Pr w K mg base := by
  unfold hex at m
  simp only [Bool.and_eq_true] at m
  obtain ⟨⟨⟨⟨m0, m1⟩, m2⟩, m3⟩, m4⟩ := m
  obtain ⟨f0, F0⟩ := c.def_ 0 (d := dd_is_within) rfl
  obtain ⟨f1, F1⟩ := c.def_ 1 (d := dd_is_word) rfl
  obtain ⟨f2, F2⟩ := c.def_ 2 (d := dd_is_layer) rfl
  obtain ⟨f3, F3⟩ := c.def_ 3 (d := dd_is_bar) rfl
  obtain ⟨f4, F4⟩ := c.def_ 4 (d := dd_is_window_value) rfl
  obtain ⟨f5, F5⟩ := c.def_ 5 (d := dd_is_step) rfl
  obtain ⟨f6, F6⟩ := c.def_ 6 (d := dd_is_habit) rfl
  obtain ⟨f7, F7⟩ := c.def_ 7 (d := dd_is_house_value) rfl
  obtain ⟨f8, F8⟩ := c.def_ 8 (d := dd_is_settings_value) rfl
  obtain ⟨f9, F9⟩ := c.def_ 9 (d := dd_need_window) rfl
  obtain ⟨f10, F10⟩ := c.def_ 10 (d := dd_need_house) rfl
  obtain ⟨f11, F11⟩ := c.def_ 11 (d := dd_need_settings) rfl
  obtain ⟨f12, F12⟩ := c.def_ 12 (d := dd_need_place) rfl
  obtain ⟨f13, F13⟩ := c.def_ 13 (d := dd_all_settings) rfl
  obtain ⟨f14, F14⟩ := c.def_ 14 (d := dd_shut_of) rfl
  obtain ⟨f15, F15⟩ := c.def_ 15 (d := dd_open_of) rfl
  obtain ⟨f16, F16⟩ := c.def_ 16 (d := dd_kept_by) rfl
  obtain ⟨f17, F17⟩ := c.def_ 17 (d := dd_exchanged_so) rfl
  obtain ⟨f18, F18⟩ := c.def_ 18 (d := dd_kept) rfl
  obtain ⟨f19, F19⟩ := c.def_ 19 (d := dd_exchanged) rfl
  obtain ⟨f20, F20⟩ := c.def_ 20 (d := dd_is_free) rfl
  obtain ⟨f21, F21⟩ := c.def_ 21 (d := dd_with_step) rfl
  obtain ⟨f22, F22⟩ := c.def_ 22 (d := dd_can_step) rfl
  obtain ⟨f23, F23⟩ := c.def_ 23 (d := dd_has_hand) rfl
  obtain ⟨f24, F24⟩ := c.def_ 24 (d := dd_hand_moves) rfl
  obtain ⟨f25, F25⟩ := c.def_ 25 (d := dd_wind_moves) rfl
  obtain ⟨f26, F26⟩ := c.def_ 26 (d := dd_ways_from) rfl
  obtain ⟨f27, F27⟩ := c.def_ 27 (d := dd_need_all) rfl
  obtain ⟨f28, F28⟩ := c.def_ 28 (d := dd_moves) rfl
  obtain ⟨f29, F29⟩ := c.def_ 29 (d := dd_winds) rfl
  obtain ⟨f30, F30⟩ := c.def_ 30 (d := dd_fewest) rfl
  obtain ⟨f31, F31⟩ := c.def_ 31 (d := dd_dead) rfl
  obtain ⟨f32, F32⟩ := c.def_ 32 (d := dd_farthest) rfl
  obtain ⟨f33, F33⟩ := c.def_ 33 (d := dd_begin) rfl
  obtain ⟨f34, F34⟩ := c.def_ 34 (d := dd_towards) rfl
  obtain ⟨f35, F35⟩ := c.def_ 35 (d := dd_habit_done) rfl
  obtain ⟨f36, F36⟩ := c.def_ 36 (d := dd_broken) rfl
  obtain ⟨f37, F37⟩ := c.def_ 37 (d := dd_habit_rows) rfl
  obtain ⟨f38, F38⟩ := c.def_ 38 (d := dd_event_rows) rfl
  obtain ⟨f39, F39⟩ := c.def_ 39 (d := dd_graph_of) rfl
  obtain ⟨f40, F40⟩ := c.def_ 40 (d := dd_histories) rfl
  obtain ⟨f41, F41⟩ := c.def_ 41 (d := dd_stand_harms) rfl
  obtain ⟨f42, F42⟩ := c.def_ 42 (d := dd_first_harms) rfl
  obtain ⟨f43, F43⟩ := c.def_ 43 (d := dd_need_harm) rfl
  obtain ⟨f44, F44⟩ := c.def_ 44 (d := dd_harms) rfl
  obtain ⟨f45, F45⟩ := c.def_ 45 (d := dd_calm_harms) rfl
  obtain ⟨f46, F46⟩ := c.def_ 46 (d := dd_first_history) rfl
  obtain ⟨f47, F47⟩ := c.def_ 47 (d := dd_count_stands) rfl
  obtain ⟨f48, F48⟩ := c.def_ 48 (d := dd_all_bars) rfl
  obtain ⟨f49, F49⟩ := c.def_ 49 (d := dd_bars_changed) rfl
  obtain ⟨f50, F50⟩ := c.def_ 50 (d := dd_steps_of) rfl
  obtain ⟨f51, F51⟩ := c.def_ 51 (d := dd_is_sure) rfl
  obtain ⟨f52, F52⟩ := c.def_ 52 (d := dd_bar_changes) rfl
  obtain ⟨f53, F53⟩ := c.def_ 53 (d := dd_sure_steps) rfl
  obtain ⟨f54, F54⟩ := c.def_ 54 (d := dd_deeds_of) rfl
  obtain ⟨f55, F55⟩ := c.def_ 55 (d := dd_parted) rfl
  obtain ⟨f56, F56⟩ := c.def_ 56 (d := dd_need_two) rfl
  obtain ⟨f57, F57⟩ := c.def_ 57 (d := dd_parting) rfl
  obtain ⟨f58, F58⟩ := c.def_ 58 (d := dd_idle_bars) rfl
  obtain ⟨f59, F59⟩ := c.def_ 59 (d := dd__law_deck) rfl
  obtain ⟨f60, F60⟩ := c.def_ 60 (d := dd__law_pick) rfl
  obtain ⟨f61, F61⟩ := c.def_ 61 (d := dd__law_known) rfl
  obtain ⟨f62, F62⟩ := c.def_ 62 (d := dd__law_tall_right) rfl
  obtain ⟨f63, F63⟩ := c.def_ 63 (d := dd_law) rfl
  exact ⟨⟨He.free_ok X G (c.fact 69 (f := .free "all") rfl), He.free_ok X G (c.fact 70 (f := .free "any") rfl), He.free_ok X G (c.fact 71 (f := .free "enumerate") rfl), He.free_ok X G (c.fact 72 (f := .free "int") rfl), He.free_ok X G (c.fact 73 (f := .free "isinstance") rfl), He.free_ok X G (c.fact 74 (f := .free "len") rfl), He.free_ok X G (c.fact 75 (f := .free "list") rfl), He.free_ok X G (c.fact 76 (f := .free "max") rfl), He.free_ok X G (c.fact 77 (f := .free "range") rfl), He.free_ok X G (c.fact 78 (f := .free "set") rfl), He.free_ok X G (c.fact 79 (f := .free "sorted") rfl), He.free_ok X G (c.fact 80 (f := .free "str") rfl), He.free_ok X G (c.fact 81 (f := .free "tuple") rfl), He.free_ok X G (c.fact 82 (f := .free "zip") rfl), He.free_ok X G (c.fact 83 (f := .free "bool") rfl)⟩,
    hP,
    hw,
    ⟨_, He.glo_ok X G (c.fact 64 (f := .glo "HANDS") rfl), fun H => .tup (He.tupB_ok m0 H) (.cons (.str _) (.cons (.str _) (.cons (.str _) (.nil))))⟩,
    ⟨_, He.glo_ok X G (c.fact 65 (f := .glo "WINDS") rfl), fun H => .tup (He.tupB_ok m1 H) (.cons (.str _) (.cons (.str _) (.cons (.str _) (.cons (.str _) (.nil)))))⟩,
    ⟨_, He.glo_ok X G (c.fact 66 (f := .glo "WISHES") rfl), fun H => .tup (He.tupB_ok m2 H) (.cons (.str _) (.cons (.str _) (.cons (.str _) (.cons (.str _) (.nil)))))⟩,
    He.int_ok X G (c.fact 84 (f := .int "MOST_BARS" 6) rfl),
    He.int_ok X G (c.fact 85 (f := .int "MOST_STEPS" 5) rfl),
    He.int_ok X G (c.fact 86 (f := .int "MOST_HABITS" 3) rfl),
    ⟨_, He.glo_ok X G (c.fact 67 (f := .glo "PLACES") rfl), fun H => .tup (He.tupB_ok m3 H) (.cons (.str _) (.cons (.str _) (.nil)))⟩,
    ⟨_, He.glo_ok X G (c.fact 68 (f := .glo "HARMS") rfl), fun H => .tup (He.tupB_ok m4 H) (.cons (.str _) (.cons (.str _) (.cons (.str _) (.cons (.str _) (.cons (.str _) (.nil))))))⟩,
    ⟨_, f0, He.glo_ok X G (c.fact 0 (f := .glo "is_within") rfl), F0⟩,
    ⟨_, f1, He.glo_ok X G (c.fact 1 (f := .glo "is_word") rfl), F1⟩,
    ⟨_, f2, He.glo_ok X G (c.fact 2 (f := .glo "is_layer") rfl), F2⟩,
    ⟨_, f3, He.glo_ok X G (c.fact 3 (f := .glo "is_bar") rfl), F3⟩,
    ⟨_, f4, He.glo_ok X G (c.fact 4 (f := .glo "is_window_value") rfl), F4⟩,
    ⟨_, f5, He.glo_ok X G (c.fact 5 (f := .glo "is_step") rfl), F5⟩,
    ⟨_, f6, He.glo_ok X G (c.fact 6 (f := .glo "is_habit") rfl), F6⟩,
    ⟨_, f7, He.glo_ok X G (c.fact 7 (f := .glo "is_house_value") rfl), F7⟩,
    ⟨_, f8, He.glo_ok X G (c.fact 8 (f := .glo "is_settings_value") rfl), F8⟩,
    ⟨_, f9, He.glo_ok X G (c.fact 9 (f := .glo "need_window") rfl), F9⟩,
    ⟨_, f10, He.glo_ok X G (c.fact 10 (f := .glo "need_house") rfl), F10⟩,
    ⟨_, f11, He.glo_ok X G (c.fact 11 (f := .glo "need_settings") rfl), F11⟩,
    ⟨_, f12, He.glo_ok X G (c.fact 12 (f := .glo "need_place") rfl), F12⟩,
    ⟨_, f13, He.glo_ok X G (c.fact 13 (f := .glo "all_settings") rfl), F13⟩,
    ⟨_, f14, He.glo_ok X G (c.fact 14 (f := .glo "shut_of") rfl), F14⟩,
    ⟨_, f15, He.glo_ok X G (c.fact 15 (f := .glo "open_of") rfl), F15⟩,
    ⟨_, f16, He.glo_ok X G (c.fact 16 (f := .glo "kept_by") rfl), F16⟩,
    ⟨_, f17, He.glo_ok X G (c.fact 17 (f := .glo "exchanged_so") rfl), F17⟩,
    ⟨_, f18, He.glo_ok X G (c.fact 18 (f := .glo "kept") rfl), F18⟩,
    ⟨_, f19, He.glo_ok X G (c.fact 19 (f := .glo "exchanged") rfl), F19⟩,
    ⟨_, f20, He.glo_ok X G (c.fact 20 (f := .glo "is_free") rfl), F20⟩,
    ⟨_, f21, He.glo_ok X G (c.fact 21 (f := .glo "with_step") rfl), F21⟩,
    ⟨_, f22, He.glo_ok X G (c.fact 22 (f := .glo "can_step") rfl), F22⟩,
    ⟨_, f23, He.glo_ok X G (c.fact 23 (f := .glo "has_hand") rfl), F23⟩,
    ⟨_, f24, He.glo_ok X G (c.fact 24 (f := .glo "hand_moves") rfl), F24⟩,
    ⟨_, f25, He.glo_ok X G (c.fact 25 (f := .glo "wind_moves") rfl), F25⟩,
    ⟨_, f26, He.glo_ok X G (c.fact 26 (f := .glo "ways_from") rfl), F26⟩,
    ⟨_, f27, He.glo_ok X G (c.fact 27 (f := .glo "need_all") rfl), F27⟩,
    ⟨_, f28, He.glo_ok X G (c.fact 28 (f := .glo "moves") rfl), F28⟩,
    ⟨_, f29, He.glo_ok X G (c.fact 29 (f := .glo "winds") rfl), F29⟩,
    ⟨_, f30, He.glo_ok X G (c.fact 30 (f := .glo "fewest") rfl), F30⟩,
    ⟨_, f31, He.glo_ok X G (c.fact 31 (f := .glo "dead") rfl), F31⟩,
    ⟨_, f32, He.glo_ok X G (c.fact 32 (f := .glo "farthest") rfl), F32⟩,
    ⟨_, f33, He.glo_ok X G (c.fact 33 (f := .glo "begin") rfl), F33⟩,
    ⟨_, f34, He.glo_ok X G (c.fact 34 (f := .glo "towards") rfl), F34⟩,
    ⟨_, f35, He.glo_ok X G (c.fact 35 (f := .glo "habit_done") rfl), F35⟩,
    ⟨_, f36, He.glo_ok X G (c.fact 36 (f := .glo "broken") rfl), F36⟩,
    ⟨_, f37, He.glo_ok X G (c.fact 37 (f := .glo "habit_rows") rfl), F37⟩,
    ⟨_, f38, He.glo_ok X G (c.fact 38 (f := .glo "event_rows") rfl), F38⟩,
    ⟨_, f39, He.glo_ok X G (c.fact 39 (f := .glo "graph_of") rfl), F39⟩,
    ⟨_, f40, He.glo_ok X G (c.fact 40 (f := .glo "histories") rfl), F40⟩,
    ⟨_, f41, He.glo_ok X G (c.fact 41 (f := .glo "stand_harms") rfl), F41⟩,
    ⟨_, f42, He.glo_ok X G (c.fact 42 (f := .glo "first_harms") rfl), F42⟩,
    ⟨_, f43, He.glo_ok X G (c.fact 43 (f := .glo "need_harm") rfl), F43⟩,
    ⟨_, f44, He.glo_ok X G (c.fact 44 (f := .glo "harms") rfl), F44⟩,
    ⟨_, f45, He.glo_ok X G (c.fact 45 (f := .glo "calm_harms") rfl), F45⟩,
    ⟨_, f46, He.glo_ok X G (c.fact 46 (f := .glo "first_history") rfl), F46⟩,
    ⟨_, f47, He.glo_ok X G (c.fact 47 (f := .glo "count_stands") rfl), F47⟩,
    ⟨_, f48, He.glo_ok X G (c.fact 48 (f := .glo "all_bars") rfl), F48⟩,
    ⟨_, f49, He.glo_ok X G (c.fact 49 (f := .glo "bars_changed") rfl), F49⟩,
    ⟨_, f50, He.glo_ok X G (c.fact 50 (f := .glo "steps_of") rfl), F50⟩,
    ⟨_, f51, He.glo_ok X G (c.fact 51 (f := .glo "is_sure") rfl), F51⟩,
    ⟨_, f52, He.glo_ok X G (c.fact 52 (f := .glo "bar_changes") rfl), F52⟩,
    ⟨_, f53, He.glo_ok X G (c.fact 53 (f := .glo "sure_steps") rfl), F53⟩,
    ⟨_, f54, He.glo_ok X G (c.fact 54 (f := .glo "deeds_of") rfl), F54⟩,
    ⟨_, f55, He.glo_ok X G (c.fact 55 (f := .glo "parted") rfl), F55⟩,
    ⟨_, f56, He.glo_ok X G (c.fact 56 (f := .glo "need_two") rfl), F56⟩,
    ⟨_, f57, He.glo_ok X G (c.fact 57 (f := .glo "parting") rfl), F57⟩,
    ⟨_, f58, He.glo_ok X G (c.fact 58 (f := .glo "idle_bars") rfl), F58⟩,
    ⟨_, f59, He.glo_ok X G (c.fact 59 (f := .glo "_law_deck") rfl), F59⟩,
    ⟨_, f60, He.glo_ok X G (c.fact 60 (f := .glo "_law_pick") rfl), F60⟩,
    ⟨_, f61, He.glo_ok X G (c.fact 61 (f := .glo "_law_known") rfl), F61⟩,
    ⟨_, f62, He.glo_ok X G (c.fact 62 (f := .glo "_law_tall_right") rfl), F62⟩,
    ⟨_, f63, He.glo_ok X G (c.fact 63 (f := .glo "law") rfl), F63⟩⟩
set_option maxHeartbeats 0 in
theorem holds (hF : ∀ ns : List Int, ns.length ≤ 63 → ∃ ρ', m_law (startE ns) = some (.ok (.dat (.bool true)), ρ')) : PySem.Challenge.rw_sashscreens_k25_whole_windows_by_words.Holds := by
  w_on; o_law
  refine HandSHeadRun.head_any (r := PySem.W.OpenLaw.row PySem.Challenge.rw_sashscreens_k25_whole_windows_by_words) (q := PySem.W.view (PySem.W.OpenLaw.row PySem.Challenge.rw_sashscreens_k25_whole_windows_by_words).prog [87]) (H := hk) (ob := ob) (M := 20000) (loose := loose) (d := HandSHeadRun.topDef (PySem.W.OpenLaw.row PySem.Challenge.rw_sashscreens_k25_whole_windows_by_words).prog 87) (kwd := []) ob_eq
    (by kernel_rfl) (fun s => by kernel_rfl) run (by kernel_rfl) (by kernel_rfl) (by kernel_rfl) (by rfl) (by first | assumption | decide +kernel) (by decide +kernel) ⟨rfl, rfl, rfl, rfl, rfl, by decide +kernel⟩ ?hw ?hc
  case hw => w_witness2
  case hc =>
    refine L2.walk_ofE (l := PySem.Challenge.rw_sashscreens_k25_whole_windows_by_words) (n := 63) (k := 11) (x := "script") (CX := L2.CX0) rfl (by decide) (by kernel_rfl) ⟨rfl, by decide, by decide⟩ ?F (fun _ _ _ _ z => z)
    intro w mg fa h Y G hmg0
    obtain ⟨K, KX, c⟩ := Y
    have hmg : mg ("law" : PySem.Str) = some (.ref fa) := by
      have e : (HandSHeadRun.topDef (PySem.W.OpenLaw.row PySem.Challenge.rw_sashscreens_k25_whole_windows_by_words).prog 87).name = ("law" : PySem.Str) := by kernel_rfl
      rw [← e]
      exact hmg0
    letI : TheW := ⟨(PySem.Challenge.rw_sashscreens_k25_whole_windows_by_words).prog, w⟩
    have Φ : ∀ base, Facts (PySem.Challenge.rw_sashscreens_k25_whole_windows_by_words).prog w K mg base := fun base => facts KX G c.t.d c.t c.more rfl rfl
    obtain ⟨fd, F⟩ := c.t.d.def_ 63 (d := dd_law) rfl
    have e := hmg.symm.trans (He.glo_ok KX G (c.t.d.fact 63 (f := .glo "law") rfl))
    cases e
    have b := FunD.bindsA (ps := ["script"]) F fun _ _ _ _ _ _ us hl => match us, hl with | [_], _ => rfl
    exact ⟨K, fd, fun vs H Q E => spF K mg 1 m_law vs H Q E0, KX, fun s v => b s [v] rfl, fun H a ns hl _ hS => law_sp hF H a ns hl hS, fun base _ _ => fnok0 (ok_law (Φ base) hmg F)⟩
end K25

theorem PySem.Challenge.cw_sashscreens_k25_whole_windows_by_words_holds : PySem.Challenge.rw_sashscreens_k25_whole_windows_by_words.Holds :=
  K25.holds K25.law_true
