import PyProof.Rows.All
import Wide.All
import OpenK.AllK
import Wide.FinOn
import HandS.ForMost
import HandS.ForExc
import HandS.ExcInit
import HandS.Wide
import HandS.Gcd
import HandS.IsInst
import HandS.Conv
import HandS.Flow
import KE.KExcIs
import HandS.Iter
import KE.DataEq
import HandS.TupAny
import HandS.Text
import HandS.More
import PyProof.ReprRoads
import HandS.ClsMeth
import PySem.Challenge.RW_partedmeet_k01_small_forms_of_any_value
set_option Elab.async false
set_option linter.all false
set_option maxRecDepth 100000
set_option maxHeartbeats 4000000
/-! Mi: a mirror of Python values without addresses over the hand layer: plain values by value, changing objects by number. -/
namespace Mi
open PySem PySem.Spec PyProof.Rows L2

/-- a mirrored value: data by value (rol: a list that is only read); ref i: the i-th changing object; opq: what is known by its V alone; exc: an error held as a value -/
inductive PV where
  | non | bl (b : Bool) | int (i : Int) | str (x : Str)
  | tup (xs : List PV) | lst (xs : List PV) | dic (kvs : List (PV × PV))
  | rol (xs : List PV) | ref (i : Nat) | opq (v : V) | exc (C : Addr) (fs : List (Str × PV))
/-- a changing object -/
inductive MO where
  | lst (xs : List PV) | dic (kvs : List (PV × PV))
abbrev Sto := List MO
abbrev MEnv := List (Option PV)
/-- a raised error -/
structure PX where
  cls : Addr
  fs : List (Str × PV)
inductive Res (α : Type) where
  | ok (a : α) (st : Sto)
  | exc (x : PX) (st : Sto)
abbrev M (α : Type) := MEnv → Sto → Option (Res α)

def M.bind {α β : Type} (m : M α) (f : α → M β) : M β := fun env st => match m env st with
  | some (.ok a st1) => f a env st1
  | some (.exc x st1) => some (.exc x st1)
  | none => none
def M.pure {α : Type} (a : α) : M α := fun _ st => some (.ok a st)

/-- the addresses of the changing objects, in their order; addresses that the mirror does not see -/
structure Wd where
  ρ : List Addr
  hid : List Addr
def Fz (W : Wd) (H : Hp) : Hp := fun a => if a ∈ W.ρ ∨ a ∈ W.hid then none else H a
theorem Fz_some {W : Wd} {H : Hp} {a : Addr} {o : HO} : Fz W H a = some o ↔ (a ∉ W.ρ ∧ a ∉ W.hid ∧ H a = some o) := by
  unfold Fz
  by_cases h : a ∈ W.ρ ∨ a ∈ W.hid
  · rw [if_pos h]
    constructor
    · intro q; cases q
    · rintro ⟨h1, h2, _⟩
      rcases h with h | h
      · exact absurd h h1
      · exact absurd h h2
  · rw [if_neg h]
    exact ⟨fun q => ⟨fun z => h (.inl z), fun z => h (.inr z), q⟩, fun q => q.2.2⟩
theorem Fz_le {W : Wd} {H : Hp} {a : Addr} {o : HO} (h : Fz W H a = some o) : H a = some o := (Fz_some.mp h).2.2

/-- the built-in kinds that are asked for -/
def kinds : List String := ["int", "bool", "str", "tuple", "list", "dict"]
/-- what an error's class must tell -/
structure ExK (K : PySem.W.Frag) (C : Addr) : Prop where
  ox : OexC K C
  cl : (PySem.W.clsIn K C).isSome = true
  ga : PySem.W.findIn K (.ref C) "__getattribute__" = some (some (.builtin "BaseException.__getattribute__"))
  gt : ∃ g, PySem.W.findIn K (.ref C) "__getattr__" = some g
  cc : PySem.W.findIn K (.ref C) "__class__" = some (some (.builtin "object.__class__"))
  nn : PySem.W.specialIn K (.builtin "object.__class__") "__get__" = some (some (.builtin "getset_descriptor.__get__"))
  tk : PySem.W.takesIn K (.builtin "object.__class__") = some true
  ob : PySem.W.mroIn K C (.type "object") = some true
  no : ∀ T ∈ kinds, PySem.W.kitOne K (.ref C) (.type T) = some false
def keyOf : PV → Option Key
  | .int i => some (.inl i)
  | .str x => some (.inr x)
  | _ => none

mutual
/-- the value v, in the heap F of what does not change, is x -/
def Rep (K : PySem.W.Frag) (F : Hp) (ρ : List Addr) : PV → V → Prop
  | .non, v => v = .non
  | .bl b, v => v = .bl b
  | .int i, v => v = .int i
  | .str x, v => v = .str x ∧ x.length ≤ sizeLine
  | .tup xs, v => ∃ a vs, v = .ref a ∧ SqT K F a vs ∧ RepL K F ρ xs vs ∧ xs.length ≤ sizeLine
  | .rol xs, v => ∃ a vs, v = .ref a ∧ SqL K F a vs ∧ RepL K F ρ xs vs ∧ xs.length ≤ sizeLine
  | .lst xs, v => ∃ a vs, v = .ref a ∧ F a = some (.lst vs) ∧ RepL K F ρ xs vs ∧ xs.length ≤ sizeLine
  | .dic ps, v => ∃ a ks, v = .ref a ∧ Rd F a (.dK ks) ∧ RepD K F ρ ps ks ∧ ps.length ≤ sizeLine
  | .ref i, v => ∃ a, v = .ref a ∧ ρ[i]? = some a
  | .opq w, v => v = w
  | .exc C fs, v => ExK K C ∧ ∃ a, v = .ref a ∧ ((fs = [] ∧ F a = some (exo a C none)) ∨ ∃ d ks, F a = some (exo a C (some d)) ∧ F d = some (exd d ks) ∧ RepF K F ρ fs ks)
def RepL (K : PySem.W.Frag) (F : Hp) (ρ : List Addr) : List PV → List V → Prop
  | [], vs => vs = []
  | x :: xs, vs => ∃ v r, vs = v :: r ∧ Rep K F ρ x v ∧ RepL K F ρ xs r
def RepD (K : PySem.W.Frag) (F : Hp) (ρ : List Addr) : List (PV × PV) → List (Key × V) → Prop
  | [], ks => ks = []
  | (k, x) :: ps, ks => ∃ kk v r, ks = (kk, v) :: r ∧ keyOf k = some kk ∧ Rep K F ρ x v ∧ RepD K F ρ ps r
def RepF (K : PySem.W.Frag) (F : Hp) (ρ : List Addr) : List (Str × PV) → List (Str × V) → Prop
  | [], ks => ks = []
  | (k, x) :: ps, ks => ∃ v r, ks = (k, v) :: r ∧ Rep K F ρ x v ∧ RepF K F ρ ps r
end

/-! ### worlds -/
structure Le (W : Wd) (H : Hp) (W' : Wd) (H' : Hp) : Prop where
  pre : W.ρ <+: W'.ρ
  hid : ∀ a ∈ W.hid, a ∈ W'.hid
  fz : ∀ a o, Fz W H a = some o → Fz W' H' a = some o
  keep : ∀ a ∈ W.hid, H' a = H a
theorem Le.refl (W : Wd) (H : Hp) : Le W H W H := ⟨List.prefix_refl _, fun _ h => h, fun _ _ h => h, fun _ _ => rfl⟩
theorem Le.trans {W W1 W2 : Wd} {H H1 H2 : Hp} (a : Le W H W1 H1) (b : Le W1 H1 W2 H2) : Le W H W2 H2 :=
  ⟨a.pre.trans b.pre, fun c hc => b.hid c (a.hid c hc), fun c o h => b.fz c o (a.fz c o h), fun c hc => (b.keep c (a.hid c hc)).trans (a.keep c hc)⟩
theorem Rd.mono {F F' : Hp} (h : ∀ a o, F a = some o → F' a = some o) {a : Addr} {u : HO} (r : Rd F a u) : Rd F' a u := by
  rcases r with r | ⟨o, r⟩
  · exact .inl (h _ _ r)
  · exact .inr ⟨o, h _ _ r⟩
theorem SqT.mono {K : PySem.W.Frag} {F F' : Hp} (h : ∀ a o, F a = some o → F' a = some o) {a : Addr} {xs : List V} (r : SqT K F a xs) : SqT K F' a xs := by
  rcases r with r | r
  · exact .inl (Rd.mono h r)
  · exact .inr r
theorem SqL.mono {K : PySem.W.Frag} {F F' : Hp} (h : ∀ a o, F a = some o → F' a = some o) {a : Addr} {xs : List V} (r : SqL K F a xs) : SqL K F' a xs := by
  rcases r with r | r
  · exact .inl (Rd.mono h r)
  · exact .inr r
theorem pre_get {l l' : List Addr} (p : l <+: l') {i : Nat} {a : Addr} (h : l[i]? = some a) : l'[i]? = some a := by
  obtain ⟨t, rfl⟩ := p
  obtain ⟨hi, e⟩ := List.getElem?_eq_some_iff.mp h
  rw [List.getElem?_append_left hi]; exact h
section
variable {K : PySem.W.Frag} {F F' : Hp} {ρ ρ' : List Addr}
mutual
theorem Rep.mono (hF : ∀ a o, F a = some o → F' a = some o) (hρ : ρ <+: ρ') : ∀ (x : PV) (v : V), Rep K F ρ x v → Rep K F' ρ' x v
  | .non, v, h => by simp only [Rep] at h ⊢; exact h
  | .bl b, v, h => by simp only [Rep] at h ⊢; exact h
  | .int i, v, h => by simp only [Rep] at h ⊢; exact h
  | .str x, v, h => by simp only [Rep] at h ⊢; exact h
  | .tup xs, v, h => by
    simp only [Rep] at h ⊢
    obtain ⟨a, vs, e, hs, hl, hz⟩ := h
    exact ⟨a, vs, e, SqT.mono hF hs, RepL.mono hF hρ xs vs hl, hz⟩
  | .rol xs, v, h => by
    simp only [Rep] at h ⊢
    obtain ⟨a, vs, e, hs, hl, hz⟩ := h
    exact ⟨a, vs, e, SqL.mono hF hs, RepL.mono hF hρ xs vs hl, hz⟩
  | .lst xs, v, h => by
    simp only [Rep] at h ⊢
    obtain ⟨a, vs, e, hs, hl, hz⟩ := h
    exact ⟨a, vs, e, hF _ _ hs, RepL.mono hF hρ xs vs hl, hz⟩
  | .dic ps, v, h => by
    simp only [Rep] at h ⊢
    obtain ⟨a, ks, e, hs, hl, hz⟩ := h
    exact ⟨a, ks, e, Rd.mono hF hs, RepD.mono hF hρ ps ks hl, hz⟩
  | .ref i, v, h => by
    simp only [Rep] at h ⊢
    obtain ⟨a, e, hs⟩ := h
    exact ⟨a, e, pre_get hρ hs⟩
  | .opq w, v, h => by simp only [Rep] at h ⊢; exact h
  | .exc C fs, v, h => by
    simp only [Rep] at h ⊢
    obtain ⟨hk, a, e, h⟩ := h
    refine ⟨hk, a, e, ?_⟩
    rcases h with ⟨h0, h1⟩ | ⟨d, ks, h1, h2, hl⟩
    · exact .inl ⟨h0, hF _ _ h1⟩
    · exact .inr ⟨d, ks, hF _ _ h1, hF _ _ h2, RepF.mono hF hρ fs ks hl⟩
theorem RepL.mono (hF : ∀ a o, F a = some o → F' a = some o) (hρ : ρ <+: ρ') : ∀ (xs : List PV) (vs : List V), RepL K F ρ xs vs → RepL K F' ρ' xs vs
  | [], vs, h => by simp only [RepL] at h ⊢; exact h
  | x :: xs, vs, h => by
    simp only [RepL] at h ⊢
    obtain ⟨v, r, e, h1, h2⟩ := h
    exact ⟨v, r, e, Rep.mono hF hρ x v h1, RepL.mono hF hρ xs r h2⟩
theorem RepD.mono (hF : ∀ a o, F a = some o → F' a = some o) (hρ : ρ <+: ρ') : ∀ (ps : List (PV × PV)) (ks : List (Key × V)), RepD K F ρ ps ks → RepD K F' ρ' ps ks
  | [], ks, h => by simp only [RepD] at h ⊢; exact h
  | (k, x) :: ps, ks, h => by
    simp only [RepD] at h ⊢
    obtain ⟨kk, v, r, e, e2, h1, h2⟩ := h
    exact ⟨kk, v, r, e, e2, Rep.mono hF hρ x v h1, RepD.mono hF hρ ps r h2⟩
theorem RepF.mono (hF : ∀ a o, F a = some o → F' a = some o) (hρ : ρ <+: ρ') : ∀ (ps : List (Str × PV)) (ks : List (Str × V)), RepF K F ρ ps ks → RepF K F' ρ' ps ks
  | [], ks, h => by simp only [RepF] at h ⊢; exact h
  | (k, x) :: ps, ks, h => by
    simp only [RepF] at h ⊢
    obtain ⟨v, r, e, h1, h2⟩ := h
    exact ⟨v, r, e, Rep.mono hF hρ x v h1, RepF.mono hF hρ ps r h2⟩
end
end
/-- in a world -/
abbrev Rp (K : PySem.W.Frag) (W : Wd) (H : Hp) (x : PV) (v : V) : Prop := Rep K (Fz W H) W.ρ x v
abbrev RpL (K : PySem.W.Frag) (W : Wd) (H : Hp) (xs : List PV) (vs : List V) : Prop := RepL K (Fz W H) W.ρ xs vs
theorem Rp.le {K : PySem.W.Frag} {W W' : Wd} {H H' : Hp} {x : PV} {v : V} (h : Rp K W H x v) (l : Le W H W' H') : Rp K W' H' x v := Rep.mono l.fz l.pre x v h
theorem RpL.le {K : PySem.W.Frag} {W W' : Wd} {H H' : Hp} {x : List PV} {v : List V} (h : RpL K W H x v) (l : Le W H W' H') : RpL K W' H' x v := RepL.mono l.fz l.pre x v h
theorem RepL.len {K : PySem.W.Frag} {F : Hp} {ρ : List Addr} : ∀ {xs : List PV} {vs : List V}, RepL K F ρ xs vs → vs.length = xs.length
  | [], vs, h => by simp only [RepL] at h; subst h; rfl
  | x :: xs, vs, h => by
    simp only [RepL] at h
    obtain ⟨v, r, e, _, h2⟩ := h
    subst e
    simp only [List.length_cons, RepL.len h2]
theorem RepL.get {K : PySem.W.Frag} {F : Hp} {ρ : List Addr} : ∀ {xs : List PV} {vs : List V} {i : Nat} {x : PV}, RepL K F ρ xs vs → xs[i]? = some x → ∃ v, vs[i]? = some v ∧ Rep K F ρ x v
  | [], vs, i, x, h, e => by simp at e
  | y :: xs, vs, 0, x, h, e => by
    simp only [RepL] at h
    obtain ⟨v, r, rfl, h1, h2⟩ := h
    simp at e; subst e
    exact ⟨v, rfl, h1⟩
  | y :: xs, vs, i + 1, x, h, e => by
    simp only [RepL] at h
    obtain ⟨v, r, rfl, h1, h2⟩ := h
    obtain ⟨u, h3, h4⟩ := RepL.get (i := i) h2 (by simpa using e)
    exact ⟨u, by simpa using h3, h4⟩
theorem RepL.append {K : PySem.W.Frag} {F : Hp} {ρ : List Addr} : ∀ {xs ys : List PV} {vs ws : List V}, RepL K F ρ xs vs → RepL K F ρ ys ws → RepL K F ρ (xs ++ ys) (vs ++ ws)
  | [], ys, vs, ws, h, h' => by simp only [RepL] at h; subst h; exact h'
  | x :: xs, ys, vs, ws, h, h' => by
    simp only [RepL] at h
    obtain ⟨v, r, rfl, h1, h2⟩ := h
    simp only [List.cons_append, RepL]
    exact ⟨v, r ++ ws, rfl, h1, RepL.append h2 h'⟩
theorem RepL.nil {K : PySem.W.Frag} {F : Hp} {ρ : List Addr} : RepL K F ρ [] [] := by simp only [RepL]
theorem RepL.cons {K : PySem.W.Frag} {F : Hp} {ρ : List Addr} {x : PV} {v : V} {xs : List PV} {vs : List V} (h : Rep K F ρ x v) (t : RepL K F ρ xs vs) : RepL K F ρ (x :: xs) (v :: vs) := by
  simp only [RepL]; exact ⟨v, vs, rfl, h, t⟩

/-- a changing object stands at a -/
def ObR (K : PySem.W.Frag) (W : Wd) (H : Hp) : MO → Addr → Prop
  | .lst xs, a => ∃ vs, H a = some (.lst vs) ∧ RpL K W H xs vs ∧ xs.length ≤ sizeLine
  | .dic ps, a => ∃ ks, H a = some (.dK ks) ∧ RepD K (Fz W H) W.ρ ps ks ∧ ps.length ≤ sizeLine
structure SimS (K : PySem.W.Frag) (W : Wd) (st : Sto) (H : Hp) : Prop where
  len : W.ρ.length = st.length
  nd : W.ρ.Nodup
  dj : ∀ a ∈ W.ρ, a ∉ W.hid
  hs : ∀ a ∈ W.hid, H a ≠ none
  ob : ∀ (i : Nat) (o : MO) (a : Addr), st[i]? = some o → W.ρ[i]? = some a → ObR K W H o a
structure SlotR (K : PySem.W.Frag) (W : Wd) (H : Hp) (env : MEnv) (σ : L2.St) : Prop where
  len : env.length = σ.length
  get : ∀ (i : Nat) (x : PV), env[i]? = some (some x) → ∃ v, σ[i]? = some (some v) ∧ Rp K W H x v
theorem SlotR.le {K : PySem.W.Frag} {W W' : Wd} {H H' : Hp} {env : MEnv} {σ : L2.St} (h : SlotR K W H env σ) (l : Le W H W' H') : SlotR K W' H' env σ :=
  ⟨h.len, fun i x e => let ⟨v, h1, h2⟩ := h.get i x e; ⟨v, h1, h2.le l⟩⟩
theorem SlotR.set {K : PySem.W.Frag} {W : Wd} {H : Hp} {env : MEnv} {σ : L2.St} {x : PV} {v : V} (h : SlotR K W H env σ) (i : Nat) (r : Rp K W H x v) : SlotR K W H (env.set i (some x)) (σ.set i (some v)) := by
  refine ⟨by simp [h.len], fun j y e => ?_⟩
  by_cases hj : i = j
  · subst hj
    rw [List.getElem?_set] at e
    simp only [if_true] at e
    split at e
    · rename_i hl
      simp at e; subst e
      exact ⟨v, by rw [List.getElem?_set_self (by rw [← h.len]; exact hl)], r⟩
    · simp at e
  · rw [List.getElem?_set_ne hj] at e
    obtain ⟨u, h1, h2⟩ := h.get j y e
    exact ⟨u, by rw [List.getElem?_set_ne hj]; exact h1, h2⟩

/-- what an error that leaves looks like -/
def RepX (K : PySem.W.Frag) (W : Wd) (H : Hp) (x : PX) (cls : Value) (d : Option Addr) : Prop :=
  cls = .ref x.cls ∧ ∃ dd ks, d = some dd ∧ Fz W H dd = some (.xd ks) ∧ RepF K (Fz W H) W.ρ x.fs ks

/-- behind an expression, at a world: value, store; or an error -/
def tMr (K : PySem.W.Frag) (E : XK) (W : Wd) (H : Hp) (Q : VK) : Option (Res PV) → Prop
  | none => False
  | some (.ok x st) => ∀ u H' W', Le W H W' H' → SimS K W' st H' → Rp K W' H' x u → Q u H'
  | some (.exc x st) => ∀ cls d H' W', Le W H W' H' → SimS K W' st H' → RepX K W' H' x cls d → E cls d H'
def tMrB (K : PySem.W.Frag) (E : XK) (W : Wd) (H : Hp) (Q : Bool → Hp → Prop) : Option (Res Bool) → Prop
  | none => False
  | some (.ok x st) => ∀ H' W', Le W H W' H' → SimS K W' st H' → Q x H'
  | some (.exc x st) => ∀ cls d H' W', Le W H W' H' → SimS K W' st H' → RepX K W' H' x cls d → E cls d H'
def tMrL (K : PySem.W.Frag) (E : XK) (W : Wd) (H : Hp) (Q : List V → Hp → Prop) : Option (Res (List PV)) → Prop
  | none => False
  | some (.ok x st) => ∀ u H' W', Le W H W' H' → SimS K W' st H' → RpL K W' H' x u → Q u H'
  | some (.exc x st) => ∀ cls d H' W', Le W H W' H' → SimS K W' st H' → RepX K W' H' x cls d → E cls d H'
theorem tMr.le {K : PySem.W.Frag} {E : XK} {W W1 : Wd} {H H1 : Hp} {Q : VK} {r : Option (Res PV)} (l : Le W H W1 H1) (h : tMr K E W H Q r) : tMr K E W1 H1 Q r := by
  cases r with
  | none => exact h
  | some r =>
    cases r with
    | ok x st => exact fun u H' W' l' => h u H' W' (l.trans l')
    | exc x st => exact fun c d H' W' l' => h c d H' W' (l.trans l')
theorem tMrB.le {K : PySem.W.Frag} {E : XK} {W W1 : Wd} {H H1 : Hp} {Q : Bool → Hp → Prop} {r : Option (Res Bool)} (l : Le W H W1 H1) (h : tMrB K E W H Q r) : tMrB K E W1 H1 Q r := by
  cases r with
  | none => exact h
  | some r =>
    cases r with
    | ok x st => exact fun H' W' l' => h H' W' (l.trans l')
    | exc x st => exact fun c d H' W' l' => h c d H' W' (l.trans l')
theorem tMrL.le {K : PySem.W.Frag} {E : XK} {W W1 : Wd} {H H1 : Hp} {Q : List V → Hp → Prop} {r : Option (Res (List PV))} (l : Le W H W1 H1) (h : tMrL K E W H Q r) : tMrL K E W1 H1 Q r := by
  cases r with
  | none => exact h
  | some r =>
    cases r with
    | ok x st => exact fun u H' W' l' => h u H' W' (l.trans l')
    | exc x st => exact fun c d H' W' l' => h c d H' W' (l.trans l')

/-! ### readings by the mirror -/
abbrev EX := L2.St → XK
def tM (K : PySem.W.Frag) (E : EX) (m : M PV) : TE := fun σ H Q => ∃ W env st, SlotR K W H env σ ∧ SimS K W st H ∧ tMr K (E σ) W H Q (m env st)
def tMB (K : PySem.W.Frag) (E : EX) (m : M Bool) : TT := fun σ H Q => ∃ W env st, SlotR K W H env σ ∧ SimS K W st H ∧ tMrB K (E σ) W H Q (m env st)
def tML (K : PySem.W.Frag) (E : EX) (m : M (List PV)) : TA := fun σ H Q => ∃ W env st, SlotR K W H env σ ∧ SimS K W st H ∧ tMrL K (E σ) W H Q (m env st)
abbrev ME (X : Cx) (E : EX) (e : Expr) (m : M PV) : Prop := PE X e (tM X.K E m)
abbrev MT (X : Cx) (E : EX) (e : Expr) (m : M Bool) : Prop := PT X e (tMB X.K E m)
abbrev MA (X : Cx) (E : EX) (es : List Expr) (m : M (List PV)) : Prop := PA X es (tML X.K E m)
section
variable {X : Cx} {e : Expr}
theorem peW {t t' : TE} (h : PE X e t) (w : ∀ σ H Q, t' σ H Q → t σ H Q) : PE X e t' := ⟨fun pins s σ H Q I q => h.run pins s σ H Q I (w _ _ _ q)⟩
theorem ptW {t t' : TT} (h : PT X e t) (w : ∀ σ H Q, t' σ H Q → t σ H Q) : PT X e t' := ⟨fun pins s σ H Q I q => h.run pins s σ H Q I (w _ _ _ q)⟩
theorem pwW {t t' : TT} (h : PW X e t) (w : ∀ σ H Q, t' σ H Q → t σ H Q) : PW X e t' := ⟨fun wh pins s σ H Q I q => h.run wh pins s σ H Q I (w _ _ _ q)⟩
theorem paW {es : List Expr} {t t' : TA} (h : PA X es t) (w : ∀ σ H Q, t' σ H Q → t σ H Q) : PA X es t' := ⟨fun p pins s σ H Q I q => h.run p pins s σ H Q I (w _ _ _ q)⟩
end
section
variable {K : PySem.W.Frag} {E : EX} {W : Wd} {env : MEnv} {st : Sto} {σ : L2.St} {H : Hp} {Q : VK}
theorem bind_at {ma : M PV} {f : PV → M PV} {R : VK} (sl : SlotR K W H env σ) (ss : SimS K W st H) (h : tMr K (E σ) W H Q (M.bind ma f env st))
    (k : ∀ x u st1 W1 H1, Le W H W1 H1 → SlotR K W1 H1 env σ → SimS K W1 st1 H1 → Rp K W1 H1 x u → tMr K (E σ) W1 H1 Q (f x env st1) → R u H1) : tM K E ma σ H R := by
  refine ⟨W, env, st, sl, ss, ?_⟩
  unfold M.bind at h
  cases e : ma env st with
  | none => rw [e] at h; exact h
  | some r =>
    rw [e] at h
    cases r with
    | ok x st1 => exact fun u H1 W1 l ss1 rp => k x u st1 W1 H1 l (sl.le l) ss1 rp (h.le l)
    | exc x st1 => exact h
theorem bindB_at {ma : M PV} {f : PV → M Bool} {Q : Bool → Hp → Prop} {R : VK} (sl : SlotR K W H env σ) (ss : SimS K W st H) (h : tMrB K (E σ) W H Q (M.bind ma f env st))
    (k : ∀ x u st1 W1 H1, Le W H W1 H1 → SlotR K W1 H1 env σ → SimS K W1 st1 H1 → Rp K W1 H1 x u → tMrB K (E σ) W1 H1 Q (f x env st1) → R u H1) : tM K E ma σ H R := by
  refine ⟨W, env, st, sl, ss, ?_⟩
  unfold M.bind at h
  cases e : ma env st with
  | none => rw [e] at h; exact h
  | some r =>
    rw [e] at h
    cases r with
    | ok x st1 => exact fun u H1 W1 l ss1 rp => k x u st1 W1 H1 l (sl.le l) ss1 rp (h.le l)
    | exc x st1 => exact h
theorem bindT_at {ma : M Bool} {f : Bool → M PV} {R : Bool → Hp → Prop} (sl : SlotR K W H env σ) (ss : SimS K W st H) (h : tMr K (E σ) W H Q (M.bind ma f env st))
    (k : ∀ x st1 W1 H1, Le W H W1 H1 → SlotR K W1 H1 env σ → SimS K W1 st1 H1 → tMr K (E σ) W1 H1 Q (f x env st1) → R x H1) : tMB K E ma σ H R := by
  refine ⟨W, env, st, sl, ss, ?_⟩
  unfold M.bind at h
  cases e : ma env st with
  | none => rw [e] at h; exact h
  | some r =>
    rw [e] at h
    cases r with
    | ok x st1 => exact fun H1 W1 l ss1 => k x st1 W1 H1 l (sl.le l) ss1 (h.le l)
    | exc x st1 => exact h
theorem bindTB_at {ma : M Bool} {f : Bool → M Bool} {Q R : Bool → Hp → Prop} (sl : SlotR K W H env σ) (ss : SimS K W st H) (h : tMrB K (E σ) W H Q (M.bind ma f env st))
    (k : ∀ x st1 W1 H1, Le W H W1 H1 → SlotR K W1 H1 env σ → SimS K W1 st1 H1 → tMrB K (E σ) W1 H1 Q (f x env st1) → R x H1) : tMB K E ma σ H R := by
  refine ⟨W, env, st, sl, ss, ?_⟩
  unfold M.bind at h
  cases e : ma env st with
  | none => rw [e] at h; exact h
  | some r =>
    rw [e] at h
    cases r with
    | ok x st1 => exact fun H1 W1 l ss1 => k x st1 W1 H1 l (sl.le l) ss1 (h.le l)
    | exc x st1 => exact h
theorem bindL_at {ma : M (List PV)} {f : List PV → M PV} {R : List V → Hp → Prop} (sl : SlotR K W H env σ) (ss : SimS K W st H) (h : tMr K (E σ) W H Q (M.bind ma f env st))
    (k : ∀ x u st1 W1 H1, Le W H W1 H1 → SlotR K W1 H1 env σ → SimS K W1 st1 H1 → RpL K W1 H1 x u → tMr K (E σ) W1 H1 Q (f x env st1) → R u H1) : tML K E ma σ H R := by
  refine ⟨W, env, st, sl, ss, ?_⟩
  unfold M.bind at h
  cases e : ma env st with
  | none => rw [e] at h; exact h
  | some r =>
    rw [e] at h
    cases r with
    | ok x st1 => exact fun u H1 W1 l ss1 rp => k x u st1 W1 H1 l (sl.le l) ss1 rp (h.le l)
    | exc x st1 => exact h
theorem bindEL_at {ma : M PV} {f : PV → M (List PV)} {Q : List V → Hp → Prop} {R : VK} (sl : SlotR K W H env σ) (ss : SimS K W st H) (h : tMrL K (E σ) W H Q (M.bind ma f env st))
    (k : ∀ x u st1 W1 H1, Le W H W1 H1 → SlotR K W1 H1 env σ → SimS K W1 st1 H1 → Rp K W1 H1 x u → tMrL K (E σ) W1 H1 Q (f x env st1) → R u H1) : tM K E ma σ H R := by
  refine ⟨W, env, st, sl, ss, ?_⟩
  unfold M.bind at h
  cases e : ma env st with
  | none => rw [e] at h; exact h
  | some r =>
    rw [e] at h
    cases r with
    | ok x st1 => exact fun u H1 W1 l ss1 rp => k x u st1 W1 H1 l (sl.le l) ss1 rp (h.le l)
    | exc x st1 => exact h
theorem bindLL_at {ma : M (List PV)} {f : List PV → M (List PV)} {Q R : List V → Hp → Prop} (sl : SlotR K W H env σ) (ss : SimS K W st H) (h : tMrL K (E σ) W H Q (M.bind ma f env st))
    (k : ∀ x u st1 W1 H1, Le W H W1 H1 → SlotR K W1 H1 env σ → SimS K W1 st1 H1 → RpL K W1 H1 x u → tMrL K (E σ) W1 H1 Q (f x env st1) → R u H1) : tML K E ma σ H R := by
  refine ⟨W, env, st, sl, ss, ?_⟩
  unfold M.bind at h
  cases e : ma env st with
  | none => rw [e] at h; exact h
  | some r =>
    rw [e] at h
    cases r with
    | ok x st1 => exact fun u H1 W1 l ss1 rp => k x u st1 W1 H1 l (sl.le l) ss1 rp (h.le l)
    | exc x st1 => exact h
end
end Mi

/-! Mi2: names, constants, displays, and, or, not, if, comparisons, operators by values. -/
namespace Mi
open PySem PySem.Spec PyProof.Rows L2

section
variable {K : PySem.W.Frag} {W : Wd} {st : Sto} {H : Hp} {p : Addr} {o : HO}
theorem SimS.some_ρ (ss : SimS K W st H) {a : Addr} (h : a ∈ W.ρ) : ∃ o, H a = some o := by
  obtain ⟨i, hi, e⟩ := List.getElem_of_mem h
  have hi2 : i < st.length := by rw [← ss.len]; exact hi
  have q := ss.ob i st[i] a (List.getElem?_eq_getElem hi2) (by rw [List.getElem?_eq_getElem hi, e])
  cases hso : st[i] with
  | lst xs => rw [hso] at q; obtain ⟨vs, h1, _⟩ := q; exact ⟨_, h1⟩
  | dic ps => rw [hso] at q; obtain ⟨vs, h1, _⟩ := q; exact ⟨_, h1⟩
theorem SimS.new_ρ (ss : SimS K W st H) (h : H p = none) : p ∉ W.ρ := fun q => by
  obtain ⟨o, e⟩ := ss.some_ρ q
  rw [h] at e; cases e
theorem SimS.new_hid (ss : SimS K W st H) (h : H p = none) : p ∉ W.hid := fun q => ss.hs p q h
theorem Fz_upd_new (W : Wd) (H : Hp) (h : H p = none) : ∀ a o', Fz W H a = some o' → Fz W (upd H p o) a = some o' := fun a o' e => by
  obtain ⟨h1, h2, h3⟩ := Fz_some.mp e
  exact Fz_some.mpr ⟨h1, h2, by rw [upd_ne (ne_of_none h3 h)]; exact h3⟩
theorem Fz_at (ss : SimS K W st H) (h : H p = none) : Fz W (upd H p o) p = some o := Fz_some.mpr ⟨ss.new_ρ h, ss.new_hid h, upd_same⟩
theorem ObR.mono {W' : Wd} {H' : Hp} {m : MO} {a : Addr} (h : ObR K W H m a) (hF : ∀ a o, Fz W H a = some o → Fz W' H' a = some o) (hp : W.ρ <+: W'.ρ) (ha : H' a = H a) : ObR K W' H' m a := by
  cases m with
  | lst xs =>
    obtain ⟨vs, h1, h2, hz⟩ := h
    exact ⟨vs, ha.trans h1, RepL.mono hF hp xs vs h2, hz⟩
  | dic ps =>
    obtain ⟨vs, h1, h2, hz⟩ := h
    exact ⟨vs, ha.trans h1, RepD.mono hF hp ps vs h2, hz⟩
/-- a new object that the mirror does not change -/
theorem SimS.new (ss : SimS K W st H) (h : H p = none) : Le W H W (upd H p o) ∧ SimS K W st (upd H p o) := by
  have hF := Fz_upd_new (o := o) W H h
  refine ⟨⟨List.prefix_refl _, fun _ h => h, hF, fun a ha => upd_ne fun e => ss.new_hid h (by rw [← e]; exact ha)⟩, ss.len, ss.nd, ss.dj, fun a ha => ?_, fun i m a e1 e2 => ?_⟩
  · rw [upd_ne fun e => ss.new_hid h (by rw [← e]; exact ha)]
    exact ss.hs a ha
  · exact (ss.ob i m a e1 e2).mono hF (List.prefix_refl _) (upd_ne fun e => ss.new_ρ h (by rw [← e]; exact List.mem_of_getElem? e2))
end

/-! ### names, constants -/
def mVar (i : Nat) : M PV := fun env st => match env[i]? with
  | some (some x) => some (.ok x st)
  | _ => none
def mC (x : PV) : M PV := fun _ st => some (.ok x st)
section
variable {X : Cx} {E : EX} {pos : Pos} {e a b c : Expr} {es : List Expr}
theorem m_var {i : Nat} {x : Str} (h : PE X (.Name x pos) (tVar i)) : ME X E (.Name x pos) (mVar i) := by
  refine peW h fun σ H Q q => ?_
  obtain ⟨W, env, st, sl, ss, q⟩ := q
  unfold mVar at q
  split at q
  · rename_i y e
    obtain ⟨v, h1, h2⟩ := sl.get _ _ e
    exact ⟨v, h1, q v H W (Le.refl _ _) ss h2⟩
  · exact q.elim
theorem m_c {x : PV} {v : V} (h : PE X e (tC v)) (hx : ∀ K F ρ, Rep K F ρ x v) : ME X E e (mC x) := by
  refine peW h fun σ H Q q => ?_
  obtain ⟨W, env, st, sl, ss, q⟩ := q
  exact q v H W (Le.refl _ _) ss (hx _ _ _)
theorem m_int {i j} : ME X E (.Constant (.int i) j pos) (mC (.int i)) := m_c pe_int fun _ _ _ => by simp only [Rep]
theorem m_bl {b j} : ME X E (.Constant (.bool b) j pos) (mC (.bl b)) := m_c pe_bl fun _ _ _ => by simp only [Rep]
theorem m_non {j} : ME X E (.Constant .none j pos) (mC .non) := m_c pe_non fun _ _ _ => by simp only [Rep]
theorem m_str {x j} (hz : x.length ≤ sizeLine := by decide) : ME X E (.Constant (.str x) j pos) (mC (.str x)) := m_c pe_str fun _ _ _ => by simp only [Rep, true_and]; exact hz
theorem m_glob {x : Str} {v : V} {u : Value} (hg : Gl X x) (hm : X.mg x = some u) (r : RelV v u) (hd : (x == ("__debug__" : Str)) = false := by decide) : ME X E (.Name x pos) (mC (.opq v)) :=
  m_c (pe_glob hg hm r hd) fun _ _ _ => by simp only [Rep]
theorem m_bltn {x : Str} {v : V} {u : Value} (hg : Gl X x) (hm : X.mg x = none) (hv : bootBuiltins x = some u) (r : RelV v u) (hn : x ≠ "__name__" := by decide) (hd : (x == ("__debug__" : Str)) = false := by decide) : ME X E (.Name x pos) (mC (.opq v)) :=
  m_c (pe_bltn hg hm hv r hn hd) fun _ _ _ => by simp only [Rep]
/-- a written text of the module -/
theorem m_gstr {x z : Str} {t : Tok} (hg : Gl X x) (hm : X.mg x = some (.str z t)) (hz : z.length ≤ sizeLine := by decide) (hd : (x == ("__debug__" : Str)) = false := by decide) : ME X E (.Name x pos) (mC (.str z)) :=
  m_c (v := .str z) (pe_glob hg hm ⟨t, rfl⟩ hd) fun _ _ _ => by simp only [Rep, true_and]; exact hz

/-! ### rows of expressions, displays -/
def mNil : M (List PV) := fun _ st => some (.ok [] st)
def mCons (m : M PV) (r : M (List PV)) : M (List PV) := m.bind fun x => r.bind fun xs => M.pure (x :: xs)
theorem m_nil : MA X E [] mNil := by
  refine paW pa_nil fun σ H Q q => ?_
  obtain ⟨W, env, st, sl, ss, q⟩ := q
  exact q [] H W (Le.refl _ _) ss RepL.nil
theorem m_cons {ma : M PV} {mr : M (List PV)} (ha : ME X E e ma) (hr : MA X E es mr) (hs : starEach (e :: es) X.env = (false, eval e X.env) :: starEach es X.env := by rfl) : MA X E (e :: es) (mCons ma mr) := by
  refine paW (pa_cons ha hr hs) fun σ H Q q => ?_
  obtain ⟨W, env, st, sl, ss, q⟩ := q
  refine bindEL_at sl ss q fun x u st1 W1 H1 l1 sl1 ss1 rx q1 => ?_
  refine bindLL_at sl1 ss1 q1 fun xs us st2 W2 H2 l2 sl2 ss2 rxs q2 => ?_
  exact q2 (u :: us) H2 W2 (Le.refl _ _) ss2 (RepL.cons (rx.le l2) rxs)
def mTup (m : M (List PV)) : M PV := m.bind fun xs => fun _ st => if xs.length ≤ sizeLine then some (.ok (.tup xs) st) else none
theorem new_tup {K : PySem.W.Frag} {W : Wd} {st : Sto} {H : Hp} {p : Addr} {xs : List PV} {vs : List V} (ss : SimS K W st H) (hp : H p = none) (r : RpL K W H xs vs) (hz : xs.length ≤ sizeLine) : Rp K W (upd H p (.tup vs)) (.tup xs) (.ref p) := by
  have l := (ss.new (o := .tup vs) hp).1
  show Rep _ _ _ _ _
  simp only [Rep]
  exact ⟨p, vs, rfl, .inl (.inl (Fz_at ss hp)), r.le l, hz⟩
theorem new_lst {K : PySem.W.Frag} {W : Wd} {st : Sto} {H : Hp} {p : Addr} {xs : List PV} {vs : List V} (ss : SimS K W st H) (hp : H p = none) (r : RpL K W H xs vs) (hz : xs.length ≤ sizeLine) : Rp K W (upd H p (.lst vs)) (.lst xs) (.ref p) := by
  have l := (ss.new (o := .lst vs) hp).1
  show Rep _ _ _ _ _
  simp only [Rep]
  exact ⟨p, vs, rfl, Fz_at ss hp, r.le l, hz⟩
theorem m_tup {x1} {ma : M (List PV)} (h : MA X E es ma) : ME X E (.Tuple es x1 pos) (mTup ma) := by
  refine peW (pe_tup h) fun σ H Q q => ?_
  obtain ⟨W, env, st, sl, ss, q⟩ := q
  refine bindL_at sl ss q fun xs us st1 W1 H1 l1 sl1 ss1 rx q1 => ?_
  split at q1
  · rename_i hl
    refine ⟨by rw [rx.len]; exact hl, fun p hp => ?_⟩
    obtain ⟨l2, ss2⟩ := ss1.new (o := .tup us) hp
    exact q1 _ _ W1 l2 ss2 (new_tup ss1 hp rx hl)
  · exact q1.elim

/-! ### new lists: by value, or as a changing object -/
/-- a new list at p, that nothing else knows of -/
def tMFr (K : PySem.W.Frag) (E : XK) (W : Wd) (H : Hp) (Q : VK) : Option (Res (List PV)) → Prop
  | none => False
  | some (.ok xs st) => ∀ p us H' W', Le W H W' H' → SimS K W' st H' → RpL K W' H' xs us → xs.length ≤ sizeLine → H' p = none → Q (.ref p) (upd H' p (.lst us))
  | some (.exc x st) => ∀ cls d H' W', Le W H W' H' → SimS K W' st H' → RepX K W' H' x cls d → E cls d H'
theorem tMFr.le {K : PySem.W.Frag} {E : XK} {W W1 : Wd} {H H1 : Hp} {Q : VK} {r : Option (Res (List PV))} (l : Le W H W1 H1) (h : tMFr K E W H Q r) : tMFr K E W1 H1 Q r := by
  cases r with
  | none => exact h
  | some r =>
    cases r with
    | ok x st => exact fun p us H' W' l' => h p us H' W' (l.trans l')
    | exc x st => exact fun c d H' W' l' => h c d H' W' (l.trans l')
def tMF (K : PySem.W.Frag) (E : EX) (m : M (List PV)) : TE := fun σ H Q => ∃ W env st, SlotR K W H env σ ∧ SimS K W st H ∧ tMFr K (E σ) W H Q (m env st)
abbrev MF (X : Cx) (E : EX) (e : Expr) (m : M (List PV)) : Prop := PE X e (tMF X.K E m)
/-- a new list by value -/
def mNew (m : M (List PV)) : M PV := m.bind fun xs => M.pure (.lst xs)
theorem m_new {ma : M (List PV)} (h : MF X E e ma) : ME X E e (mNew ma) := by
  refine peW h fun σ H Q q => ?_
  obtain ⟨W, env, st, sl, ss, q⟩ := q
  refine ⟨W, env, st, sl, ss, ?_⟩
  unfold mNew M.bind at q
  cases e : ma env st with
  | none => rw [e] at q; exact q
  | some r =>
    rw [e] at q
    cases r with
    | exc x st1 => exact q
    | ok xs st1 =>
      intro p us H' W' l s r hz hp
      obtain ⟨l2, ss2⟩ := s.new (o := .lst us) hp
      exact q _ _ W' (l.trans l2) ss2 (new_lst s hp r hz)
def mLst (m : M (List PV)) : M (List PV) := m.bind fun xs => fun _ st => if xs.length ≤ sizeLine then some (.ok xs st) else none
theorem bindF_at {K : PySem.W.Frag} {W : Wd} {env : MEnv} {st : Sto} {σ : L2.St} {H : Hp} {Q : VK} {ma : M (List PV)} {f : List PV → M (List PV)} {R : List V → Hp → Prop} (sl : SlotR K W H env σ) (ss : SimS K W st H) (h : tMFr K (E σ) W H Q (M.bind ma f env st))
    (k : ∀ x u st1 W1 H1, Le W H W1 H1 → SlotR K W1 H1 env σ → SimS K W1 st1 H1 → RpL K W1 H1 x u → tMFr K (E σ) W1 H1 Q (f x env st1) → R u H1) : tML K E ma σ H R := by
  refine ⟨W, env, st, sl, ss, ?_⟩
  unfold M.bind at h
  cases e : ma env st with
  | none => rw [e] at h; exact h
  | some r =>
    rw [e] at h
    cases r with
    | ok x st1 =>
      intro u H1 W1 l ss1 rp
      exact k x u st1 W1 H1 l (sl.le l) ss1 rp (tMFr.le l h)
    | exc x st1 => exact h
theorem f_lst {ma : M (List PV)} (h : MA X E es ma) : MF X E (.List es pos) (mLst ma) := by
  refine peW (pe_lst h) fun σ H Q q => ?_
  obtain ⟨W, env, st, sl, ss, q⟩ := q
  refine bindF_at sl ss q fun xs us st1 W1 H1 l1 sl1 ss1 rx q1 => ?_
  split at q1
  · rename_i hl
    exact ⟨by rw [rx.len]; exact hl, fun p hp => q1 p us H1 W1 (Le.refl _ _) ss1 rx hl hp⟩
  · exact q1.elim

/-! ### tests -/
def mTst (m : M PV) : M Bool := m.bind fun x => fun _ st => match x with
  | .bl b => some (.ok b st)
  | _ => none
def mAndT (a b : M Bool) : M Bool := a.bind fun c => if c then b else M.pure false
def mOrT (a b : M Bool) : M Bool := a.bind fun c => if c then M.pure true else b
def mNotT (a : M Bool) : M Bool := a.bind fun c => M.pure (!c)
def mAnd (a b : M PV) : M PV := (mTst a).bind fun c => if c then b else M.pure (.bl false)
def mOr (a b : M PV) : M PV := (mTst a).bind fun c => if c then M.pure (.bl true) else b
def mNot (a : M PV) : M PV := (mTst a).bind fun c => M.pure (.bl (!c))
def mIf (c : M Bool) (a b : M PV) : M PV := c.bind fun c => if c then a else b
theorem Rep.bl_inv {K : PySem.W.Frag} {F : Hp} {ρ : List Addr} {b : Bool} {v : V} (h : Rep K F ρ (.bl b) v) : v = .bl b := by simpa only [Rep] using h
theorem rep_bl {K : PySem.W.Frag} {F : Hp} {ρ : List Addr} {b : Bool} : Rep K F ρ (.bl b) (.bl b) := by simp only [Rep]
theorem tTest_of {K : PySem.W.Frag} {m : M PV} {σ : L2.St} {H : Hp} {Q : Bool → Hp → Prop} (h : tMB K E (mTst m) σ H Q) : tM K E m σ H fun x H' => ∃ k, x = .bl k ∧ Q k H' := by
  obtain ⟨W, env, st, sl, ss, q⟩ := h
  refine bindB_at sl ss q fun x u st1 W1 H1 l1 sl1 ss1 rx q1 => ?_
  split at q1
  · exact ⟨_, rx.bl_inv, q1 H1 W1 (Le.refl _ _) ss1⟩
  · exact q1.elim
theorem m_andT {ta tb : M Bool} {rest : List Expr} (ha : MT X E a ta) (hb : PW X (.BoolOp .And (b :: rest) pos) (tMB X.K E tb)) : PW X (.BoolOp .And (a :: b :: rest) pos) (tMB X.K E (mAndT ta tb)) := by
  refine pwW (pw_and ha hb) fun σ H Q q => ?_
  obtain ⟨W, env, st, sl, ss, q⟩ := q
  refine bindTB_at sl ss q fun x st1 W1 H1 l1 sl1 ss1 q1 => ?_
  cases x with
  | true => exact ⟨W1, env, st1, sl1, ss1, q1⟩
  | false => exact q1 H1 W1 (Le.refl _ _) ss1
theorem m_orT {ta tb : M Bool} {rest : List Expr} (ha : MT X E a ta) (hb : PW X (.BoolOp .Or (b :: rest) pos) (tMB X.K E tb)) : PW X (.BoolOp .Or (a :: b :: rest) pos) (tMB X.K E (mOrT ta tb)) := by
  refine pwW (pw_or ha hb) fun σ H Q q => ?_
  obtain ⟨W, env, st, sl, ss, q⟩ := q
  refine bindTB_at sl ss q fun x st1 W1 H1 l1 sl1 ss1 q1 => ?_
  cases x with
  | false => exact ⟨W1, env, st1, sl1, ss1, q1⟩
  | true => exact q1 H1 W1 (Le.refl _ _) ss1
theorem m_notT {ta : M Bool} (ha : MT X E a ta) : MT X E (.UnaryOp .Not a pos) (mNotT ta) := by
  refine ptW (pt_not ha) fun σ H Q q => ?_
  obtain ⟨W, env, st, sl, ss, q⟩ := q
  exact bindTB_at sl ss q fun x st1 W1 H1 l1 sl1 ss1 q1 => q1 H1 W1 (Le.refl _ _) ss1
theorem m_and {ta tb : M PV} {rest : List Expr} (ha : ME X E a ta) (hb : ME X E (.BoolOp .And (b :: rest) pos) tb) : ME X E (.BoolOp .And (a :: b :: rest) pos) (mAnd ta tb) := by
  refine peW (pe_and ha hb) fun σ H Q q => ?_
  obtain ⟨W, env, st, sl, ss, q⟩ := q
  refine tTest_of (bindT_at sl ss q fun x st1 W1 H1 l1 sl1 ss1 q1 => ?_)
  cases x with
  | true => exact ⟨W1, env, st1, sl1, ss1, q1⟩
  | false => exact q1 _ H1 W1 (Le.refl _ _) ss1 rep_bl
theorem m_or {ta tb : M PV} {rest : List Expr} (ha : ME X E a ta) (hb : ME X E (.BoolOp .Or (b :: rest) pos) tb) : ME X E (.BoolOp .Or (a :: b :: rest) pos) (mOr ta tb) := by
  refine peW (pe_or ha hb) fun σ H Q q => ?_
  obtain ⟨W, env, st, sl, ss, q⟩ := q
  refine tTest_of (bindT_at sl ss q fun x st1 W1 H1 l1 sl1 ss1 q1 => ?_)
  cases x with
  | false => exact ⟨W1, env, st1, sl1, ss1, q1⟩
  | true => exact q1 _ H1 W1 (Le.refl _ _) ss1 rep_bl
theorem m_not {ta : M PV} (ha : ME X E a ta) : ME X E (.UnaryOp .Not a pos) (mNot ta) := by
  refine peW (pe_not ha) fun σ H Q q => ?_
  obtain ⟨W, env, st, sl, ss, q⟩ := q
  exact tTest_of (bindT_at sl ss q fun x st1 W1 H1 l1 sl1 ss1 q1 => q1 _ H1 W1 (Le.refl _ _) ss1 rep_bl)
theorem m_if {tc : M Bool} {ta tb : M PV} (hc : MT X E c tc) (ha : ME X E a ta) (hb : ME X E b tb) : ME X E (.IfExp c a b pos) (mIf tc ta tb) := by
  refine peW (pe_ifExp hc ha hb) fun σ H Q q => ?_
  obtain ⟨W, env, st, sl, ss, q⟩ := q
  refine bindT_at sl ss q fun x st1 W1 H1 l1 sl1 ss1 q1 => ?_
  cases x with
  | true => exact ⟨W1, env, st1, sl1, ss1, q1⟩
  | false => exact ⟨W1, env, st1, sl1, ss1, q1⟩
/-- a value that is a bool, as a test -/
theorem m_val {m : M PV} (h : ME X E e m) (he : ∀ whole, isTrue e X.env whole = (do let v ← whole; standAt e.pos; holding [v] (truthy v)) := by intro _; rfl) : MT X E e (mTst m) := by
  refine ptW (pt_val h he) fun σ H Q q => ?_
  exact tTest_of q

/-! ### operations by values: the mirror's o (the store is only read) -/
abbrev O2 := PV → PV → Sto → Option PV
/-- what a two-place operation must answer -/
def rM2 (K : PySem.W.Frag) (o : O2) : R2 := fun u v H Q => ∃ W st x y z, SimS K W st H ∧ Rp K W H x u ∧ Rp K W H y v ∧ o x y st = some z ∧
  ∀ w H', Le W H W H' → SimS K W st H' → Rp K W H' z w → Q w H'
def mOp (o : O2) (a b : M PV) : M PV := a.bind fun x => b.bind fun y => fun _ st => (o x y st).map fun z => .ok z st
theorem op_body {K : PySem.W.Frag} {o : O2} {ta tb : M PV} {σ : L2.St} {H : Hp} {Q : VK} (q : tM K E (mOp o ta tb) σ H Q) : tOp (rM2 K o) (tM K E ta) (tM K E tb) σ H Q := by
  obtain ⟨W, env, st, sl, ss, q⟩ := q
  refine bind_at sl ss q fun x u st1 W1 H1 l1 sl1 ss1 rx q1 => ?_
  refine bind_at sl1 ss1 q1 fun y v st2 W2 H2 l2 sl2 ss2 ry q2 => ?_
  cases e : o x y st2 with
  | none => rw [e] at q2; exact q2.elim
  | some z =>
    rw [e] at q2
    exact ⟨W2, st2, x, y, z, ss2, rx.le l2, ry, e, fun w H' l s r => q2 w H' W2 l s r⟩
theorem m_op {op : Operator} {o : O2} {ta tb : M PV} (ho : OpR X (binaryOp op) (rM2 X.K o)) (ha : ME X E a ta) (hb : ME X E b tb) : ME X E (.BinOp a op b pos) (mOp o ta tb) :=
  peW (pe_op ho ha hb) fun _ _ _ q => op_body q
theorem m_cmp {op : CmpOp} {o : O2} {ta tb : M PV} (ho : OpR X (compareOp op) (rM2 X.K o)) (ha : ME X E a ta) (hb : ME X E b tb) (hm : behindInMarks op b = false) : ME X E (.Compare a [op] [b] pos) (mOp o ta tb) :=
  peW (pe_cmpR ho ha hb hm) fun _ _ _ q => op_body q
theorem m_cmpT {op : CmpOp} {o : O2} {ta tb : M PV} (ho : OpR X (compareOp op) (rM2 X.K o)) (ha : ME X E a ta) (hb : ME X E b tb) (hm : behindInMarks op b = false) : MT X E (.Compare a [op] [b] pos) (mTst (mOp o ta tb)) := by
  refine ptW (pt_cmpR ho ha hb hm) fun σ H Q q => ?_
  obtain ⟨W, env, st, sl, ss, q⟩ := q
  unfold tTest
  refine op_body (E := E) ⟨W, env, st, sl, ss, ?_⟩
  unfold mTst M.bind at q
  cases e : mOp o ta tb env st with
  | none => rw [e] at q; exact q.elim
  | some r =>
    rw [e] at q
    cases r with
    | exc x st1 => exact q
    | ok x st1 =>
      intro u H' W' l s r
      cases x with
      | bl b => exact ⟨_, r.bl_inv, q H' W' l s⟩
      | _ => exact q.elim
theorem m_ix {o : O2} {ta tb : M PV} (ho : IxR X (rM2 X.K o)) (ha : ME X E a ta) (hb : ME X E b tb) (hs : PlainIx b) : ME X E (.Subscript a b pos) (mOp o ta tb) :=
  peW (pe_ix ho ha hb hs) fun _ _ _ q => op_body q
/-- one place -/
abbrev O1 := PV → Sto → Option PV
def rM1 (K : PySem.W.Frag) (o : O1) : V → Hp → VK → Prop := fun u H Q => ∃ W st x z, SimS K W st H ∧ Rp K W H x u ∧ o x st = some z ∧ ∀ w H', Le W H W H' → SimS K W st H' → Rp K W H' z w → Q w H'
def mUn (o : O1) (a : M PV) : M PV := a.bind fun x => fun _ st => (o x st).map fun z => .ok z st
theorem m_un {op : UnaryOp} {o : O1} {ta : M PV} (ho : UnR X (unaryOp op) (rM1 X.K o)) (ha : ME X E a ta) : ME X E (.UnaryOp op a pos) (mUn o ta) := by
  refine peW (pe_un ho ha) fun σ H Q q => ?_
  obtain ⟨W, env, st, sl, ss, q⟩ := q
  refine bind_at sl ss q fun x u st1 W1 H1 l1 sl1 ss1 rx q1 => ?_
  cases e : o x st1 with
  | none => rw [e] at q1; exact q1.elim
  | some z =>
    rw [e] at q1
    exact ⟨W1, st1, x, z, ss1, rx, e, fun w H' l s r => q1 w H' W1 l s r⟩
/-- a call of what is built in, by values -/
abbrev OL := List PV → Sto → Option PV
def rML (K : PySem.W.Frag) (o : OL) : List V → Hp → VK → Prop := fun us H Q => ∃ W st xs z, SimS K W st H ∧ RpL K W H xs us ∧ o xs st = some z ∧ ∀ w H', Le W H W H' → SimS K W st H' → Rp K W H' z w → Q w H'
def mCl (o : OL) (a : M (List PV)) : M PV := a.bind fun xs => fun _ st => (o xs st).map fun z => .ok z st
theorem cl_body {K : PySem.W.Frag} {o : OL} {ta : M (List PV)} {σ : L2.St} {H : Hp} {Q : VK} (q : tM K E (mCl o ta) σ H Q) : tCB (rML K o) (tML K E ta) σ H Q := by
  obtain ⟨W, env, st, sl, ss, q⟩ := q
  refine bindL_at sl ss q fun x u st1 W1 H1 l1 sl1 ss1 rx q1 => ?_
  cases e : o x st1 with
  | none => rw [e] at q1; exact q1.elim
  | some z =>
    rw [e] at q1
    exact ⟨W1, st1, x, z, ss1, rx, e, fun w H' l s r => q1 w H' W1 l s r⟩
theorem m_callB {id : String} {x : Str} {p : Pos} {o : OL} {ta : M (List PV)} (hc : CallR X (.builtin id) (rML X.K o)) (hg : Gl X x) (hm : X.mg x = none) (hv : bootBuiltins x = some (.builtin id)) (ha : MA X E (e :: es) ta)
    (hn : x ≠ "__name__" := by decide) (hdb : (x == ("__debug__" : Str)) = false := by decide)
    (he : starEach (e :: es) X.env = (false, eval e X.env) :: starEach es X.env := by rfl) (hpl : (backTo pos (starEach es X.env)).any (·.1) = false := by rfl) : ME X E (.Call (.Name x p) (e :: es) [] pos) (mCl o ta) :=
  peW (pe_callB hc hg hm hv ha hn hdb he hpl) fun _ _ _ q => cl_body q
theorem m_callTy {T : String} {x : Str} {p : Pos} {o : OL} {ta : M (List PV)} (hc : CallR X (.type T) (rML X.K o)) (hg : Gl X x) (hm : X.mg x = none) (hv : bootBuiltins x = some (.type T)) (ha : MA X E (e :: es) ta)
    (hn : x ≠ "__name__" := by decide) (hdb : (x == ("__debug__" : Str)) = false := by decide)
    (he : starEach (e :: es) X.env = (false, eval e X.env) :: starEach es X.env := by rfl) (hpl : (backTo pos (starEach es X.env)).any (·.1) = false := by rfl) : ME X E (.Call (.Name x p) (e :: es) [] pos) (mCl o ta) :=
  peW (pe_callTy hc hg hm hv ha hn hdb he hpl) fun _ _ _ q => cl_body q
end
end Mi

/-! Mi3: statements, targets, what is walked, for, comprehensions, calls, defs. -/
namespace Mi
open PySem PySem.Spec PyProof.Rows L2

inductive SRes where
  | next (env : MEnv) (st : Sto) | ret (v : PV) (st : Sto) | brk (env : MEnv) (st : Sto) | cont (env : MEnv) (st : Sto)
  | exc (x : PX) (env : MEnv) (st : Sto)
abbrev MS := MEnv → Sto → Option SRes
def M.bindS {α : Type} (m : M α) (f : α → MS) : MS := fun env st => match m env st with
  | some (.ok a st1) => f a env st1
  | some (.exc x st1) => some (.exc x env st1)
  | none => none
def mSeq (a b : MS) : MS := fun env st => match a env st with
  | some (.next env1 st1) => b env1 st1
  | r => r
def mSkip : MS := fun env st => some (.next env st)
def tSr (K : PySem.W.Frag) (E : EX) (W : Wd) (H : Hp) (D : Ends) : Option SRes → Prop
  | none => False
  | some (.next env st) => ∀ σ' H' W', Le W H W' H' → SlotR K W' H' env σ' → SimS K W' st H' → D.nx σ' H'
  | some (.brk env st) => ∀ σ' H' W', Le W H W' H' → SlotR K W' H' env σ' → SimS K W' st H' → D.bk σ' H'
  | some (.cont env st) => ∀ σ' H' W', Le W H W' H' → SlotR K W' H' env σ' → SimS K W' st H' → D.ct σ' H'
  | some (.ret x st) => ∀ u H' W', Le W H W' H' → SimS K W' st H' → Rp K W' H' x u → D.rt u H'
  | some (.exc x env st) => ∀ σ' cls d H' W', Le W H W' H' → SlotR K W' H' env σ' → SimS K W' st H' → RepX K W' H' x cls d → E σ' cls d H'
theorem tSr.le {K : PySem.W.Frag} {E : EX} {W W1 : Wd} {H H1 : Hp} {D : Ends} {r : Option SRes} (l : Le W H W1 H1) (h : tSr K E W H D r) : tSr K E W1 H1 D r := by
  cases r with
  | none => exact h
  | some r =>
    cases r with
    | next env st => exact fun σ' H' W' l' => h σ' H' W' (l.trans l')
    | brk env st => exact fun σ' H' W' l' => h σ' H' W' (l.trans l')
    | cont env st => exact fun σ' H' W' l' => h σ' H' W' (l.trans l')
    | ret x st => exact fun u H' W' l' => h u H' W' (l.trans l')
    | exc x env st => exact fun σ' c d H' W' l' => h σ' c d H' W' (l.trans l')
def tMS (K : PySem.W.Frag) (E : EX) (m : MS) : TS := fun D σ H => ∃ W env st, SlotR K W H env σ ∧ SimS K W st H ∧ tSr K E W H D (m env st)
abbrev MSt (X : Cx) (E : EX) (s : Stmt) (m : MS) : Prop := PS X s (tMS X.K E m)
abbrev MSs (X : Cx) (E : EX) (s : List Stmt) (m : MS) : Prop := PSs X s (tMS X.K E m)
section
variable {X : Cx} {e : Expr}
theorem psW {s : Stmt} {t t' : TS} (h : PS X s t) (w : ∀ D σ H, t' D σ H → t D σ H) : PS X s t' := ⟨fun pins s σ H D I q => h.run pins s σ H D I (w _ _ _ q)⟩
theorem pssW {s : List Stmt} {t t' : TS} (h : PSs X s t) (w : ∀ D σ H, t' D σ H → t D σ H) : PSs X s t' := ⟨fun pins s σ H D I q => h.run pins s σ H D I (w _ _ _ q)⟩
theorem pgW {s : Expr} {t t' : TG} (h : PG X s t) (w : ∀ v σ H Q, t' v σ H Q → t v σ H Q) : PG X s t' := ⟨fun pins s σ H v u Q I r q => h.run pins s σ H v u Q I r (w _ _ _ _ q)⟩
theorem pgsW {s : List Expr} {t t' : TGs} (h : PGs X s t) (w : ∀ v σ H Q, t' v σ H Q → t v σ H Q) : PGs X s t' := ⟨fun pins s σ H v u Q I r q => h.run pins s σ H v u Q I r (w _ _ _ _ q)⟩
theorem piW {tg it : Expr} {t t' : TI} (h : PI X tg it t) (w : ∀ σ H R, t' σ H R → t σ H R) : PI X tg it t' := ⟨fun pins s σ H R I q => h.run pins s σ H R I (w _ _ _ q)⟩
end
section
variable {K : PySem.W.Frag} {E : EX} {W : Wd} {env : MEnv} {st : Sto} {σ : L2.St} {H : Hp} {D : Ends}
theorem bindS_at {ma : M PV} {f : PV → MS} {R : VK} (sl : SlotR K W H env σ) (ss : SimS K W st H) (h : tSr K E W H D (M.bindS ma f env st))
    (k : ∀ x u st1 W1 H1, Le W H W1 H1 → SlotR K W1 H1 env σ → SimS K W1 st1 H1 → Rp K W1 H1 x u → tSr K E W1 H1 D (f x env st1) → R u H1) : tM K E ma σ H R := by
  refine ⟨W, env, st, sl, ss, ?_⟩
  unfold M.bindS at h
  cases e : ma env st with
  | none => rw [e] at h; exact h
  | some r =>
    rw [e] at h
    cases r with
    | ok x st1 => exact fun u H1 W1 l ss1 rp => k x u st1 W1 H1 l (sl.le l) ss1 rp (h.le l)
    | exc x st1 => exact fun c d H' W' l s rx => h σ c d H' W' l (sl.le l) s rx
theorem bindBS_at {ma : M Bool} {f : Bool → MS} {R : Bool → Hp → Prop} (sl : SlotR K W H env σ) (ss : SimS K W st H) (h : tSr K E W H D (M.bindS ma f env st))
    (k : ∀ x st1 W1 H1, Le W H W1 H1 → SlotR K W1 H1 env σ → SimS K W1 st1 H1 → tSr K E W1 H1 D (f x env st1) → R x H1) : tMB K E ma σ H R := by
  refine ⟨W, env, st, sl, ss, ?_⟩
  unfold M.bindS at h
  cases e : ma env st with
  | none => rw [e] at h; exact h
  | some r =>
    rw [e] at h
    cases r with
    | ok x st1 => exact fun H1 W1 l ss1 => k x st1 W1 H1 l (sl.le l) ss1 (h.le l)
    | exc x st1 => exact fun c d H' W' l s rx => h σ c d H' W' l (sl.le l) s rx
theorem bindFS_at {ma : M (List PV)} {f : List PV → MS} {R : VK} (sl : SlotR K W H env σ) (ss : SimS K W st H) (h : tSr K E W H D (M.bindS ma f env st))
    (k : ∀ xs p us st1 W1 H1, Le W H W1 H1 → SlotR K W1 H1 env σ → SimS K W1 st1 H1 → RpL K W1 H1 xs us → xs.length ≤ sizeLine → H1 p = none → tSr K E W1 H1 D (f xs env st1) → R (.ref p) (upd H1 p (.lst us))) : tMF K E ma σ H R := by
  refine ⟨W, env, st, sl, ss, ?_⟩
  unfold M.bindS at h
  cases e : ma env st with
  | none => rw [e] at h; exact h
  | some r =>
    rw [e] at h
    cases r with
    | ok xs st1 => exact fun p us H1 W1 l ss1 rp hz hp => k xs p us st1 W1 H1 l (sl.le l) ss1 rp hz hp (h.le l)
    | exc x st1 => exact fun c d H' W' l s rx => h σ c d H' W' l (sl.le l) s rx
theorem bindLS_at {ma : M (List PV)} {f : List PV → MS} {R : List V → Hp → Prop} (sl : SlotR K W H env σ) (ss : SimS K W st H) (h : tSr K E W H D (M.bindS ma f env st))
    (k : ∀ xs us st1 W1 H1, Le W H W1 H1 → SlotR K W1 H1 env σ → SimS K W1 st1 H1 → RpL K W1 H1 xs us → tSr K E W1 H1 D (f xs env st1) → R us H1) : tML K E ma σ H R := by
  refine ⟨W, env, st, sl, ss, ?_⟩
  unfold M.bindS at h
  cases e : ma env st with
  | none => rw [e] at h; exact h
  | some r =>
    rw [e] at h
    cases r with
    | ok xs st1 => exact fun us H1 W1 l ss1 rp => k xs us st1 W1 H1 l (sl.le l) ss1 rp (h.le l)
    | exc x st1 => exact fun c d H' W' l s rx => h σ c d H' W' l (sl.le l) s rx
end
section
variable {X : Cx} {E : EX} {pos : Pos} {e a b c : Expr} {es : List Expr} {s : Stmt} {ss' : List Stmt}
theorem ms_nil : MSs X E [] mSkip := by
  refine pssW pss_nil fun D σ H q => ?_
  obtain ⟨W, env, st, sl, ss, q⟩ := q
  exact q σ H W (Le.refl _ _) sl ss
theorem ms_cons {ma mb : MS} (h1 : MSt X E s ma) (h2 : MSs X E ss' mb) : MSs X E (s :: ss') (mSeq ma mb) := by
  refine pssW (pss_cons h1 h2) fun D σ H q => ?_
  obtain ⟨W, env, st, sl, ss, q⟩ := q
  refine ⟨W, env, st, sl, ss, ?_⟩
  unfold mSeq at q
  cases e : ma env st with
  | none => rw [e] at q; exact q
  | some r =>
    rw [e] at q
    cases r with
    | next env1 st1 => exact fun σ' H' W' l sl' ss' => ⟨W', env1, st1, sl', ss', tSr.le l q⟩
    | brk env1 st1 => exact q
    | cont env1 st1 => exact q
    | ret x st1 => exact q
    | exc x env1 st1 => exact q
theorem ms_one {ma : MS} (h1 : MSt X E s ma) : MSs X E [s] ma := pss_one h1
theorem ms_pass : MSt X E (.Pass pos) mSkip := by
  refine psW ps_pass fun D σ H q => ?_
  obtain ⟨W, env, st, sl, ss, q⟩ := q
  exact q σ H W (Le.refl _ _) sl ss
def mBrk : MS := fun env st => some (.brk env st)
def mCont : MS := fun env st => some (.cont env st)
theorem ms_break : MSt X E (.Break pos) mBrk := by
  refine psW ps_break fun D σ H q => ?_
  obtain ⟨W, env, st, sl, ss, q⟩ := q
  exact q σ H W (Le.refl _ _) sl ss
theorem ms_continue : MSt X E (.Continue pos) mCont := by
  refine psW ps_continue fun D σ H q => ?_
  obtain ⟨W, env, st, sl, ss, q⟩ := q
  exact q σ H W (Le.refl _ _) sl ss
def mDrop (m : M PV) : MS := m.bindS fun _ env st => some (.next env st)
theorem ms_expr {ma : M PV} (he : ME X E e ma) (hs : swapsWith e none pos.line X.env = pure false := by rfl) : MSt X E (.Expr e pos) (mDrop ma) := by
  refine psW (ps_expr he hs) fun D σ H q => ?_
  obtain ⟨W, env, st, sl, ss, q⟩ := q
  exact bindS_at sl ss q fun x u st1 W1 H1 l1 sl1 ss1 rx q1 => q1 σ H1 W1 (Le.refl _ _) sl1 ss1
def mRet (m : M PV) : MS := m.bindS fun x _ st => some (.ret x st)
theorem ms_ret {ma : M PV} (he : ME X E e ma) : MSt X E (.Return (some e) pos) (mRet ma) := by
  refine psW (ps_ret he) fun D σ H q => ?_
  obtain ⟨W, env, st, sl, ss, q⟩ := q
  exact bindS_at sl ss q fun x u st1 W1 H1 l1 sl1 ss1 rx q1 => q1 u H1 W1 (Le.refl _ _) ss1 rx
def mRetN : MS := fun _ st => some (.ret .non st)
theorem ms_retN : MSt X E (.Return none pos) mRetN := by
  refine psW ps_retN fun D σ H q => ?_
  obtain ⟨W, env, st, sl, ss, q⟩ := q
  exact q .non H W (Le.refl _ _) ss (show Rep _ _ _ _ _ by simp only [Rep])
def mIfS (c : M Bool) (a b : MS) : MS := c.bindS fun c => if c then a else b
theorem ms_if {c : Expr} {as bs : List Stmt} {mc : M Bool} {ma mb : MS} (hc : MT X E c mc) (ha : MSs X E as ma) (hb : MSs X E bs mb) : MSt X E (.If c as bs pos) (mIfS mc ma mb) := by
  refine psW (ps_if hc ha hb) fun D σ H q => ?_
  obtain ⟨W, env, st, sl, ss, q⟩ := q
  refine bindBS_at sl ss q fun x st1 W1 H1 l1 sl1 ss1 q1 => ?_
  cases x with
  | true => exact ⟨W1, env, st1, sl1, ss1, q1⟩
  | false => exact ⟨W1, env, st1, sl1, ss1, q1⟩
/-- x = e -/
def mSet (i : Nat) (m : M PV) : MS := m.bindS fun x env st => some (.next (env.set i (some x)) st)
theorem ms_set {i : Nat} {x : Str} {pos' : Pos} {m : M PV} (hN : X.N.Nodup) (hi : X.N[i]? = some x) (hx : Loc X.env.scope x) (he : ME X E e m) (hs : swapsWith e (some (.Name x pos')) pos.line X.env = pure false := by rfl)
    (hf : X.fn x = true ∨ X.env.scope.names.lookup x = some .local := by first | exact .inl rfl | exact .inr rfl | assumption) : MSt X E (.Assign [.Name x pos'] e pos) (mSet i m) := by
  refine psW (ps_set hN hi hx he hs hf) fun D σ H q => ?_
  obtain ⟨W, env, st, sl, ss, q⟩ := q
  exact bindS_at sl ss q fun x u st1 W1 H1 l1 sl1 ss1 rx q1 => q1 _ H1 W1 (Le.refl _ _) (sl1.set i rx) ss1
end

/-! ### a new changing object -/
section
variable {K : PySem.W.Frag} {W : Wd} {st : Sto} {H : Hp} {p : Addr}
def Wd.push (W : Wd) (p : Addr) : Wd := ⟨W.ρ ++ [p], W.hid⟩
theorem Fz_push_new (ss : SimS K W st H) (h : H p = none) (o : HO) : ∀ a o', Fz W H a = some o' → Fz (W.push p) (upd H p o) a = some o' := fun a o' e => by
  obtain ⟨h1, h2, h3⟩ := Fz_some.mp e
  have ne : a ≠ p := ne_of_none h3 h
  refine Fz_some.mpr ⟨?_, h2, by rw [upd_ne ne]; exact h3⟩
  show a ∉ W.ρ ++ [p]
  rw [List.mem_append, List.mem_singleton]
  rintro (q | q)
  · exact h1 q
  · exact ne q
theorem SimS.push (ss : SimS K W st H) (h : H p = none) {o : HO} {m : MO} (hm : ObR K (W.push p) (upd H p o) m p) : Le W H (W.push p) (upd H p o) ∧ SimS K (W.push p) (st ++ [m]) (upd H p o) := by
  have hF := Fz_push_new ss h o
  have hpre : W.ρ <+: (W.push p).ρ := ⟨[p], rfl⟩
  refine ⟨⟨hpre, fun _ h => h, hF, fun a ha => upd_ne fun e => ss.new_hid h (by rw [← e]; exact ha)⟩, ?_, ?_, ?_, fun a ha => ?_, fun i m' a e1 e2 => ?_⟩
  · show (W.ρ ++ [p]).length = (st ++ [m]).length
    simp [ss.len]
  · show (W.ρ ++ [p]).Nodup
    rw [List.nodup_append]
    refine ⟨ss.nd, by simp, fun a ha b hb => ?_⟩
    simp at hb
    subst hb
    exact fun e => ss.new_ρ h (by rw [← e]; exact ha)
  · intro a ha
    rw [show (W.push p).ρ = W.ρ ++ [p] from rfl, List.mem_append, List.mem_singleton] at ha
    rcases ha with ha | rfl
    · exact ss.dj a ha
    · exact ss.new_hid h
  · have ha' : a ∈ W.hid := ha
    rw [upd_ne fun e => ss.new_hid h (by rw [← e]; exact ha')]
    exact ss.hs a ha'
  · by_cases hi : i < st.length
    · rw [List.getElem?_append_left hi] at e1
      have hi2 : i < W.ρ.length := by rw [ss.len]; exact hi
      rw [show (W.push p).ρ = W.ρ ++ [p] from rfl, List.getElem?_append_left hi2] at e2
      exact (ss.ob i m' a e1 e2).mono hF hpre (upd_ne fun e => ss.new_ρ h (by rw [← e]; exact List.mem_of_getElem? e2))
    · rw [List.getElem?_append_right (by omega)] at e1
      rw [show (W.push p).ρ = W.ρ ++ [p] from rfl, List.getElem?_append_right (by rw [ss.len]; omega)] at e2
      have h1 : i - st.length = 0 := by
        by_cases q : i - st.length = 0
        · exact q
        · rw [List.getElem?_eq_none (by simp; omega)] at e1; cases e1
      rw [h1] at e1
      rw [show i - W.ρ.length = 0 by rw [ss.len]; exact h1] at e2
      simp at e1 e2
      subst e1 e2
      exact hm
theorem SimS.push_lst (ss : SimS K W st H) (h : H p = none) {xs : List PV} {us : List V} (r : RpL K W H xs us) (hz : xs.length ≤ sizeLine) :
    Le W H (W.push p) (upd H p (.lst us)) ∧ SimS K (W.push p) (st ++ [.lst xs]) (upd H p (.lst us)) :=
  ss.push h ⟨us, upd_same, RepL.mono (Fz_push_new ss h _) ⟨[p], rfl⟩ _ _ r, hz⟩
theorem rep_push (ss : SimS K W st H) {H' : Hp} : Rp K (W.push p) H' (.ref st.length) (.ref p) := by
  show Rep _ _ _ _ _
  simp only [Rep]
  refine ⟨p, rfl, ?_⟩
  show (W.ρ ++ [p])[st.length]? = some p
  rw [← ss.len]
  simp
end
section
variable {X : Cx} {E : EX} {pos : Pos} {e a b c : Expr} {es : List Expr} {s : Stmt} {ss' : List Stmt}
/-- x = a new list, that is changed later -/
def mSetA (i : Nat) (m : M (List PV)) : MS := m.bindS fun xs env st => some (.next (env.set i (some (.ref st.length))) (st ++ [.lst xs]))
theorem ms_setA {i : Nat} {x : Str} {pos' : Pos} {m : M (List PV)} (hN : X.N.Nodup) (hi : X.N[i]? = some x) (hx : Loc X.env.scope x) (he : MF X E e m) (hs : swapsWith e (some (.Name x pos')) pos.line X.env = pure false := by rfl)
    (hf : X.fn x = true ∨ X.env.scope.names.lookup x = some .local := by first | exact .inl rfl | exact .inr rfl | assumption) : MSt X E (.Assign [.Name x pos'] e pos) (mSetA i m) := by
  refine psW (ps_set hN hi hx he hs hf) fun D σ H q => ?_
  obtain ⟨W, env, st, sl, ss, q⟩ := q
  refine bindFS_at sl ss q fun xs p us st1 W1 H1 l1 sl1 ss1 rx hz hp q1 => ?_
  obtain ⟨l2, ss2⟩ := ss1.push_lst hp rx hz
  exact q1 _ _ (W1.push p) l2 ((sl1.le l2).set i (rep_push ss1)) ss2
end

/-! ### targets -/
inductive Tg where
  | nm (i : Nat) | tup (ts : List Tg)
mutual
def tgSet : Tg → PV → Sto → MEnv → Option MEnv
  | .nm i, x, _, env => some (env.set i (some x))
  | .tup ts, x, st, env => match x with
    | .tup xs => tgSets ts xs st env
    | _ => none
def tgSets : List Tg → List PV → Sto → MEnv → Option MEnv
  | [], [], _, env => some env
  | t :: ts, x :: xs, st, env => match tgSet t x st env with
    | some env1 => tgSets ts xs st env1
    | none => none
  | _, _, _, _ => none
end
mutual
def Tg.slots : Tg → List Nat
  | .nm i => [i]
  | .tup ts => Tg.slotsL ts
def Tg.slotsL : List Tg → List Nat
  | [] => []
  | t :: ts => t.slots ++ Tg.slotsL ts
end
def tTg (K : PySem.W.Frag) (t : Tg) : TG := fun v σ H Q => ∃ W env st x env', SlotR K W H env σ ∧ SimS K W st H ∧ Rp K W H x v ∧ tgSet t x st env = some env' ∧
  ∀ σ', SlotR K W H env' σ' → (∀ i, i ∉ t.slots → σ'[i]? = σ[i]?) → Q σ' H
def tTgs (K : PySem.W.Frag) (ts : List Tg) : TGs := fun vs σ H Q => ∃ W env st xs env', SlotR K W H env σ ∧ SimS K W st H ∧ RpL K W H xs vs ∧ tgSets ts xs st env = some env' ∧
  ∀ σ', SlotR K W H env' σ' → (∀ i, i ∉ Tg.slotsL ts → σ'[i]? = σ[i]?) → Q σ' H
abbrev MG (X : Cx) (e : Expr) (t : Tg) : Prop := PG X e (tTg X.K t)
abbrev MGs (X : Cx) (es : List Expr) (ts : List Tg) : Prop := PGs X es (tTgs X.K ts)
section
variable {X : Cx} {E : EX} {pos : Pos} {e a b c : Expr} {es : List Expr}
theorem mg_name {i : Nat} {x : Str} (hN : X.N.Nodup) (hi : X.N[i]? = some x) (hx : Loc X.env.scope x) (hf : X.fn x = true ∨ X.env.scope.names.lookup x = some .local := by first | exact .inl rfl | exact .inr rfl | assumption) : MG X (.Name x pos) (.nm i) := by
  refine pgW (pg_name hN hi hx hf) fun v σ H Q q => ?_
  obtain ⟨W, env, st, x, env', sl, ss, rx, e, q⟩ := q
  simp only [tgSet, Option.some.injEq] at e
  subst e
  refine q _ (sl.set i rx) fun j hj => ?_
  simp only [Tg.slots, List.mem_singleton] at hj
  exact List.getElem?_set_ne fun e => hj e.symm
theorem mgs_nil : MGs X [] [] := by
  refine pgsW pgs_nil fun vs σ H Q q => ?_
  obtain ⟨W, env, st, xs, env', sl, ss, rx, e, q⟩ := q
  cases xs with
  | nil =>
    simp only [RpL, RepL] at rx
    simp only [tgSets, Option.some.injEq] at e
    subst e
    exact ⟨rx, q σ sl fun _ _ => rfl⟩
  | cons x xs => simp [tgSets] at e
theorem mgs_cons {t : Tg} {ts : List Tg} (h1 : MG X e t) (h2 : MGs X es ts) (hs : (assignEach (e :: es) X.env).map (·.2) = assign e X.env :: (assignEach es X.env).map (·.2) := by rfl) : MGs X (e :: es) (t :: ts) := by
  refine pgsW (pgs_cons h1 h2 hs) fun vs σ H Q q => ?_
  obtain ⟨W, env, st, xs, env', sl, ss, rx, e, q⟩ := q
  cases xs with
  | nil => simp [tgSets] at e
  | cons x xs =>
    simp only [RpL, RepL] at rx
    obtain ⟨v, r, rfl, r1, r2⟩ := rx
    simp only [tgSets] at e
    cases e1 : tgSet t x st env with
    | none => rw [e1] at e; cases e
    | some env1 =>
      rw [e1] at e
      refine ⟨v, r, rfl, W, env, st, x, env1, sl, ss, r1, e1, fun σ' sl' hk => ?_⟩
      refine ⟨W, env1, st, xs, env', sl', ss, r2, e, fun σ'' sl'' hk' => q σ'' sl'' fun i hi => ?_⟩
      simp only [Tg.slotsL, List.mem_append, not_or] at hi
      exact (hk' i hi.2).trans (hk i hi.1)
theorem mg_tup {ts : List Tg} {k n : Nat} (hc : X.calm = true) (h : MGs X es ts) (hl : ts.length = n := by rfl)
    (hn : (assignEach es X.env).length = n := by rfl) (hst : (assignEach es X.env).findIdx? (·.1) = none := by rfl) : MG X (.Tuple es k pos) (.tup ts) := by
  refine pgW (pg_tup hc h hn hst) fun v σ H Q q => ?_
  obtain ⟨W, env, st, x, env', sl, ss, rx, e, q⟩ := q
  cases x with
  | tup xs =>
    simp only [Rp, Rep] at rx
    obtain ⟨a, vs, rfl, h1, h2, hz⟩ := rx
    simp only [tgSet] at e
    have hlen : ∀ (ts : List Tg) (xs : List PV) (env env' : MEnv), tgSets ts xs st env = some env' → xs.length = ts.length := by
      intro ts
      induction ts with
      | nil => intro xs env env' e; cases xs with
        | nil => rfl
        | cons _ _ => simp [tgSets] at e
      | cons t ts ih => intro xs env env' e; cases xs with
        | nil => simp [tgSets] at e
        | cons x xs =>
          simp only [tgSets] at e
          cases e1 : tgSet t x st env with
          | none => rw [e1] at e; cases e
          | some env1 => rw [e1] at e; simp [ih xs env1 env' e]
    refine ⟨a, vs, rfl, SqT.mono (fun a o h => Fz_le h) h1, ?_, W, env, st, xs, env', sl, ss, h2, e, fun σ' sl' hk => q σ' sl' hk⟩
    rw [h2.len, hlen _ _ _ _ e, hl]
  | _ => simp [tgSet] at e
/-- target = e, by a plain target of the Assign -/
def mAsg (t : Tg) (m : M PV) : MS := m.bindS fun x env st => (tgSet t x st env).map fun env' => .next env' st
theorem ms_asg {tg : Expr} {t : Tg} {m : M PV} (he : ME X E e m) (hg : MG X tg t) (hs : swapsWithSole [tg] e pos.line X.env = pure false := by rfl) (hw : swappedStores [tg] e X.env = pure none := by rfl)
    (h1 : (assignEach [tg] X.env).map (·.2) = [assign tg X.env] := by rfl) : MSt X E (.Assign [tg] e pos) (mAsg t m) := by
  refine psW (ps_asg he hg hs hw h1) fun D σ H q => ?_
  obtain ⟨W, env, st, sl, ss, q⟩ := q
  refine bindS_at sl ss q fun x u st1 W1 H1 l1 sl1 ss1 rx q1 => ?_
  cases e : tgSet t x st1 env with
  | none => rw [e] at q1; exact q1.elim
  | some env' =>
    rw [e] at q1
    exact ⟨W1, env, st1, x, env', sl1, ss1, rx, e, fun σ' sl' _ => q1 σ' H1 W1 (Le.refl _ _) sl' ss1⟩
/-- a, b = x, y -/
def mPar (i j : Nat) (m : M (List PV)) : MS := m.bindS fun xs env st => match xs with
  | [x, y] => some (.next ((env.set i (some x)).set j (some y)) st)
  | _ => none
theorem ms_par {i j : Nat} {x y : Str} {m : M (List PV)} {px py pt : Pos} {kt k2 pt2} (hc : X.calm = true) (hN : X.N.Nodup) (hi : X.N[i]? = some x) (hj : X.N[j]? = some y) (hij : i ≠ j)
    (hx : X.env.scope.names.lookup x = some .local) (hy : X.env.scope.names.lookup y = some .local) (ha : MA X E [a, b] m)
    (hw : swappedStores [.Tuple [.Name x px, .Name y py] kt pt] (.Tuple [a, b] k2 pt2) X.env = pure (some [x, y]))
    (hs : swapsWithSole [.Tuple [.Name x px, .Name y py] kt pt] (.Tuple [a, b] k2 pt2) pos.line X.env = pure false := by rfl) :
    MSt X E (.Assign [.Tuple [.Name x px, .Name y py] kt pt] (.Tuple [a, b] k2 pt2) pos) (mPar i j m) := by
  refine psW (ps_par hc hN hi hj hij hx hy ha hw hs) fun D σ H q => ?_
  obtain ⟨W, env, st, sl, ss, q⟩ := q
  refine bindLS_at sl ss q fun xs us st1 W1 H1 l1 sl1 ss1 rx q1 => ?_
  split at q1
  · simp only [RpL, RepL] at rx
    obtain ⟨v, r, rfl, r1, w, r', rfl, r2, rfl⟩ := rx
    exact ⟨v, w, rfl, q1 _ H1 W1 (Le.refl _ _) ((sl1.set i r1).set j r2) ss1⟩
  · exact q1.elim
end
end Mi

/-! Mi4: what is walked, for, list comprehensions. -/
namespace Mi
open PySem PySem.Spec PyProof.Rows L2

/-- what a loop walks: its items; src: the changing list that holds them -/
structure MIt where
  items : List PV
  src : Option Nat
def MIt.chk (it : MIt) (st : Sto) : Prop := match it.src with
  | none => True
  | some r => st[r]? = some (.lst it.items)
structure ItOk (K : PySem.W.Frag) (W : Wd) (H : Hp) (J : It) (it : MIt) : Prop where
  sz : it.items.length ≤ sizeLine
  go : ∀ i, i < it.items.length → ∀ W' H' st', Le W H W' H' → SimS K W' st' H' → it.chk st' → J.go i H'
  yl : ∀ i x, it.items[i]? = some x → ∀ W' H' st' v H'', Le W H W' H' → SimS K W' st' H' → it.chk st' → J.yld i H' v H'' → Le W' H' W' H'' ∧ SimS K W' st' H'' ∧ Rp K W' H'' x v
  stp : ∀ W' H' st', Le W H W' H' → SimS K W' st' H' → it.chk st' → J.stop it.items.length H'
def tMIr (K : PySem.W.Frag) (E : XK) (W : Wd) (H : Hp) (R : It → Hp → Prop) : Option (Res MIt) → Prop
  | none => False
  | some (.ok it st) => ∀ J H' W', Le W H W' H' → SimS K W' st H' → ItOk K W' H' J it → R J H'
  | some (.exc x st) => ∀ cls d H' W', Le W H W' H' → SimS K W' st H' → RepX K W' H' x cls d → E cls d H'
theorem tMIr.le {K : PySem.W.Frag} {E : XK} {W W1 : Wd} {H H1 : Hp} {R : It → Hp → Prop} {r : Option (Res MIt)} (l : Le W H W1 H1) (h : tMIr K E W H R r) : tMIr K E W1 H1 R r := by
  cases r with
  | none => exact h
  | some r =>
    cases r with
    | ok x st => exact fun J H' W' l' => h J H' W' (l.trans l')
    | exc x st => exact fun c d H' W' l' => h c d H' W' (l.trans l')
def tMI (K : PySem.W.Frag) (E : EX) (m : M MIt) : TI := fun σ H R => ∃ W env st, SlotR K W H env σ ∧ SimS K W st H ∧ tMIr K (E σ) W H R (m env st)
abbrev MI (X : Cx) (E : EX) (tg e : Expr) (m : M MIt) : Prop := PI X tg e (tMI X.K E m)
theorem bindI_at {K : PySem.W.Frag} {E : EX} {W : Wd} {env : MEnv} {st : Sto} {σ : L2.St} {H : Hp} {Q : It → Hp → Prop} {ma : M PV} {f : PV → M MIt} {R : VK} (sl : SlotR K W H env σ) (ss : SimS K W st H) (h : tMIr K (E σ) W H Q (M.bind ma f env st))
    (k : ∀ x u st1 W1 H1, Le W H W1 H1 → SlotR K W1 H1 env σ → SimS K W1 st1 H1 → Rp K W1 H1 x u → tMIr K (E σ) W1 H1 Q (f x env st1) → R u H1) : tM K E ma σ H R := by
  refine ⟨W, env, st, sl, ss, ?_⟩
  unfold M.bind at h
  cases e : ma env st with
  | none => rw [e] at h; exact h
  | some r =>
    rw [e] at h
    cases r with
    | ok x st1 => exact fun u H1 W1 l ss1 rp => k x u st1 W1 H1 l (sl.le l) ss1 rp (h.le l)
    | exc x st1 => exact h
theorem bindIL_at {K : PySem.W.Frag} {E : EX} {W : Wd} {env : MEnv} {st : Sto} {σ : L2.St} {H : Hp} {Q : It → Hp → Prop} {ma : M (List PV)} {f : List PV → M MIt} {R : List V → Hp → Prop} (sl : SlotR K W H env σ) (ss : SimS K W st H) (h : tMIr K (E σ) W H Q (M.bind ma f env st))
    (k : ∀ x u st1 W1 H1, Le W H W1 H1 → SlotR K W1 H1 env σ → SimS K W1 st1 H1 → RpL K W1 H1 x u → tMIr K (E σ) W1 H1 Q (f x env st1) → R u H1) : tML K E ma σ H R := by
  refine ⟨W, env, st, sl, ss, ?_⟩
  unfold M.bind at h
  cases e : ma env st with
  | none => rw [e] at h; exact h
  | some r =>
    rw [e] at h
    cases r with
    | ok x st1 => exact fun u H1 W1 l ss1 rp => k x u st1 W1 H1 l (sl.le l) ss1 rp (h.le l)
    | exc x st1 => exact h

/-! ### lists, tuples, texts -/
def signs (z : Str) : List PV := z.cps.toList.map fun c => .str ⟨#[c]⟩
def mItOf (x : PV) (st : Sto) : Option MIt := match x with
  | .lst xs => some ⟨xs, none⟩
  | .rol xs => some ⟨xs, none⟩
  | .tup xs => some ⟨xs, none⟩
  | .str z => some ⟨signs z, none⟩
  | .ref r => match st[r]? with
    | some (.lst xs) => some ⟨xs, some r⟩
    | _ => none
  | _ => none
def mIt (m : M PV) : M MIt := m.bind fun x => fun _ st => (mItOf x st).map fun it => .ok it st
theorem itl_ok {K : PySem.W.Frag} {W : Wd} {H : Hp} {st : Sto} {a : Addr} {it : MIt} (hz : it.items.length ≤ sizeLine)
    (h : ∀ W' H' st', Le W H W' H' → SimS K W' st' H' → it.chk st' → ∃ vs, SqL K H' a vs ∧ RpL K W' H' it.items vs) : ItOk K W H (Itl K a) it where
  sz := hz
  go := fun i hi W' H' st' l ss hc => by
    obtain ⟨vs, h1, h2⟩ := h W' H' st' l ss hc
    obtain ⟨v, h3, _⟩ := RepL.get h2 (List.getElem?_eq_getElem hi)
    exact ⟨vs, v, h1, h3⟩
  yl := fun i x hx W' H' st' v H'' l ss hc y => by
    obtain ⟨vs, h1, h2⟩ := h W' H' st' l ss hc
    obtain ⟨v', h3, h4⟩ := RepL.get h2 hx
    obtain ⟨e, y⟩ := y
    subst e
    have e2 := y vs h1
    rw [h3] at e2
    cases e2
    exact ⟨Le.refl _ _, ss, h4⟩
  stp := fun W' H' st' l ss hc => by
    obtain ⟨vs, h1, h2⟩ := h W' H' st' l ss hc
    exact ⟨vs, h1, by rw [h2.len]; exact Nat.le_refl _⟩
theorem itt_ok {K : PySem.W.Frag} {W : Wd} {H : Hp} {st : Sto} {a : Addr} {it : MIt} (hz : it.items.length ≤ sizeLine)
    (h : ∀ W' H' st', Le W H W' H' → SimS K W' st' H' → it.chk st' → ∃ vs, SqT K H' a vs ∧ RpL K W' H' it.items vs) : ItOk K W H (Itt K a) it where
  sz := hz
  go := fun i hi W' H' st' l ss hc => by
    obtain ⟨vs, h1, h2⟩ := h W' H' st' l ss hc
    obtain ⟨v, h3, _⟩ := RepL.get h2 (List.getElem?_eq_getElem hi)
    exact ⟨vs, v, h1, h3⟩
  yl := fun i x hx W' H' st' v H'' l ss hc y => by
    obtain ⟨vs, h1, h2⟩ := h W' H' st' l ss hc
    obtain ⟨v', h3, h4⟩ := RepL.get h2 hx
    obtain ⟨e, y⟩ := y
    subst e
    have e2 := y vs h1
    rw [h3] at e2
    cases e2
    exact ⟨Le.refl _ _, ss, h4⟩
  stp := fun W' H' st' l ss hc => by
    obtain ⟨vs, h1, h2⟩ := h W' H' st' l ss hc
    exact ⟨vs, h1, by rw [h2.len]; exact Nat.le_refl _⟩
theorem signs_len (z : Str) : (signs z).length = z.cps.size := by unfold signs; simp
theorem one_short : (1 : Nat) ≤ sizeLine := by decide
theorem its_ok {K : PySem.W.Frag} {W : Wd} {H : Hp} {z : Str} (hz : z.length ≤ sizeLine) : ItOk K W H (Its z) ⟨signs z, none⟩ where
  sz := by show (signs z).length ≤ _; rw [signs_len]; exact hz
  go := fun i hi W' H' st' l ss hc => by
    have hi' : i < (signs z).length := hi
    rw [signs_len] at hi'
    exact hi'
  yl := fun i x hx W' H' st' v H'' l ss hc y => by
    obtain ⟨e, c, y, ev⟩ := y
    subst e ev
    refine ⟨Le.refl _ _, ss, ?_⟩
    have hx' : (signs z)[i]? = some x := hx
    unfold signs at hx'
    rw [List.getElem?_map, Array.getElem?_toList, y] at hx'
    simp at hx'
    subst hx'
    show Rep _ _ _ _ _
    simp only [Rep, true_and]
    exact one_short
  stp := fun W' H' st' l ss hc => by
    show z.cps.size ≤ (signs z).length
    rw [signs_len]
    exact Nat.le_refl _
theorem m_it {X : Cx} {E : EX} {tg e : Expr} {m : M PV} (h : ME X E e m) : MI X E tg e (mIt m) := by
  constructor
  intro pins s σ H R I q
  obtain ⟨W, env, st, sl, ss, q⟩ := q
  unfold mIt M.bind at q
  cases em : m env st with
  | none => rw [em] at q; exact q.elim
  | some r =>
    rw [em] at q
    cases r with
    | exc x st1 => exact (pi_list h).run pins s σ H R I ⟨W, env, st, sl, ss, by rw [em]; exact q⟩
    | ok x st1 =>
      cases ei : mItOf x st1 with
      | none =>
        have q' : tMIr X.K (E σ) W H R ((mItOf x st1).map fun it => .ok it st1) := q
        rw [ei] at q'
        exact q'.elim
      | some it =>
        have q' : tMIr X.K (E σ) W H R ((mItOf x st1).map fun it => .ok it st1) := q
        rw [ei] at q'
        have q1 : ∀ J H' W', Le W H W' H' → SimS X.K W' st1 H' → ItOk X.K W' H' J it → R J H' := q'
        cases x with
        | lst xs =>
          simp only [mItOf, Option.some.injEq] at ei
          subst ei
          refine (pi_list h).run pins s σ H R I ⟨W, env, st, sl, ss, ?_⟩
          rw [em]
          intro u H1 W1 l1 ss1 rx
          obtain ⟨a, vs, rfl, h1, h2, hz⟩ : ∃ a vs, u = .ref a ∧ Fz W1 H1 a = some (.lst vs) ∧ RepL X.K (Fz W1 H1) W1.ρ xs vs ∧ xs.length ≤ sizeLine := by simpa only [Rp, Rep] using rx
          refine ⟨a, rfl, ⟨vs, .inl (.inl (Fz_le h1))⟩, q1 _ H1 W1 l1 ss1 (itl_ok (st := st1) hz fun W' H' st' l s _ => ?_)⟩
          exact ⟨vs, .inl (.inl (Fz_le (l.fz _ _ h1))), RepL.mono l.fz l.pre _ _ h2⟩
        | rol xs =>
          simp only [mItOf, Option.some.injEq] at ei
          subst ei
          refine (pi_list h).run pins s σ H R I ⟨W, env, st, sl, ss, ?_⟩
          rw [em]
          intro u H1 W1 l1 ss1 rx
          obtain ⟨a, vs, rfl, h1, h2, hz⟩ : ∃ a vs, u = .ref a ∧ SqL X.K (Fz W1 H1) a vs ∧ RepL X.K (Fz W1 H1) W1.ρ xs vs ∧ xs.length ≤ sizeLine := by simpa only [Rp, Rep] using rx
          refine ⟨a, rfl, ⟨vs, SqL.mono (fun _ _ h => Fz_le h) h1⟩, q1 _ H1 W1 l1 ss1 (itl_ok (st := st1) hz fun W' H' st' l s _ => ?_)⟩
          exact ⟨vs, SqL.mono (fun _ _ h => Fz_le (l.fz _ _ h)) h1, RepL.mono l.fz l.pre _ _ h2⟩
        | tup xs =>
          simp only [mItOf, Option.some.injEq] at ei
          subst ei
          refine (pi_tup h).run pins s σ H R I ⟨W, env, st, sl, ss, ?_⟩
          rw [em]
          intro u H1 W1 l1 ss1 rx
          obtain ⟨a, vs, rfl, h1, h2, hz⟩ : ∃ a vs, u = .ref a ∧ SqT X.K (Fz W1 H1) a vs ∧ RepL X.K (Fz W1 H1) W1.ρ xs vs ∧ xs.length ≤ sizeLine := by simpa only [Rp, Rep] using rx
          refine ⟨a, rfl, ⟨vs, SqT.mono (fun _ _ h => Fz_le h) h1⟩, q1 _ H1 W1 l1 ss1 (itt_ok (st := st1) hz fun W' H' st' l s _ => ?_)⟩
          exact ⟨vs, SqT.mono (fun _ _ h => Fz_le (l.fz _ _ h)) h1, RepL.mono l.fz l.pre _ _ h2⟩
        | str z =>
          simp only [mItOf, Option.some.injEq] at ei
          subst ei
          refine (pi_str h).run pins s σ H R I ⟨W, env, st, sl, ss, ?_⟩
          rw [em]
          intro u H1 W1 l1 ss1 rx
          obtain ⟨rfl, hz⟩ : u = .str z ∧ z.length ≤ sizeLine := by simpa only [Rp, Rep] using rx
          exact ⟨z, rfl, q1 _ H1 W1 l1 ss1 (its_ok hz)⟩
        | ref r =>
          simp only [mItOf] at ei
          split at ei
          · rename_i xs es
            cases ei
            refine (pi_list h).run pins s σ H R I ⟨W, env, st, sl, ss, ?_⟩
            rw [em]
            intro u H1 W1 l1 ss1 rx
            obtain ⟨a, rfl, ha⟩ : ∃ a, u = .ref a ∧ W1.ρ[r]? = some a := by simpa only [Rp, Rep] using rx
            obtain ⟨vs, h1, h2, hz⟩ := ss1.ob r _ a es ha
            refine ⟨a, rfl, ⟨vs, .inl (.inl h1)⟩, q1 _ H1 W1 l1 ss1 (itl_ok (st := st1) hz fun W' H' st' l s hc => ?_)⟩
            obtain ⟨vs', h3, h4, _⟩ := s.ob r _ a hc (pre_get l.pre ha)
            exact ⟨vs', .inl (.inl h3), h4⟩
          · cases ei
        | _ => simp [mItOf] at ei
/-- range(n), range(a, b) -/
def intsF (lo : Int) (n : Nat) : List PV := (List.range n).map fun (k : Nat) => PV.int (lo + (k : Int))
theorem intsF_len (lo : Int) (n : Nat) : (intsF lo n).length = n := by unfold intsF; simp
def mRange1 (m : M (List PV)) : M MIt := m.bind fun xs => fun _ st => match xs with
  | [.int j] => if -(2 ^ 62) ≤ j ∧ j ≤ (sizeLine : Nat) then some (.ok ⟨intsF 0 j.toNat, none⟩ st) else none
  | _ => none
def mRange2 (m : M (List PV)) : M MIt := m.bind fun xs => fun _ st => match xs with
  | [.int i, .int j] => if -(2 ^ 62) ≤ i ∧ i < 2 ^ 62 ∧ -(2 ^ 62) ≤ j ∧ j < 2 ^ 62 ∧ (j - i).toNat ≤ sizeLine then some (.ok ⟨intsF i (j - i).toNat, none⟩ st) else none
  | _ => none
theorem itr_ok {K : PySem.W.Frag} {W : Wd} {H : Hp} {lo : Int} {n : Nat} (hz : n ≤ sizeLine) : ItOk K W H (Itr lo n) ⟨intsF lo n, none⟩ where
  sz := by show (intsF lo n).length ≤ _; rw [intsF_len]; exact hz
  go := fun i hi W' H' st' l ss hc => by
    have hi' : i < (intsF lo n).length := hi
    rw [intsF_len] at hi'
    exact hi'
  yl := fun i x hx W' H' st' v H'' l ss hc y => by
    obtain ⟨e, ev⟩ := y
    subst e ev
    refine ⟨Le.refl _ _, ss, ?_⟩
    have hx' : (intsF lo n)[i]? = some x := hx
    unfold intsF at hx'
    rw [List.getElem?_map] at hx'
    by_cases hi : i < n
    · rw [List.getElem?_range hi] at hx'
      simp at hx'
      subst hx'
      show Rep _ _ _ _ _
      simp only [Rep]
    · rw [List.getElem?_eq_none (by simpa using hi)] at hx'
      simp at hx'
  stp := fun W' H' st' l ss hc => by
    show n ≤ (intsF lo n).length
    rw [intsF_len]
    exact Nat.le_refl _
theorem size62 : ((sizeLine : Nat) : Int) < 2 ^ 62 := by rw [sizeLine_eq]; decide
theorem m_range1 {X : Cx} {E : EX} {tg a : Expr} {m : M (List PV)} {p pos : Pos} (hg : Gl X "range") (hm : X.mg "range" = none) (ha : MA X E [a] m) (hs : starEach [a] X.env = [(false, eval a X.env)] := by rfl) : MI X E tg (.Call (.Name "range" p) [a] [] pos) (mRange1 m) := by
  refine piW (pi_range1 hg hm ha hs) fun σ H R q => ?_
  obtain ⟨W, env, st, sl, ss, q⟩ := q
  refine bindIL_at sl ss q fun x u st1 W1 H1 l1 sl1 ss1 rx q1 => ?_
  split at q1
  · rename_i j
    split at q1
    · rename_i hb
      simp only [RpL, RepL, Rep] at rx
      obtain ⟨v, r, rfl, rfl, rfl⟩ := rx
      have h62 := size62
      refine ⟨j, rfl, hb.1, by omega, q1 _ H1 W1 (Le.refl _ _) ss1 (itr_ok ?_)⟩
      have h2 := hb.2
      omega
    · exact q1.elim
  · exact q1.elim
theorem m_range2 {X : Cx} {E : EX} {tg a b : Expr} {m : M (List PV)} {p pos : Pos} (hg : Gl X "range") (hm : X.mg "range" = none) (ha : MA X E [a, b] m) (hs : starEach [a, b] X.env = [(false, eval a X.env), (false, eval b X.env)] := by rfl) (hs2 : starEach [b] X.env = [(false, eval b X.env)] := by rfl) :
    MI X E tg (.Call (.Name "range" p) [a, b] [] pos) (mRange2 m) := by
  refine piW (pi_range2 hg hm ha hs hs2) fun σ H R q => ?_
  obtain ⟨W, env, st, sl, ss, q⟩ := q
  refine bindIL_at sl ss q fun x u st1 W1 H1 l1 sl1 ss1 rx q1 => ?_
  split at q1
  · rename_i i j
    split at q1
    · rename_i hb
      simp only [RpL, RepL, Rep] at rx
      obtain ⟨v, r, rfl, rfl, v2, r2, rfl, rfl, rfl⟩ := rx
      exact ⟨i, j, rfl, ⟨hb.1, hb.2.1, hb.2.2.1, hb.2.2.2.1⟩, q1 _ H1 W1 (Le.refl _ _) ss1 (itr_ok hb.2.2.2.2)⟩
    · exact q1.elim
  · exact q1.elim

/-! ### for -/
open Classical in
noncomputable def forL (tg : Tg) (it : MIt) (body : MS) : List PV → MS
  | [], env, st => if it.chk st then some (.next env st) else none
  | x :: xs, env, st => if it.chk st then
      (match tgSet tg x st env with
      | none => none
      | some env1 => match body env1 st with
        | some (.next e s) => forL tg it body xs e s
        | some (.cont e s) => forL tg it body xs e s
        | some (.brk e s) => some (.next e s)
        | r => r)
    else none
noncomputable def mFor (tg : Tg) (mi : M MIt) (body : MS) : MS := mi.bindS fun it => forL tg it body it.items
theorem bindIS_at {K : PySem.W.Frag} {E : EX} {W : Wd} {env : MEnv} {st : Sto} {σ : L2.St} {H : Hp} {D : Ends} {ma : M MIt} {f : MIt → MS} {R : It → Hp → Prop} (sl : SlotR K W H env σ) (ss : SimS K W st H) (h : tSr K E W H D (M.bindS ma f env st))
    (k : ∀ J it st1 W1 H1, Le W H W1 H1 → SlotR K W1 H1 env σ → SimS K W1 st1 H1 → ItOk K W1 H1 J it → tSr K E W1 H1 D (f it env st1) → R J H1) : tMI K E ma σ H R := by
  refine ⟨W, env, st, sl, ss, ?_⟩
  unfold M.bindS at h
  cases e : ma env st with
  | none => rw [e] at h; exact h
  | some r =>
    rw [e] at h
    cases r with
    | ok x st1 => exact fun J H1 W1 l ss1 io => k J x st1 W1 H1 l (sl.le l) ss1 io (h.le l)
    | exc x st1 => exact fun c d H' W' l s rx => h σ c d H' W' l (sl.le l) s rx
theorem drop_cons {α : Type} {l : List α} {i : Nat} (h : i < l.length) : l.drop i = l[i] :: l.drop (i + 1) := by
  rw [List.drop_eq_getElem_cons h]
theorem ms_for {X : Cx} {E : EX} {tg iter : Expr} {body : List Stmt} {t : Tg} {mi : M MIt} {mb : MS} {pos : Pos} (hp : PassesOwn (model X.prog X.w) X.A X.env X.xe) (hc : X.calm = true) (hi : MI X E tg iter mi) (hg : MG X tg t) (hb : MSs X E body mb)
    (hs : ∀ x, foldedSetIterable iter X.env x = pure x := by intro _; rfl) : MSt X E (.For tg iter body [] pos) (mFor t mi mb) := by
  refine psW (ps_for hp hc hi hg hb hs) fun D σ H q => ?_
  obtain ⟨W, env, st, sl, ss, q⟩ := q
  refine bindIS_at sl ss q fun J it st1 W1 H1 l1 sl1 ss1 io q1 => ?_
  let Wv : Nat → Nat → L2.St → Hp → Prop := fun i m σ' H' => ∃ W' env' st', Le W1 H1 W' H' ∧ SlotR X.K W' H' env' σ' ∧ SimS X.K W' st' H' ∧ i ≤ it.items.length ∧ m = it.items.length - i ∧ tSr X.K E W' H' D (forL t it mb (it.items.drop i) env' st')
  refine ⟨Wv, ⟨it.items.length, W1, env, st1, Le.refl _ _, sl1, ss1, Nat.zero_le _, by simp, by simpa using q1⟩, ?_⟩
  rintro i m σ' H' ⟨W', env', st', l', sl', ss', hil, hm, q'⟩
  by_cases hlt : i < it.items.length
  · rw [drop_cons hlt] at q'
    unfold forL at q'
    by_cases hck : it.chk st'
    · rw [if_pos hck] at q'
      refine .inr ⟨io.go i hlt W' H' st' l' ss' hck, fun σ'' H'' => ∃ m', m' < m ∧ Wv (i + 1) m' σ'' H'', fun σ'' H'' h => h, fun v H'' y => ?_⟩
      obtain ⟨l2, ss2, rx⟩ := io.yl i _ (List.getElem?_eq_getElem hlt) W' H' st' v H'' l' ss' hck y
      cases et : tgSet t it.items[i] st' env' with
      | none => rw [et] at q'; exact q'.elim
      | some env1 =>
        rw [et] at q'
        refine ⟨W', env', st', _, env1, sl'.le l2, ss2, rx, et, fun σ2 sl2 _ => ?_⟩
        refine ⟨W', env1, st', sl2, ss2, ?_⟩
        have q2 : tSr X.K E W' H'' D (match mb env1 st' with
          | some (.next e s) => forL t it mb (it.items.drop (i + 1)) e s
          | some (.cont e s) => forL t it mb (it.items.drop (i + 1)) e s
          | some (.brk e s) => some (.next e s)
          | r => r) := tSr.le l2 q'
        have again : ∀ {e s}, tSr X.K E W' H'' D (forL t it mb (it.items.drop (i + 1)) e s) → ∀ σ3 H3 W3, Le W' H'' W3 H3 → SlotR X.K W3 H3 e σ3 → SimS X.K W3 s H3 → ∃ m', m' < m ∧ Wv (i + 1) m' σ3 H3 := fun {e s} q3 σ3 H3 W3 l3 sl3 ss3 =>
          ⟨it.items.length - (i + 1), by omega, W3, e, s, l'.trans (l2.trans l3), sl3, ss3, hlt, rfl, tSr.le l3 q3⟩
        cases eb : mb env1 st' with
        | none => rw [eb] at q2; exact q2
        | some r =>
          rw [eb] at q2
          cases r with
          | next e s => exact again q2
          | cont e s => exact again q2
          | brk e s => exact q2
          | ret x s => exact q2
          | exc x e s => exact q2
    · rw [if_neg hck] at q'
      exact q'.elim
  · have e : i = it.items.length := by omega
    subst e
    rw [List.drop_length] at q'
    unfold forL at q'
    by_cases hck : it.chk st'
    · rw [if_pos hck] at q'
      exact .inl ⟨io.stp W' H' st' l' ss' hck, q' σ' H' W' (Le.refl _ _) sl' ss'⟩
    · rw [if_neg hck] at q'
      exact q'.elim

/-! ### list comprehensions -/
def wipeM (env : MEnv) : List Nat → MEnv
  | [] => env
  | v :: vs => (wipeM env vs).set v none
theorem wipeM_len (env : MEnv) : ∀ vs, (wipeM env vs).length = env.length
  | [] => rfl
  | v :: vs => by unfold wipeM; rw [List.length_set, wipeM_len env vs]
theorem wipe_at (σ : L2.St) : ∀ (vs : List Nat) (i : Nat), (wipe σ vs)[i]? = if i ∈ vs then (if i < σ.length then some none else none) else σ[i]?
  | [], i => by simp [wipe]
  | v :: vs, i => by
    unfold wipe
    rw [List.getElem?_set, wipe_length]
    by_cases h : v = i
    · subst h; simp
    · rw [if_neg h, wipe_at σ vs i]
      have : i ≠ v := fun e => h e.symm
      simp [this]
theorem wipeM_at (σ : MEnv) : ∀ (vs : List Nat) (i : Nat), (wipeM σ vs)[i]? = if i ∈ vs then (if i < σ.length then some none else none) else σ[i]?
  | [], i => by simp [wipeM]
  | v :: vs, i => by
    unfold wipeM
    rw [List.getElem?_set, wipeM_len]
    by_cases h : v = i
    · subst h; simp
    · rw [if_neg h, wipeM_at σ vs i]
      have : i ≠ v := fun e => h e.symm
      simp [this]
theorem SlotR.wipe {K : PySem.W.Frag} {W : Wd} {H : Hp} {env : MEnv} {σ : L2.St} (h : SlotR K W H env σ) (vs : List Nat) : SlotR K W H (wipeM env vs) (wipe σ vs) := by
  refine ⟨by rw [wipeM_len, wipe_length, h.len], fun i x e => ?_⟩
  rw [wipeM_at] at e
  rw [wipe_at]
  by_cases hi : i ∈ vs
  · rw [if_pos hi] at e
    split at e <;> simp at e
  · rw [if_neg hi] at e ⊢
    exact h.get i x e
theorem wipe_eq {σ σ' : L2.St} {vs : List Nat} (hl : σ'.length = σ.length) (h : ∀ i, i ∉ vs → σ'[i]? = σ[i]?) : wipe σ' vs = wipe σ vs := by
  apply List.ext_getElem?
  intro i
  rw [wipe_at, wipe_at, hl]
  by_cases hi : i ∈ vs
  · rw [if_pos hi, if_pos hi]
  · rw [if_neg hi, if_neg hi, h i hi]
mutual
theorem tgSet_len : ∀ (t : Tg) (x : PV) (st : Sto) (env env' : MEnv), tgSet t x st env = some env' → env'.length = env.length
  | .nm i, x, st, env, env', h => by
    simp only [tgSet, Option.some.injEq] at h
    subst h; simp
  | .tup ts, x, st, env, env', h => by
    cases x with
    | tup xs => simp only [tgSet] at h; exact tgSets_len ts xs st env env' h
    | _ => simp [tgSet] at h
theorem tgSets_len : ∀ (ts : List Tg) (xs : List PV) (st : Sto) (env env' : MEnv), tgSets ts xs st env = some env' → env'.length = env.length
  | [], [], st, env, env', h => by
    simp only [tgSets, Option.some.injEq] at h
    subst h; rfl
  | t :: ts, x :: xs, st, env, env', h => by
    simp only [tgSets] at h
    cases e : tgSet t x st env with
    | none => rw [e] at h; cases h
    | some env1 =>
      rw [e] at h
      rw [tgSets_len ts xs st env1 env' h, tgSet_len t x st env env1 e]
  | [], _ :: _, st, env, env', h => by simp [tgSets] at h
  | _ :: _, [], st, env, env', h => by simp [tgSets] at h
end
def mYes : M Bool := M.pure true
abbrev E00 : EX := fun _ _ _ _ => False
abbrev MTs (X : Cx) (E : EX) (ifs : List Expr) (m : M Bool) : Prop := PTs X ifs (tMB X.K E m)
theorem mts_nil {X : Cx} {E : EX} : MTs X E [] mYes := ⟨fun pins s σ H Q I h => by
  obtain ⟨W, env, st, sl, ss, q⟩ := h
  exact pts_nil.run pins s σ H Q I (q H W (Le.refl _ _) ss)⟩
theorem mts_one {X : Cx} {E : EX} {c : Expr} {m : M Bool} (h : MT X E c m) : MTs X E [c] m := pts_one h
open Classical in
noncomputable def compL (tg : Tg) (it : MIt) (c : M Bool) (el : M PV) : List PV → MEnv → Sto → Option (List PV × Sto)
  | [], _, st => if it.chk st then some ([], st) else none
  | x :: xs, env, st => if it.chk st then
      (match tgSet tg x st env with
      | none => none
      | some env1 => match c env1 st with
        | some (.ok true st1) => match el env1 st1 with
          | some (.ok y st2) => (compL tg it c el xs env st2).map fun r => (y :: r.1, r.2)
          | _ => none
        | some (.ok false st1) => compL tg it c el xs env st1
        | _ => none)
    else none
noncomputable def mLc (tg : Tg) (mi : M MIt) (vs : List Nat) (c : M Bool) (el : M PV) : M (List PV) := mi.bind fun it env st => (compL tg it c el it.items (wipeM env vs) st).map fun r => .ok r.1 r.2
theorem bindIF_at {K : PySem.W.Frag} {E : EX} {W : Wd} {env : MEnv} {st : Sto} {σ : L2.St} {H : Hp} {Q : VK} {ma : M MIt} {f : MIt → M (List PV)} {R : It → Hp → Prop} (sl : SlotR K W H env σ) (ss : SimS K W st H) (h : tMFr K (E σ) W H Q (M.bind ma f env st))
    (k : ∀ J it st1 W1 H1, Le W H W1 H1 → SlotR K W1 H1 env σ → SimS K W1 st1 H1 → ItOk K W1 H1 J it → tMFr K (E σ) W1 H1 Q (f it env st1) → R J H1) : tMI K E ma σ H R := by
  refine ⟨W, env, st, sl, ss, ?_⟩
  unfold M.bind at h
  cases e : ma env st with
  | none => rw [e] at h; exact h
  | some r =>
    rw [e] at h
    cases r with
    | ok x st1 => exact fun J H1 W1 l ss1 io => k J x st1 W1 H1 l (sl.le l) ss1 io (tMFr.le l h)
    | exc x st1 => exact h
/-- a hidden address changes -/
theorem SimS.hidUpd {K : PySem.W.Frag} {W : Wd} {st : Sto} {H : Hp} {D : Addr} (o : HO) (ss : SimS K W st H) (hD : D ∈ W.hid) : (∀ a o', Fz W H a = some o' → Fz W (upd H D o) a = some o') ∧ SimS K W st (upd H D o) := by
  have hF : ∀ a o', Fz W H a = some o' → Fz W (upd H D o) a = some o' := fun a o' e => by
    obtain ⟨h1, h2, h3⟩ := Fz_some.mp e
    exact Fz_some.mpr ⟨h1, h2, by rw [upd_ne fun z => h2 (by rw [z]; exact hD)]; exact h3⟩
  refine ⟨hF, ss.len, ss.nd, ss.dj, fun a ha => ?_, fun i m a e1 e2 => ?_⟩
  · by_cases e : a = D
    · rw [e, upd_same]; simp
    · rw [upd_ne e]; exact ss.hs a ha
  · exact (ss.ob i m a e1 e2).mono hF (List.prefix_refl _) (upd_ne fun e => ss.dj a (List.mem_of_getElem? e2) (by rw [e]; exact hD))
/-- a new address is hidden -/
theorem SimS.hide {K : PySem.W.Frag} {W : Wd} {st : Sto} {H : Hp} {D : Addr} (o : HO) (ss : SimS K W st H) (hD : H D = none) : Le W H ⟨W.ρ, D :: W.hid⟩ (upd H D o) ∧ SimS K ⟨W.ρ, D :: W.hid⟩ st (upd H D o) := by
  have hF : ∀ a o', Fz W H a = some o' → Fz ⟨W.ρ, D :: W.hid⟩ (upd H D o) a = some o' := fun a o' e => by
    obtain ⟨h1, h2, h3⟩ := Fz_some.mp e
    have ne : a ≠ D := ne_of_none h3 hD
    exact Fz_some.mpr ⟨h1, by simp [ne, h2], by rw [upd_ne ne]; exact h3⟩
  refine ⟨⟨List.prefix_refl _, fun a ha => List.mem_cons_of_mem _ ha, hF, fun a ha => upd_ne fun e => ss.new_hid hD (by rw [← e]; exact ha)⟩, ss.len, ss.nd, fun a ha => ?_, fun a ha => ?_, fun i m a e1 e2 => ?_⟩
  · simp only [List.mem_cons, not_or]
    exact ⟨fun e => ss.new_ρ hD (by rw [← e]; exact ha), ss.dj a ha⟩
  · rcases List.mem_cons.mp ha with rfl | ha
    · rw [upd_same]; simp
    · rw [upd_ne fun e => ss.new_hid hD (by rw [← e]; exact ha)]; exact ss.hs a ha
  · exact (ss.ob i m a e1 e2).mono hF (List.prefix_refl _) (upd_ne fun e => ss.new_ρ hD (by rw [← e]; exact List.mem_of_getElem? e2))
/-- a hidden address is let go -/
def Wd.unhide (W : Wd) (D : Addr) : Wd := ⟨W.ρ, W.hid.filter (· ≠ D)⟩
theorem Fz_unhide {W : Wd} {H : Hp} {D : Addr} (hD : D ∈ W.hid) : ∀ a o, Fz W H a = some o → Fz (W.unhide D) (del H D) a = some o := fun a o e => by
  obtain ⟨h1, h2, h3⟩ := Fz_some.mp e
  refine Fz_some.mpr ⟨h1, fun q => h2 (List.mem_filter.mp q).1, ?_⟩
  rw [del_ne fun z => h2 (by rw [z]; exact hD)]
  exact h3
theorem SimS.unhide {K : PySem.W.Frag} {W : Wd} {st : Sto} {H : Hp} {D : Addr} (ss : SimS K W st H) (hD : D ∈ W.hid) : SimS K (W.unhide D) st (del H D) := by
  refine ⟨ss.len, ss.nd, fun a ha q => ss.dj a ha (List.mem_filter.mp q).1, fun a ha => ?_, fun i m a e1 e2 => ?_⟩
  · obtain ⟨h1, h2⟩ := List.mem_filter.mp ha
    rw [del_ne (by simpa using h2)]
    exact ss.hs a h1
  · exact (ss.ob i m a e1 e2).mono (Fz_unhide hD) (List.prefix_refl _) (del_ne fun e => ss.dj a (List.mem_of_getElem? e2) (by rw [e]; exact hD))
theorem upd_del {H : Hp} {D : Addr} {o : HO} (h : H D = some o) : upd (del H D) D o = H := by
  funext a
  by_cases e : a = D
  · rw [e, upd_same, h]
  · rw [upd_ne e, del_ne e]
theorem f_lc {X : Cx} {E : EX} {elt tg iter : Expr} {ifs : List Expr} {scope : Scope} {own : List (Str × Nat)} {pos : Pos} {t : Tg} {mi : M MIt} {mc : M Bool} {me : M PV} (hc : X.calm = true) (hN : X.N.Nodup) (hi : MI X E tg iter mi) (ok : BlkOk X.N X.env.scope scope own)
    (hg : ∀ (s : Shared) (H : Hp) (C : Addr) (cl : List (Str × Addr)) (fp : List Addr), MG (X.blk s H scope (compEnvC scope cl C X.env) fp) tg t)
    (ht : ∀ (s : Shared) (H : Hp) (C : Addr) (cl : List (Str × Addr)) (fp : List Addr), MTs (X.blk s H scope (compEnvC scope cl C X.env) fp) E00 ifs mc)
    (he : ∀ (s : Shared) (H : Hp) (C : Addr) (cl : List (Str × Addr)) (fp : List Addr), ME (X.blk s H scope (compEnvC scope cl C X.env) fp) E00 elt me)
    (hv : ∀ i ∈ t.slots, i ∈ own.map (·.2) := by decide) (hs : ∀ x, foldedSetIterable iter X.env x = pure x := by intro _; rfl) :
    MF X E (.ListComp elt [⟨tg, iter, ifs, 0⟩] scope pos) (mLc t mi (own.map (·.2)) mc me) := by
  refine peW (pe_lc (g := tTg X.K t) (tt := tMB X.K E00 mc) (te := tM X.K E00 me) hc hN hi ok hg ht he hs) fun σ H Q q => ?_
  obtain ⟨W, env, st, sl, ss, q⟩ := q
  refine bindIF_at sl ss q fun J it st1 W1 H1 l1 sl1 ss1 io q1 => ?_
  intro D hD
  cases er : compL t it mc me it.items (wipeM env (own.map (·.2))) st1 with
  | none => rw [er] at q1; exact q1.elim
  | some r =>
    rw [er] at q1
    obtain ⟨ys, stE⟩ := r
    have q1 : ∀ p us H' W', Le W1 H1 W' H' → SimS X.K W' stE H' → RpL X.K W' H' ys us → ys.length ≤ sizeLine → H' p = none → Q (.ref p) (upd H' p (.lst us)) := q1
    let Wv : Nat → Nat → Hp → Prop := fun i m H' => ∃ W' st' acc done rest, Le W1 H1 W' H' ∧ SimS X.K W' st' H' ∧ D ∈ W'.hid ∧ H' D = some (.lst acc) ∧ RpL X.K W' H' done acc ∧ i ≤ it.items.length ∧ done.length ≤ i ∧ m = it.items.length - i ∧
      compL t it mc me (it.items.drop i) (wipeM env (own.map (·.2))) st' = some (rest, stE) ∧ done ++ rest = ys
    obtain ⟨lh, sh⟩ := ss1.hide (.lst []) hD
    refine ⟨Wv, ⟨it.items.length, ⟨W1.ρ, D :: W1.hid⟩, st1, [], [], ys, lh, sh, List.mem_cons_self, upd_same, RepL.nil, Nat.zero_le _, Nat.le_refl _, by simp, by simpa using er, rfl⟩, ?_⟩
    rintro i m H' ⟨W', st', acc, done, rest, l', ss', hDh, hDa, racc, hil, hdl, hm, hr, hys⟩
    by_cases hlt : i < it.items.length
    · rw [drop_cons hlt] at hr
      unfold compL at hr
      by_cases hck : it.chk st'
      · rw [if_pos hck] at hr
        refine .inr ⟨io.go i hlt W' H' st' l' ss' hck, fun H'' => ∃ m', m' < m ∧ Wv (i + 1) m' H'', fun H'' h => h, fun v H'' y => ?_⟩
        obtain ⟨l2, ss2, rx⟩ := io.yl i _ (List.getElem?_eq_getElem hlt) W' H' st' v H'' l' ss' hck y
        cases et : tgSet t it.items[i] st' (wipeM env (own.map (·.2))) with
        | none => rw [et] at hr; cases hr
        | some env1 =>
          rw [et] at hr
          have slw : SlotR X.K W' H'' (wipeM env (own.map (·.2))) (wipe σ (own.map (·.2))) := ((sl1.le l').le l2).wipe _
          refine ⟨W', _, st', _, env1, slw, ss2, rx, et, fun σ2 sl2 hk => ⟨?_, ?_⟩⟩
          · have hl2 : σ2.length = (wipe σ (own.map (·.2))).length := by rw [← sl2.len, tgSet_len _ _ _ _ _ et, slw.len]
            rw [wipe_eq hl2 fun j hj => hk j fun z => hj (hv j z)]
            exact wipe_eq (wipe_length _ _) fun j hj => by rw [wipe_at, if_neg hj]
          · cases ec : mc env1 st' with
            | none => simp only [ec] at hr; cases hr
            | some rc =>
              cases rc with
              | exc x s => simp only [ec] at hr; cases hr
              | ok b st2 =>
                refine ⟨W', env1, st', sl2, ss2, ?_⟩
                rw [ec]
                intro H3 W3 l3 ss3
                have hD3 : H3 D = some (.lst acc) := (l3.keep D (l2.hid D hDh)).trans ((l2.keep D hDh).trans hDa)
                have hDh3 : D ∈ W3.hid := l3.hid D (l2.hid D hDh)
                have racc3 : RpL X.K W3 H3 done acc := (racc.le l2).le l3
                cases b with
                | false =>
                  simp only [ec] at hr
                  rw [if_neg Bool.false_ne_true]
                  exact ⟨it.items.length - (i + 1), by omega, W3, st2, acc, done, rest, l'.trans (l2.trans l3), ss3, hDh3, hD3, racc3, hlt, by omega, rfl, hr, hys⟩
                | true =>
                  simp only [ec] at hr
                  rw [if_pos rfl]
                  cases ee : me env1 st2 with
                  | none => simp only [ee] at hr; cases hr
                  | some re =>
                    cases re with
                    | exc x s => simp only [ee] at hr; cases hr
                    | ok z st3 =>
                      simp only [ee] at hr
                      refine ⟨W3, env1, st2, sl2.le l3, ss3, ?_⟩
                      rw [ee]
                      intro u H4 W4 l4 ss4 rz
                      have hD4 : H4 D = some (.lst acc) := (l4.keep D hDh3).trans hD3
                      have hDh4 : D ∈ W4.hid := l4.hid D hDh3
                      have hsz := io.sz
                      have hla : acc.length = done.length := racc.len
                      refine ⟨acc, hD4, by omega, it.items.length - (i + 1), by omega, ?_⟩
                      cases er2 : compL t it mc me (it.items.drop (i + 1)) (wipeM env (own.map (·.2))) st3 with
                      | none => rw [er2] at hr; cases hr
                      | some r2 =>
                        rw [er2] at hr
                        obtain ⟨rest2, stE2⟩ := r2
                        simp only [Option.map_some, Option.some.injEq, Prod.mk.injEq] at hr
                        obtain ⟨hr1, rfl⟩ := hr
                        obtain ⟨hF, ss5⟩ := ss4.hidUpd (.lst (acc ++ [u])) hDh4
                        have l5 : Le W1 H1 W4 (upd H4 D (.lst (acc ++ [u]))) := by
                          have l := l'.trans (l2.trans (l3.trans l4))
                          refine ⟨l.pre, l.hid, fun a o e => hF a o (l.fz a o e), fun a ha => ?_⟩
                          rw [upd_ne fun e => ss1.new_hid hD (by rw [← e]; exact ha)]
                          exact l.keep a ha
                        refine ⟨W4, st3, acc ++ [u], done ++ [z], rest2, l5, ss5, hDh4, upd_same, ?_, hlt, by simp; omega, rfl, er2, by rw [← hys, ← hr1]; simp⟩
                        exact RepL.mono hF (List.prefix_refl _) _ _ (RepL.append (racc3.le l4) (RepL.cons rz RepL.nil))
      · rw [if_neg hck] at hr
        cases hr
    · have e : i = it.items.length := by omega
      subst e
      rw [List.drop_length] at hr
      unfold compL at hr
      by_cases hck : it.chk st'
      · rw [if_pos hck] at hr
        simp only [Option.some.injEq, Prod.mk.injEq] at hr
        obtain ⟨rfl, rfl⟩ := hr
        refine .inl ⟨io.stp W' H' st' l' ss' hck, ?_⟩
        have hys' : done = ys := by rw [← hys, List.append_nil]
        subst hys'
        have hsz := io.sz
        rw [← upd_del hDa]
        refine q1 D acc (del H' D) (W'.unhide D) ⟨l'.pre, fun a ha => List.mem_filter.mpr ⟨l'.hid a ha, ?_⟩, fun a o e => Fz_unhide hDh a o (l'.fz a o e), fun a ha => ?_⟩ (ss'.unhide hDh) (RepL.mono (Fz_unhide hDh) (List.prefix_refl _) _ _ racc) (by omega) del_same
        · simp only [decide_eq_true_eq, ne_eq, decide_not, Bool.not_eq_eq_eq_not, Bool.not_true, decide_eq_false_iff_not]
          exact fun e => ss1.new_hid hD (by rw [← e]; exact ha)
        · rw [del_ne fun e => ss1.new_hid hD (by rw [← e]; exact ha)]
          exact l'.keep a ha
      · rw [if_neg hck] at hr
        cases hr
end Mi

/-! MiG: a def's promise where no display is being shown around it (so that repr of lists and tuples can be told within). -/
namespace Mi
open PySem PySem.Spec PyProof.Rows L2

/-- as FnOk, asked only where nothing is guarded around -/
structure FnG (P : Program) (w : World) (K : PySem.W.Frag) (mg : Str → Option Value) (base : Heap) (CX : CXT) (k : Nat) (f : Addr) (fd : FuncData) (ps : List Str) (sp : Sp) : Prop where
  len : ∀ vs H Q E, sp vs H Q E → vs.length = ps.length
  run : ∀ (A : Around) (outer : List Env) (s : Shared) (H : Hp) (args : Args) (us : List Value) (vs : List V) (Q : VK) (E : XK),
    A.guards = some [] → Room k A → Env0 P w K mg base A outer s H → BindsTo s fd args (ps.zip us) → Vals vs us → sp vs H Q E →
    codeAny (model P w) A (.call (.ref f) args) (CR CX outer P w H s Q E) s
section
variable {P : Program} {w : World} {K : PySem.W.Frag} {mg : Str → Option Value} {base : Heap} {CX : CXT} {k j : Nat} {f : Addr} {fd : FuncData} {ps : List Str} {sp sp' : Sp}
theorem FnG.up (F : FnG P w K mg base CX j f fd ps sp) (h : j ≤ k) : FnG P w K mg base CX k f fd ps sp :=
  ⟨F.len, fun A o s H args us vs Q E hg hr => F.run A o s H args us vs Q E hg (hr.mono h)⟩
theorem FnG.weaken (F : FnG P w K mg base CX k f fd ps sp) (h : ∀ vs H Q E, sp' vs H Q E → sp vs H Q E) : FnG P w K mg base CX k f fd ps sp' :=
  ⟨fun vs H Q E q => F.len vs H Q E (h _ _ _ _ q), fun A o s H args us vs Q E hg hr e b v q => F.run A o s H args us vs Q E hg hr e b v (h _ _ _ _ q)⟩
/-- a def of the text by its body -/
theorem fnG_of {x qual : Str} {st : Stmt} {N : List Str} (F : Fun K x qual st f fd) (S : FnScope N ps (defScope st)) (len : ∀ vs H Q E, sp vs H Q E → vs.length = ps.length)
    (body : ∀ (cdv : Value) (A : Around) (outer : List Env) (s : Shared) (H : Hp) (vs : List V) (Q : VK) (E : XK), A.guards = some [] →
      Room k (A.deeper (envOfC qual (defScope st) s.heap.objs.size f cdv)) → sp vs H Q E →
      ∃ t, PSs (cxOf CX P w K mg base N qual (defScope st) f cdv A outer s H E) (defBody st) t ∧ t { nx := fun _ H' => Q .non H', rt := Q } (L2.start N vs) H) :
    FnG P w K mg base CX (k + 1) f fd ps sp := by
  obtain ⟨oc, od, kV, doc, pm, an, cdv, ct, osl, rfl, lk, hcd⟩ := F.ex
  constructor
  · exact len
  intro A outer s H args us vs Q E hg hr e0 hb r hsp
  have inK : K.In s.heap := e0.mod.kin.keeps fun b o e => (e0.bs b o e).1
  have noL : s.heap.NoLimit := e0.mod.nolimit.keeps fun b o e => (e0.bs b o e).1
  have places : ∀ y ∈ ps.zip us, (defScope st).names.lookup y.1 = some .local ∨
      ((defScope st).names.lookup y.1 = some .cell ∧ ((cellsFrom (s.heap.objs.size + 1) (defScope st).names []).lookup y.1).isSome = true) := by
    intro y hy
    have hm : y.1 ∈ ps := (List.of_mem_zip (a := y.1) (b := y.2) hy).1
    rcases S.par y.1 hm with q | q
    · exact .inl q
    · exact .inr ⟨q, PySem.W.cellsFrom_some _ _ _ (.inl q)⟩
  have dep : A.depth < recursionLimit := by have := hr.dp; omega
  refine codeAny_call_function dep (inK _ _ lk) rfl S.co S.gen rfl (PySem.W.codeRec_of inK hcd) (hb _ _ _ _ ?_)
  refine wpAny_newFunctionEnv_cells S.kind places ?_
  intro env henv s1 x
  subst henv
  refine ⟨noL.keeps x.toInCall.keep, codeAny_func ?_⟩
  obtain ⟨t, ht, hq⟩ := body cdv A outer s H vs Q E hg (hr.deeper _) hsp
  have I := inv_start (CX := CX) (E := E) S hr.hd e0 (len _ _ _ _ hsp) r x
  refine wpAny_mono (ht.run [] s1 (L2.start N vs) H _ I hq) ?_ (fun e s' h => h)
  intro fl s' hs
  cases fl with
  | ret u => obtain ⟨v, σ', H', J, rv, q⟩ := hs; exact ⟨v, H', J.os, J.bare, J.base, J.hok, rv, q⟩
  | next => obtain ⟨σ', H', J, q⟩ := hs; exact ⟨.non, H', J.os, J.bare, J.base, J.hok, rfl, q⟩
  | brk => obtain ⟨_, _, _, q⟩ := hs; exact q.elim
  | cont => obtain ⟨_, _, _, q⟩ := hs; exact q.elim
end
section
variable {X : Cx} {CX : CXT} {k : Nat} {f : Addr} {fd : FuncData} {ps : List Str} {sp : Sp} {E : XK} {x : Str} {p pos : Pos} {e : Expr} {es : List Expr} {t : TA}
theorem runG {pins : List (Addr × Obj)} {σ : L2.St} {H : Hp} {s : Shared} {Q : VK} {us : List Value} {vs : List V} (F : FnG X.prog X.w X.K X.mg X.base CX k f fd ps sp) (hg : X.A.guards = some []) (hr : Room k X.A) (hb : Binds X.K fd ps []) (hx : Passes CX X E)
    (I : Inv X pins σ H s) (r : Vals vs us) (h : sp vs H Q E) : wpAny (model X.prog X.w) X.A (call (.ref f) us) (EP X pins σ Q) X.xe s := by
  have hl : us.length = ps.length := r.length.symm.trans (F.len _ _ _ _ h)
  have b := hb s us I.kIn (by rw [List.append_nil]; exact hl)
  rw [List.append_nil] at b
  refine wpAny_call (codeAny_mono (F.run X.A X.stack s H ⟨us, []⟩ us vs Q E hg hr I.env0 b r h) ?_)
  intro res s' hq
  match res, hq with
  | .error e, hq => exact hx pins σ H s e s' I hq
  | .ok (.ret u), hq => exact I.after hq
  | .ok .next, hq => exact hq.elim
  | .ok .brk, hq => exact hq.elim
  | .ok .cont, hq => exact hq.elim
theorem pe_callG (F : FnG X.prog X.w X.K X.mg X.base CX k f fd ps sp) (hG : X.A.guards = some []) (hr : Room k X.A) (hg : Gl X x) (hm : X.mg x = some (.ref f)) (hk : PySem.W.keepIn X.K (.ref f) = true) (hb : Binds X.K fd ps []) (hx : Passes CX X E)
    (ha : PA X (e :: es) t) (hdb : (x == ("__debug__" : Str)) = false := by decide) (he : starEach (e :: es) X.env = (false, eval e X.env) :: starEach es X.env := by rfl) (hpl : (backTo pos (starEach es X.env)).any (·.1) = false := by rfl) :
    PE X (.Call (.Name x p) (e :: es) [] pos) (fun σ H Q => t σ H fun vs H1 => sp vs H1 Q E) := by
  constructor
  intro pins s σ H Q I h
  refine wpAny_Call_Name_kw (ld_glob I hg hm (PySem.W.callWith_K (h₀ := X.base) I.ok.mod.kin hk (thn (ha.run pos pins s σ H _ I h) ?_) he hpl) hdb)
  intro us s1 q
  obtain ⟨vs, H1, I1, r, q⟩ := q
  exact ⟨I1.kIn, runG F hG hr hb hx I1 r q⟩
end

/-! ### the law itself -/
/-- what is tracked at the law's entry: the script alone -/
def H0 (K : PySem.W.Frag) (a : Addr) (vs : List Value) (ns : List Int) : Hp := fun b => if b = a ∧ K.lookup a = none then some (.frz { cls := .type "list", data := .seq vs.toArray } (.lst (ns.map V.int))) else none
theorem H0_inv {K : PySem.W.Frag} {a b : Addr} {vs : List Value} {ns : List Int} {u : HO} (h : H0 K a vs ns b = some u) : b = a ∧ K.lookup a = none ∧ u = .frz { cls := .type "list", data := .seq vs.toArray } (.lst (ns.map V.int)) := by
  unfold H0 at h
  split at h
  · rename_i hc; cases h; exact ⟨hc.1, hc.2, rfl⟩
  · cases h
theorem H0_none {K : PySem.W.Frag} {a b : Addr} {vs : List Value} {ns : List Int} (h : b ≠ a ∨ K.lookup a ≠ none) : H0 K a vs ns b = none := by
  unfold H0
  rw [if_neg]
  rintro ⟨h1, h2⟩
  rcases h with h | h
  · exact h h1
  · exact h h2
theorem law_callG {P : Program} {w : World} {K : PySem.W.Frag} {mg mb : Str → Option Value} {k : Nat} {fa a : Addr} {fd : FuncData} {x : Str} {sp : Sp} {s₁ : Shared} {vs : List Value} {ns : List Int}
    (KX : K.In s₁.heap) (hns : s₁.heap.Ns mainGlobals mg) (hb : s₁.heap.Ns builtinsNs mb) (hbb : ∀ x : Str, x ≠ "__name__" → mb x = bootBuiltins x) (hlim : s₁.heap.NoLimit) (hg : s₁.gens = #[])
    (ha : s₁.heap.get? a = some { cls := .type "list", data := .seq vs.toArray }) (hi : IntsAre vs ns) (hl : ns.length ≤ sizeLine) (hr : Room k callerA)
    (F : ∀ base : Heap, K.In base → base.Ns mainGlobals mg → FnG P w K mg base CX0 k fa fd [x] sp) (hbind : ∀ (s : Shared) (u : Value), BindsTo s fd ⟨[u], []⟩ [(x, u)])
    (hsp : ∀ H : Hp, SqL K H a (ns.map V.int) → sp [.ref a] H (fun v _ => v = .bl true) fun _ _ _ => False) :
    codeAny (model P w) callerA (.call (.ref fa) ⟨[.ref a], []⟩) (fun r s' => r = .ok (.ret (.bool true)) ∧ OldK s₁.heap s'.heap ∧ s'.os = s₁.os ∧ AllBare s'.gens) s₁ := by
  have rv : Vals (ns.map V.int) vs := vals_ints hi
  have hlen : vs.length = ns.length := by have := rv.length; simpa using this.symm
  generalize hH : H0 K a vs ns = H
  have inv : ∀ {b u}, H b = some u → b = a ∧ K.lookup a = none ∧ u = .frz { cls := .type "list", data := .seq vs.toArray } (.lst (ns.map V.int)) := fun h => H0_inv (by rw [hH]; exact h)
  have hok : HOk P w H s₁.heap := by
    intro b u h
    obtain ⟨rfl, _, rfl⟩ := inv h
    exact ⟨ha, by rw [List.length_map]; exact hl, vs, _, rv, ha⟩
  have low : ∀ {b : Addr} {o : Obj}, s₁.heap.get? b = some o → H b = none → (hidT s₁.heap H).get? b = some o := fun e n => hidT_get e n
  have dictFree : ∀ {b : Addr} {o : Obj} {es : Array DictEntry} {n : Nat}, s₁.heap.get? b = some o → o.data = .dict es n → H b = none := by
    intro b o es n e d
    cases q : H b with
    | none => rfl
    | some u =>
      obtain ⟨rfl, _, _⟩ := inv q
      rw [ha] at e
      injection e with e
      rw [← e] at d
      have d' : Data.seq vs.toArray _ = Data.dict es n := d
      cases d'
  have nsLow : ∀ {b : Addr} {m : Str → Option Value}, s₁.heap.Ns b m → (hidT s₁.heap H).Ns b m := by
    rintro b m ⟨o, es, n, e, d, r⟩
    exact ⟨o, es, n, low e (dictFree e d), d, r⟩
  have kLow : K.In (hidT s₁.heap H) := by
    intro b o e
    refine low (KX b o e) ?_
    cases q : H b with
    | none => rfl
    | some u =>
      obtain ⟨rfl, z, _⟩ := inv q
      rw [z] at e; cases e
  have md : Mod K mg (hidT s₁.heap H) := by
    obtain ⟨mc, h1, h2⟩ := hlim
    exact ⟨kLow, nsLow hns, ⟨mb, nsLow hb, hbb⟩, ⟨mc, nsLow h1, h2⟩⟩
  have nof : ∀ b, b ∉ frs ([] : List Env) := fun b hb => absurd (show b ∈ ([] : List Addr) from hb) (by simp)
  have e0 : Env0 P w K mg (hidT s₁.heap H) callerA [] s₁ H :=
    { frames := rfl, mod := md, bs := fun b o e => of_hidT e, bsz := Nat.le_of_eq (hidT_size _ _), funs := trivial, frf := fun b hb => absurd hb (nof b), hok := hok, bare := .of_eq hg }
  have seq : SqL K H a (ns.map V.int) := by
    cases hk : K.lookup a with
    | none => exact .inl (.inr ⟨{ cls := .type "list", data := .seq vs.toArray }, by rw [← hH]; exact if_pos ⟨rfl, hk⟩⟩)
    | some o =>
      have e := KX a o hk
      rw [ha] at e
      cases e
      exact .inr ⟨_, vs.toArray, _, hk, rfl, rfl, rfl, by rw [List.size_toArray, hlen]; exact hl, by simpa using rv⟩
  refine codeAny_mono ((F _ kLow (nsLow hns)).run callerA [] s₁ H ⟨[.ref a], []⟩ [.ref a] [.ref a] _ _ rfl hr e0 (hbind s₁ (.ref a)) (.cons rfl .nil) (hsp H seq)) ?_
  intro res s' h
  match res, h with
  | .error e, h => exact h.elim
  | .ok .next, h => exact h.elim
  | .ok .brk, h => exact h.elim
  | .ok .cont, h => exact h.elim
  | .ok (.ret u), h =>
    obtain ⟨v, H', os, bare, un, hok', r', q⟩ := h
    have q : v = .bl true := q
    subst q
    have r' : u = Value.bool true := r'
    subst r'
    refine ⟨rfl, OldK.of_keep ?_, os, bare⟩
    intro b o e
    cases q : H b with
    | none => exact un.keep b o e q (nof b) (by simp)
    | some u =>
      obtain ⟨rfl, hk, rfl⟩ := inv q
      have later := un.frzs b _ _ q
      have e2 := (hok' b _ later).1
      rw [ha] at e
      injection e with e
      rw [← e]
      exact e2
theorem walk_ofG {l : PySem.W.OpenLaw} {n k : Nat} {q : Program} {loose : List Str} {XP : (Str → Option Value) → Heap → Prop} {YP : World → Heap → Prop} {d : DefRec} {K : Params → PySem.W.Frag} {sp : World → Sp} {x : Str}
    (hn : l.most = some n) (hn2 : n ≤ sizeLine) (hdf : d.params.defaults = []) (hr : Room k callerA)
    (hY : ∀ (w : World) (h : Heap), YP w h → (K w.params).In h)
    (F : ∀ (w : World) (mg : Str → Option Value) (fa : Addr) (h : Heap), (K w.params).In h → h.Ns mainGlobals mg → mg d.name = some (.ref fa) →
      ∃ fd : FuncData, (∀ (s : Shared) (u : Value), BindsTo s fd ⟨[u], []⟩ [(x, u)]) ∧
        ∀ base : Heap, (K w.params).In base → base.Ns mainGlobals mg → FnG l.prog w (K w.params) mg base CX0 k fa fd [x] (sp w))
    (hsp : ∀ (w : World) (H : Hp) (a : Addr) (ns : List Int), ns.length ≤ n → SqL (K w.params) H a (ns.map V.int) → sp w [.ref a] H (fun v _ => v = .bl true) fun _ _ _ => False) :
    PySem.W.WalkO q loose XP YP l.row.toRowW d [] (fun f vs => PySem.call f vs) := by
  refine Att.attach_call hn hdf ?_
  intro w s₀ s₁ mg mb fa o pm cd doc a vs ns G Y ho hd hcd hmg hobj hints hlen hg
  have KX := hY w _ Y
  obtain ⟨fd, hb, hF⟩ := F w mg fa _ KX G.T.g hmg
  exact law_callG KX G.T.g G.T.b G.T.builtins G.T.nolimit hg hobj hints (Nat.le_trans hlen hn2) hr hF hb fun H hS => hsp w H a ns hlen hS
end Mi

/-! Mi5: defs and their calls. -/
namespace Mi
open PySem PySem.Spec PyProof.Rows L2

abbrev FnM := List PV → Sto → Option (Res PV)
mutual
def PV.pure : PV → Bool
  | .ref _ => false
  | .tup xs => PV.pureL xs
  | .lst xs => PV.pureL xs
  | .rol xs => PV.pureL xs
  | .dic ps => PV.pureD ps
  | .exc _ fs => PV.pureF fs
  | _ => true
def PV.pureL : List PV → Bool
  | [] => true
  | x :: xs => x.pure && PV.pureL xs
def PV.pureD : List (PV × PV) → Bool
  | [] => true
  | (k, x) :: xs => k.pure && (x.pure && PV.pureD xs)
def PV.pureF : List (Str × PV) → Bool
  | [] => true
  | (_, x) :: xs => x.pure && PV.pureF xs
end
def MO.pure : MO → Bool
  | .lst xs => PV.pureL xs
  | .dic ps => PV.pureD ps
section
variable {K : PySem.W.Frag} {F : Hp} {ρ ρ' : List Addr}
mutual
theorem Rep.pure : ∀ (x : PV) (v : V), x.pure = true → Rep K F ρ x v → Rep K F ρ' x v
  | .non, v, _, h => by simp only [Rep] at h ⊢; exact h
  | .bl b, v, _, h => by simp only [Rep] at h ⊢; exact h
  | .int i, v, _, h => by simp only [Rep] at h ⊢; exact h
  | .str x, v, _, h => by simp only [Rep] at h ⊢; exact h
  | .tup xs, v, p, h => by
    simp only [Rep] at h ⊢
    simp only [PV.pure] at p
    obtain ⟨a, vs, e, hs, hl, hz⟩ := h
    exact ⟨a, vs, e, hs, RepL.pure xs vs p hl, hz⟩
  | .lst xs, v, p, h => by
    simp only [Rep] at h ⊢
    simp only [PV.pure] at p
    obtain ⟨a, vs, e, hs, hl, hz⟩ := h
    exact ⟨a, vs, e, hs, RepL.pure xs vs p hl, hz⟩
  | .rol xs, v, p, h => by
    simp only [Rep] at h ⊢
    simp only [PV.pure] at p
    obtain ⟨a, vs, e, hs, hl, hz⟩ := h
    exact ⟨a, vs, e, hs, RepL.pure xs vs p hl, hz⟩
  | .dic ps, v, p, h => by
    simp only [Rep] at h ⊢
    simp only [PV.pure] at p
    obtain ⟨a, ks, e, hs, hl, hz⟩ := h
    exact ⟨a, ks, e, hs, RepD.pure ps ks p hl, hz⟩
  | .ref i, v, p, h => by simp [PV.pure] at p
  | .opq w, v, _, h => by simp only [Rep] at h ⊢; exact h
  | .exc C fs, v, p, h => by
    simp only [Rep] at h ⊢
    simp only [PV.pure] at p
    obtain ⟨hk, a, e, h⟩ := h
    refine ⟨hk, a, e, ?_⟩
    rcases h with ⟨h0, h1⟩ | ⟨d, ks, h1, h2, hl⟩
    · exact .inl ⟨h0, h1⟩
    · exact .inr ⟨d, ks, h1, h2, RepF.pure fs ks p hl⟩
theorem RepL.pure : ∀ (xs : List PV) (vs : List V), PV.pureL xs = true → RepL K F ρ xs vs → RepL K F ρ' xs vs
  | [], vs, _, h => by simp only [RepL] at h ⊢; exact h
  | x :: xs, vs, p, h => by
    simp only [RepL] at h ⊢
    simp only [PV.pureL, Bool.and_eq_true] at p
    obtain ⟨v, r, e, h1, h2⟩ := h
    exact ⟨v, r, e, Rep.pure x v p.1 h1, RepL.pure xs r p.2 h2⟩
theorem RepD.pure : ∀ (ps : List (PV × PV)) (ks : List (Key × V)), PV.pureD ps = true → RepD K F ρ ps ks → RepD K F ρ' ps ks
  | [], ks, _, h => by simp only [RepD] at h ⊢; exact h
  | (k, x) :: ps, ks, p, h => by
    simp only [RepD] at h ⊢
    simp only [PV.pureD, Bool.and_eq_true] at p
    obtain ⟨kk, v, r, e, e2, h1, h2⟩ := h
    exact ⟨kk, v, r, e, e2, Rep.pure x v p.2.1 h1, RepD.pure ps r p.2.2 h2⟩
theorem RepF.pure : ∀ (ps : List (Str × PV)) (ks : List (Str × V)), PV.pureF ps = true → RepF K F ρ ps ks → RepF K F ρ' ps ks
  | [], ks, _, h => by simp only [RepF] at h ⊢; exact h
  | (k, x) :: ps, ks, p, h => by
    simp only [RepF] at h ⊢
    simp only [PV.pureF, Bool.and_eq_true] at p
    obtain ⟨v, r, e, h1, h2⟩ := h
    exact ⟨v, r, e, Rep.pure x v p.1 h1, RepF.pure ps r p.2 h2⟩
end
variable {F0 F1 : Hp}
/-- references that an elder world knows are known by it still -/
theorem ref_back {F0 F1 : Hp} (hF : ∀ a o, F a = some o → F1 a = some o) (hρ : ρ <+: ρ') : True := trivial
mutual
theorem Rep.cut (hF : ∀ a o, F a = some o → F1 a = some o) (hρ : ρ <+: ρ') : ∀ (x : PV) (v0 v : V), Rep K F0 ρ x v0 → Rep K F ρ' x v → Rep K F1 ρ x v
  | .non, v0, v, _, h => by simp only [Rep] at h ⊢; exact h
  | .bl b, v0, v, _, h => by simp only [Rep] at h ⊢; exact h
  | .int i, v0, v, _, h => by simp only [Rep] at h ⊢; exact h
  | .str x, v0, v, _, h => by simp only [Rep] at h ⊢; exact h
  | .tup xs, v0, v, g, h => by
    simp only [Rep] at g h ⊢
    obtain ⟨_, _, _, _, gl, _⟩ := g
    obtain ⟨a, vs, e, hs, hl, hz⟩ := h
    exact ⟨a, vs, e, SqT.mono hF hs, RepL.cut hF hρ xs _ vs gl hl, hz⟩
  | .lst xs, v0, v, g, h => by
    simp only [Rep] at g h ⊢
    obtain ⟨_, _, _, _, gl, _⟩ := g
    obtain ⟨a, vs, e, hs, hl, hz⟩ := h
    exact ⟨a, vs, e, hF _ _ hs, RepL.cut hF hρ xs _ vs gl hl, hz⟩
  | .rol xs, v0, v, g, h => by
    simp only [Rep] at g h ⊢
    obtain ⟨_, _, _, _, gl, _⟩ := g
    obtain ⟨a, vs, e, hs, hl, hz⟩ := h
    exact ⟨a, vs, e, SqL.mono hF hs, RepL.cut hF hρ xs _ vs gl hl, hz⟩
  | .dic ps, v0, v, g, h => by
    simp only [Rep] at g h ⊢
    obtain ⟨_, _, _, _, gl, _⟩ := g
    obtain ⟨a, ks, e, hs, hl, hz⟩ := h
    exact ⟨a, ks, e, Rd.mono hF hs, RepD.cut hF hρ ps _ ks gl hl, hz⟩
  | .ref i, v0, v, g, h => by
    simp only [Rep] at g h ⊢
    obtain ⟨a0, _, g⟩ := g
    obtain ⟨a, e, h⟩ := h
    have := pre_get hρ g
    rw [this] at h
    cases h
    exact ⟨a0, e, g⟩
  | .opq w, v0, v, _, h => by simp only [Rep] at h ⊢; exact h
  | .exc C fs, v0, v, g, h => by
    simp only [Rep] at g h ⊢
    obtain ⟨_, a0, _, g⟩ := g
    obtain ⟨hk, a, e, h⟩ := h
    refine ⟨hk, a, e, ?_⟩
    rcases h with ⟨h0, h1⟩ | ⟨d, ks, h1, h2, hl⟩
    · exact .inl ⟨h0, hF _ _ h1⟩
    · rcases g with ⟨g0, _⟩ | ⟨_, _, _, _, gl⟩
      · subst g0
        exact .inr ⟨d, ks, hF _ _ h1, hF _ _ h2, by simp only [RepF] at hl ⊢; exact hl⟩
      · exact .inr ⟨d, ks, hF _ _ h1, hF _ _ h2, RepF.cut hF hρ fs _ ks gl hl⟩
theorem RepL.cut (hF : ∀ a o, F a = some o → F1 a = some o) (hρ : ρ <+: ρ') : ∀ (xs : List PV) (v0 vs : List V), RepL K F0 ρ xs v0 → RepL K F ρ' xs vs → RepL K F1 ρ xs vs
  | [], v0, vs, _, h => by simp only [RepL] at h ⊢; exact h
  | x :: xs, v0, vs, g, h => by
    simp only [RepL] at g h ⊢
    obtain ⟨_, _, _, g1, g2⟩ := g
    obtain ⟨v, r, e, h1, h2⟩ := h
    exact ⟨v, r, e, Rep.cut hF hρ x _ v g1 h1, RepL.cut hF hρ xs _ r g2 h2⟩
theorem RepD.cut (hF : ∀ a o, F a = some o → F1 a = some o) (hρ : ρ <+: ρ') : ∀ (ps : List (PV × PV)) (k0 ks : List (Key × V)), RepD K F0 ρ ps k0 → RepD K F ρ' ps ks → RepD K F1 ρ ps ks
  | [], k0, ks, _, h => by simp only [RepD] at h ⊢; exact h
  | (k, x) :: ps, k0, ks, g, h => by
    simp only [RepD] at g h ⊢
    obtain ⟨_, _, _, _, _, g1, g2⟩ := g
    obtain ⟨kk, v, r, e, e2, h1, h2⟩ := h
    exact ⟨kk, v, r, e, e2, Rep.cut hF hρ x _ v g1 h1, RepD.cut hF hρ ps _ r g2 h2⟩
theorem RepF.cut (hF : ∀ a o, F a = some o → F1 a = some o) (hρ : ρ <+: ρ') : ∀ (ps : List (Str × PV)) (k0 ks : List (Str × V)), RepF K F0 ρ ps k0 → RepF K F ρ' ps ks → RepF K F1 ρ ps ks
  | [], k0, ks, _, h => by simp only [RepF] at h ⊢; exact h
  | (k, x) :: ps, k0, ks, g, h => by
    simp only [RepF] at g h ⊢
    obtain ⟨_, _, _, g1, g2⟩ := g
    obtain ⟨v, r, e, h1, h2⟩ := h
    exact ⟨v, r, e, Rep.cut hF hρ x _ v g1 h1, RepF.cut hF hρ ps _ r g2 h2⟩
end
end

/-! ### a def's end -/
def finP : Option SRes → Option (Res PV)
  | some (.ret v s) => some (.ok v s)
  | some (.next _ s) => some (.ok .non s)
  | some (.exc x _ s) => some (.exc x s)
  | _ => none
/-- the value by value, where its objects are let go -/
def frz (n : Nat) (st : Sto) : PV → Option PV
  | .ref i => if i < n then some (.ref i) else match st[i]? with
    | some (.lst ys) => if PV.pureL ys then some (.lst ys) else none
    | some (.dic ps) => if PV.pureD ps then some (.dic ps) else none
    | none => none
  | v => if v.pure then some v else none
def Closed (st0 st1 : Sto) : Prop := ∀ i, i < st0.length → st1[i]? = st0[i]? ∨ ∃ o, st1[i]? = some o ∧ o.pure = true
open Classical in
/-- the objects made within the def are let go -/
noncomputable def cut (st0 : Sto) : Option (Res PV) → Option (Res PV)
  | some (.ok v s) => if Closed st0 s then (frz st0.length s v).map fun v' => .ok v' (s.take st0.length) else none
  | _ => none
def defP (n nN : Nat) (body : MS) : FnM := fun xs st => if xs.length = n then finP (body (xs.map some ++ List.replicate (nN - xs.length) none) st) else none
def spM (K : PySem.W.Frag) (n : Nat) (φ : FnM) : Sp := fun vs H Q E => ∃ W st xs, SimS K W st H ∧ RpL K W H xs vs ∧ xs.length = n ∧ tMr K E W H Q (φ xs st)
theorem RepL.getD {K : PySem.W.Frag} {F : Hp} {ρ : List Addr} {xs : List PV} {vs : List V} (h : RepL K F ρ xs vs) {i : Nat} (hi : i < xs.length) : ∃ v, vs[i]? = some v ∧ Rep K F ρ xs[i] v := RepL.get h (List.getElem?_eq_getElem hi)
theorem start_slots {K : PySem.W.Frag} {W : Wd} {H : Hp} {N : List Str} {xs : List PV} {vs : List V} (r : RpL K W H xs vs) : SlotR K W H (xs.map some ++ List.replicate (N.length - xs.length) none) (L2.start N vs) := by
  unfold L2.start
  refine ⟨by simp [r.len], fun i x e => ?_⟩
  by_cases hi : i < xs.length
  · rw [List.getElem?_append_left (by simpa using hi), List.getElem?_map, List.getElem?_eq_getElem hi] at e
    simp at e
    subst e
    obtain ⟨v, h1, h2⟩ := r.getD hi
    refine ⟨v, ?_, h2⟩
    rw [List.getElem?_append_left (by rw [List.length_map, r.len]; exact hi), List.getElem?_map, h1]
    rfl
  · rw [List.getElem?_append_right (by simpa using hi), List.getElem?_replicate] at e
    split at e <;> simp at e
/-- no error leaves -/
theorem tSr_of_fin {K : PySem.W.Frag} {E : XK} {W : Wd} {H : Hp} {Q : VK} {r : Option SRes} (hx : ∀ x env st, r ≠ some (.exc x env st)) (h : tMr K E W H Q (finP r)) : tSr K E00 W H { nx := fun _ H' => Q .non H', rt := Q } r := by
  cases r with
  | none => exact h
  | some r =>
    cases r with
    | next env st => exact fun σ' H' W' l sl ss => h .non H' W' l ss (show Rep _ _ _ _ _ by simp only [Rep])
    | ret x st => exact h
    | brk env st => exact h.elim
    | cont env st => exact h.elim
    | exc x env st => exact absurd rfl (hx x env st)
/-- what a def that raises nothing answers -/
def onlyOk (φ : FnM) : FnM := fun xs st => match φ xs st with
  | some (.ok v s) => some (.ok v s)
  | _ => none
def defN (n nN : Nat) (body : MS) : FnM := onlyOk (defP n nN body)
noncomputable def defT (n nN : Nat) (body : MS) : FnM := fun xs st => cut st (defN n nN body xs st)
section
variable {P : Program} {w : World} {K : PySem.W.Frag} {mg : Str → Option Value} {base : Heap}
theorem def_ok {x qual : Str} {st : Stmt} {f : Addr} {fd : FuncData} {N ps : List Str} {k : Nat} {mb : MS} (F : Fun K x qual st f fd) (S : FnScope N ps (defScope st))
    (hb : ∀ (cdv : Value) (A : Around) (outer : List Env) (s : Shared) (H : Hp) (E : XK), A.guards = some [] → Room k (A.deeper (envOfC qual (defScope st) s.heap.objs.size f cdv)) →
      MSs (cxOf CX0 P w K mg base N qual (defScope st) f cdv A outer s H E).nox E00 (defBody st) mb) : FnG P w K mg base CX0 (k + 1) f fd ps (spM K ps.length (defN ps.length N.length mb)) := by
  refine fnG_of F S (fun vs H Q E h => ?_) (fun cdv A outer s H vs Q E hg hr h => ?_)
  · obtain ⟨W, st, xs, _, r, e, _⟩ := h
    rw [← e, r.len]
  · obtain ⟨W, st, xs, ss, r, e, h⟩ := h
    refine ⟨tMS K E00 mb, (hb cdv A outer s H E hg hr).nox, W, _, st, start_slots r, ss, ?_⟩
    refine tSr_of_fin (E := E) (fun x env st' he => ?_) ?_
    · unfold defN onlyOk defP at h
      rw [if_pos e, he] at h
      exact h
    · unfold defN onlyOk defP at h
      rw [if_pos e] at h
      revert h
      cases finP (mb (xs.map some ++ List.replicate (N.length - xs.length) none) st) with
      | none => exact id
      | some r => cases r with
        | ok v s => exact id
        | exc x s => exact fun h => h.elim
/-- the world behind, its new objects let go -/
theorem cut_world {W W' : Wd} {H H' : Hp} {st st' : Sto} (ss : SimS K W st H) (l : Le W H W' H') (ss' : SimS K W' st' H') (hc : Closed st st') :
    Le W H ⟨W.ρ, W'.hid⟩ H' ∧ SimS K ⟨W.ρ, W'.hid⟩ (st'.take st.length) H' ∧ (∀ a o, Fz W' H' a = some o → Fz ⟨W.ρ, W'.hid⟩ H' a = some o) := by
  obtain ⟨t, ht⟩ := l.pre
  have sub : ∀ a ∈ W.ρ, a ∈ W'.ρ := fun a ha => by rw [← ht]; exact List.mem_append_left _ ha
  have hF : ∀ a o, Fz W' H' a = some o → Fz ⟨W.ρ, W'.hid⟩ H' a = some o := fun a o e => by
    obtain ⟨h1, h2, h3⟩ := Fz_some.mp e
    exact Fz_some.mpr ⟨fun q => h1 (sub a q), h2, h3⟩
  have hlen : st.length ≤ st'.length := by
    rw [← ss.len, ← ss'.len, ← ht]; simp
  refine ⟨⟨List.prefix_refl _, l.hid, fun a o e => hF a o (l.fz a o e), l.keep⟩, ⟨?_, ss.nd, fun a ha => ss'.dj a (sub a ha), ss'.hs, fun i o a e1 e2 => ?_⟩, hF⟩
  · rw [List.length_take, ss.len]; omega
  · have hi : i < st.length := by
      have := (List.getElem?_eq_some_iff.mp e1).1
      rw [List.length_take] at this; omega
    rw [List.getElem?_take_of_lt hi] at e1
    have e2' : W.ρ[i]? = some a := e2
    have ob' := ss'.ob i o a e1 (pre_get l.pre e2')
    rcases hc i hi with q | ⟨o', q, hp⟩
    · rw [q] at e1
      have ob := ss.ob i o a e1 e2'
      cases o with
      | lst xs =>
        obtain ⟨v0, _, g, _⟩ := ob
        obtain ⟨vs, h1, h2, hz⟩ := ob'
        exact ⟨vs, h1, RepL.cut hF l.pre xs v0 vs g h2, hz⟩
      | dic ps =>
        obtain ⟨v0, _, g, _⟩ := ob
        obtain ⟨vs, h1, h2, hz⟩ := ob'
        exact ⟨vs, h1, RepD.cut hF l.pre ps v0 vs g h2, hz⟩
    · rw [q] at e1
      cases e1
      cases o with
      | lst xs =>
        obtain ⟨vs, h1, h2, hz⟩ := ob'
        exact ⟨vs, h1, RepL.pure xs vs hp (RepL.mono hF (List.prefix_refl _) _ _ h2), hz⟩
      | dic ps =>
        obtain ⟨vs, h1, h2, hz⟩ := ob'
        exact ⟨vs, h1, RepD.pure ps vs hp (RepD.mono hF (List.prefix_refl _) _ _ h2), hz⟩
theorem frz_rep {W W' : Wd} {H' : Hp} {st st' : Sto} {x y : PV} {u : V} (hlen : W.ρ.length = st.length) (hpre : W.ρ <+: W'.ρ) (ss' : SimS K W' st' H') (hF : ∀ a o, Fz W' H' a = some o → Fz ⟨W.ρ, W'.hid⟩ H' a = some o)
    (hf : frz st.length st' x = some y) (r : Rp K W' H' x u) : Rp K ⟨W.ρ, W'.hid⟩ H' y u := by
  have pureCase : x.pure = true → Rp K ⟨W.ρ, W'.hid⟩ H' x u := fun hp => Rep.pure x u hp (Rep.mono hF (List.prefix_refl _) x u r)
  have other : (frz st.length st' x = if x.pure then some x else none) → Rp K ⟨W.ρ, W'.hid⟩ H' y u := fun e => by
    rw [e] at hf
    split at hf
    · rename_i hp
      cases hf
      exact pureCase hp
    · cases hf
  cases x with
  | ref i =>
    obtain ⟨a, rfl, ha⟩ : ∃ a, u = .ref a ∧ W'.ρ[i]? = some a := by simpa only [Rp, Rep] using r
    simp only [frz] at hf
    split at hf
    · rename_i hi
      cases hf
      show Rep _ _ _ _ _
      simp only [Rep]
      obtain ⟨t, ht⟩ := hpre
      rw [← ht, List.getElem?_append_left (by omega)] at ha
      exact ⟨a, rfl, ha⟩
    · rename_i hi
      have hnρ : a ∉ W.ρ := fun q => by
        obtain ⟨j, hj, e⟩ := List.getElem_of_mem q
        have h1 : W'.ρ[j]? = some a := pre_get hpre (by rw [List.getElem?_eq_getElem hj, e])
        obtain ⟨g1, k1⟩ := List.getElem?_eq_some_iff.mp h1
        obtain ⟨g2, k2⟩ := List.getElem?_eq_some_iff.mp ha
        have := (List.getElem_inj ss'.nd).mp (k1.trans k2.symm)
        omega
      have hnh : a ∉ W'.hid := ss'.dj a (List.mem_of_getElem? ha)
      split at hf
      · rename_i ys es
        split at hf
        · rename_i hp
          cases hf
          obtain ⟨vs, h1, h2, hz⟩ := ss'.ob i _ a es ha
          show Rep _ _ _ _ _
          simp only [Rep]
          exact ⟨a, vs, rfl, Fz_some.mpr ⟨hnρ, hnh, h1⟩, RepL.pure ys vs hp (RepL.mono hF (List.prefix_refl _) _ _ h2), hz⟩
        · cases hf
      · rename_i ps es
        split at hf
        · rename_i hp
          cases hf
          obtain ⟨vs, h1, h2, hz⟩ := ss'.ob i _ a es ha
          show Rep _ _ _ _ _
          simp only [Rep]
          exact ⟨a, vs, rfl, .inl (Fz_some.mpr ⟨hnρ, hnh, h1⟩), RepD.pure ps vs hp (RepD.mono hF (List.prefix_refl _) _ _ h2), hz⟩
        · cases hf
      · cases hf
  | _ => exact other rfl
/-- a promise whose new objects are let go -/
theorem sp_cut {n : Nat} {φ : FnM} : ∀ vs H Q E, spM K n (fun xs st => cut st (φ xs st)) vs H Q E → spM K n φ vs H Q E := by
  rintro vs H Q E ⟨W, st, xs, ss, r, e, h⟩
  refine ⟨W, st, xs, ss, r, e, ?_⟩
  have h : tMr K E W H Q (cut st (φ xs st)) := h
  cases ef : φ xs st with
  | none => rw [ef] at h; exact h
  | some rr =>
    rw [ef] at h
    cases rr with
    | exc x s => exact h.elim
    | ok v s =>
      intro u H' W' l ss' rv
      by_cases hc : Closed st s
      · have hcut : cut st (some (.ok v s)) = (frz st.length s v).map fun v' => .ok v' (s.take st.length) := if_pos hc
        rw [hcut] at h
        · obtain ⟨l2, ss2, hF⟩ := cut_world ss l ss' hc
          cases efz : frz st.length s v with
          | none => rw [efz] at h; exact h.elim
          | some y =>
            rw [efz] at h
            exact h u H' _ l2 ss2 (frz_rep ss.len l.pre ss' hF efz rv)
      · have hcut : cut st (some (.ok v s)) = none := if_neg hc
        rw [hcut] at h
        exact h.elim
theorem def_okT {x qual : Str} {st : Stmt} {f : Addr} {fd : FuncData} {N ps : List Str} {k : Nat} {mb : MS} (F : Fun K x qual st f fd) (S : FnScope N ps (defScope st))
    (hb : ∀ (cdv : Value) (A : Around) (outer : List Env) (s : Shared) (H : Hp) (E : XK), A.guards = some [] → Room k (A.deeper (envOfC qual (defScope st) s.heap.objs.size f cdv)) →
      MSs (cxOf CX0 P w K mg base N qual (defScope st) f cdv A outer s H E).nox E00 (defBody st) mb) : FnG P w K mg base CX0 (k + 1) f fd ps (spM K ps.length (defT ps.length N.length mb)) := by
  exact (def_ok (P := P) (w := w) (mg := mg) (base := base) (k := k) F S hb).weaken fun vs H Q E h => sp_cut vs H Q E h
theorem defN_ar {n nN : Nat} {b : MS} : ∀ xs st r, defN n nN b xs st = some r → xs.length = n := fun xs st r h => by
  unfold defN onlyOk defP at h
  by_cases e : xs.length = n
  · exact e
  · rw [if_neg e] at h; cases h
theorem defT_ar {n nN : Nat} {b : MS} : ∀ xs st r, defT n nN b xs st = some r → xs.length = n := fun xs st r h => by
  unfold defT at h
  cases e : defN n nN b xs st with
  | none => rw [e] at h; cases h
  | some r' => exact defN_ar xs st r' e
end

/-! ### calls -/
def mCall0 (φ : FnM) (m : M (List PV)) : M PV := m.bind fun xs _ st => match φ xs st with
  | some (.ok v s) => some (.ok v s)
  | _ => none
section
variable {X : Cx} {E : EX} {n k : Nat} {f : Addr} {fd : FuncData} {ps : List Str} {φ : FnM} {x : Str} {p pos : Pos} {e : Expr} {es : List Expr} {m : M (List PV)}
theorem call0_body {K : PySem.W.Frag} {σ : L2.St} {H : Hp} {Q : VK} {arity : Nat} (har : ∀ xs st r, φ xs st = some r → xs.length = arity) (q : tM K E (mCall0 φ m) σ H Q) : tML K E m σ H fun vs H1 => spM K arity φ vs H1 Q E0 := by
  obtain ⟨W, env, st, sl, ss, q⟩ := q
  refine bindL_at sl ss q fun xs us st1 W1 H1 l1 sl1 ss1 rx q1 => ?_
  cases ef : φ xs st1 with
  | none => rw [ef] at q1; exact q1.elim
  | some r =>
    rw [ef] at q1
    refine ⟨W1, st1, xs, ss1, rx, har xs st1 r ef, ?_⟩
    rw [ef]
    cases r with
    | ok v s => exact q1
    | exc y s => exact q1.elim
theorem m_call0 (F : FnG X.prog X.w X.K X.mg X.base CX0 k f fd ps (spM X.K ps.length φ)) (har : ∀ xs st r, φ xs st = some r → xs.length = ps.length) (hG : X.A.guards = some []) (hr : Room k X.A) (hg : Gl X x) (hm : X.mg x = some (.ref f)) (hk : PySem.W.keepIn X.K (.ref f) = true) (hb : Binds X.K fd ps [])
    (ha : MA X E (e :: es) m) (hdb : (x == ("__debug__" : Str)) = false := by decide) (he : starEach (e :: es) X.env = (false, eval e X.env) :: starEach es X.env := by rfl) (hpl : (backTo pos (starEach es X.env)).any (·.1) = false := by rfl) :
    ME X E (.Call (.Name x p) (e :: es) [] pos) (mCall0 φ m) :=
  peW (pe_callG F hG hr hg hm hk hb pass0 ha hdb he hpl) fun _ _ _ q => call0_body har q
end
end Mi

/-! Mi6: what is built in, by values. -/
namespace Mi
open PySem PySem.Spec PyProof.Rows L2

/-! ### what a value holds -/
def asL (st : Sto) : PV → Option (List PV)
  | .lst xs => some xs
  | .ref i => match st[i]? with
    | some (.lst xs) => some xs
    | _ => none
  | _ => none
def asS (st : Sto) : PV → Option (List PV)
  | .rol xs => some xs
  | x => asL st x
def asT : PV → Option (List PV)
  | .tup xs => some xs
  | _ => none
section
variable {K : PySem.W.Frag} {W : Wd} {st : Sto} {H : Hp} {x : PV} {u : V} {xs : List PV}
theorem asL_inv (ss : SimS K W st H) (r : Rp K W H x u) (h : asL st x = some xs) : ∃ a vs, u = .ref a ∧ H a = some (.lst vs) ∧ RpL K W H xs vs ∧ xs.length ≤ sizeLine := by
  cases x with
  | lst ys =>
    simp only [asL, Option.some.injEq] at h
    subst h
    obtain ⟨a, vs, e, h1, h2, hz⟩ : ∃ a vs, u = .ref a ∧ Fz W H a = some (.lst vs) ∧ RepL K (Fz W H) W.ρ ys vs ∧ ys.length ≤ sizeLine := by simpa only [Rp, Rep] using r
    exact ⟨a, vs, e, Fz_le h1, h2, hz⟩
  | ref i =>
    simp only [asL] at h
    split at h
    · rename_i ys es
      cases h
      obtain ⟨a, e, ha⟩ : ∃ a, u = .ref a ∧ W.ρ[i]? = some a := by simpa only [Rp, Rep] using r
      obtain ⟨vs, h1, h2, hz⟩ := ss.ob i _ a es ha
      exact ⟨a, vs, e, h1, h2, hz⟩
    · cases h
  | _ => simp [asL] at h
theorem asS_inv (ss : SimS K W st H) (r : Rp K W H x u) (h : asS st x = some xs) : ∃ a vs, u = .ref a ∧ SqL K H a vs ∧ RpL K W H xs vs ∧ xs.length ≤ sizeLine := by
  by_cases hr : ∃ ys, x = .rol ys
  · obtain ⟨ys, rfl⟩ := hr
    simp only [asS, Option.some.injEq] at h
    subst h
    obtain ⟨a, vs, e, h1, h2, hz⟩ : ∃ a vs, u = .ref a ∧ SqL K (Fz W H) a vs ∧ RepL K (Fz W H) W.ρ ys vs ∧ ys.length ≤ sizeLine := by simpa only [Rp, Rep] using r
    exact ⟨a, vs, e, SqL.mono (fun _ _ h => Fz_le h) h1, h2, hz⟩
  · have h' : asL st x = some xs := by
      cases x with
      | rol ys => exact absurd ⟨ys, rfl⟩ hr
      | _ => exact h
    obtain ⟨a, vs, e, h1, h2, hz⟩ := asL_inv ss r h'
    exact ⟨a, vs, e, .inl (.inl h1), h2, hz⟩
theorem asT_inv (r : Rp K W H x u) (h : asT x = some xs) : ∃ a vs, u = .ref a ∧ SqT K H a vs ∧ RpL K W H xs vs ∧ xs.length ≤ sizeLine := by
  cases x with
  | tup ys =>
    simp only [asT, Option.some.injEq] at h
    subst h
    obtain ⟨a, vs, e, h1, h2, hz⟩ : ∃ a vs, u = .ref a ∧ SqT K (Fz W H) a vs ∧ RepL K (Fz W H) W.ρ ys vs ∧ ys.length ≤ sizeLine := by simpa only [Rp, Rep] using r
    exact ⟨a, vs, e, SqT.mono (fun _ _ h => Fz_le h) h1, h2, hz⟩
  | _ => simp [asT] at h
theorem int_inv {i : Int} (r : Rp K W H (.int i) u) : u = .int i := by simpa only [Rp, Rep] using r
theorem bl_inv' {i : Bool} (r : Rp K W H (.bl i) u) : u = .bl i := by simpa only [Rp, Rep] using r
theorem non_inv (r : Rp K W H .non u) : u = .non := by simpa only [Rp, Rep] using r
theorem str_inv {z : Str} (r : Rp K W H (.str z) u) : u = .str z ∧ z.length ≤ sizeLine := by simpa only [Rp, Rep] using r
theorem opq_inv {v : V} (r : Rp K W H (.opq v) u) : u = v := by simpa only [Rp, Rep] using r
theorem rp_int {i : Int} : Rp K W H (.int i) (.int i) := by simp only [Rp, Rep]
theorem rp_bl {i : Bool} : Rp K W H (.bl i) (.bl i) := by simp only [Rp, Rep]
theorem rp_non : Rp K W H .non .non := by simp only [Rp, Rep]
theorem rp_str {z : Str} (h : z.length ≤ sizeLine) : Rp K W H (.str z) (.str z) := by simp only [Rp, Rep, true_and]; exact h
theorem RepL.one {F : Hp} {ρ : List Addr} {us : List V} (r : RepL K F ρ [x] us) : ∃ u, us = [u] ∧ Rep K F ρ x u := by
  simp only [RepL] at r
  obtain ⟨u, _, rfl, h, rfl⟩ := r
  exact ⟨u, rfl, h⟩
theorem RepL.two {F : Hp} {ρ : List Addr} {y : PV} {us : List V} (r : RepL K F ρ [x, y] us) : ∃ u v, us = [u, v] ∧ Rep K F ρ x u ∧ Rep K F ρ y v := by
  simp only [RepL] at r
  obtain ⟨u, _, rfl, h, v, _, rfl, h2, rfl⟩ := r
  exact ⟨u, v, rfl, h, h2⟩
theorem RepL.drop {F : Hp} {ρ : List Addr} : ∀ (n : Nat) {xs : List PV} {us : List V}, RepL K F ρ xs us → RepL K F ρ (xs.drop n) (us.drop n)
  | 0, _, _, r => r
  | n + 1, [], us, r => by simp only [RepL] at r; subst r; simp only [List.drop_nil]; exact RepL.nil
  | n + 1, x :: xs, us, r => by
    simp only [RepL] at r
    obtain ⟨u, t, rfl, _, h⟩ := r
    exact RepL.drop n h
theorem RepL.take {F : Hp} {ρ : List Addr} : ∀ (n : Nat) {xs : List PV} {us : List V}, RepL K F ρ xs us → RepL K F ρ (xs.take n) (us.take n)
  | 0, _, _, _ => by simp only [List.take_zero]; exact RepL.nil
  | n + 1, [], us, r => by simp only [RepL] at r; subst r; simp only [List.take_nil]; exact RepL.nil
  | n + 1, x :: xs, us, r => by
    simp only [RepL] at r
    obtain ⟨u, t, rfl, h1, h⟩ := r
    simp only [List.take_succ_cons]
    exact RepL.cons h1 (RepL.take n h)
theorem RepL.set {F : Hp} {ρ : List Addr} : ∀ (n : Nat) {xs : List PV} {us : List V} {y : PV} {v : V}, RepL K F ρ xs us → Rep K F ρ y v → RepL K F ρ (xs.set n y) (us.set n v)
  | _, [], us, y, v, r, _ => by simp only [RepL] at r; subst r; simp only [List.set_nil]; exact RepL.nil
  | 0, x :: xs, us, y, v, r, ry => by
    simp only [RepL] at r
    obtain ⟨u, t, rfl, h1, h⟩ := r
    simp only [List.set_cons_zero]
    exact RepL.cons ry h
  | n + 1, x :: xs, us, y, v, r, ry => by
    simp only [RepL] at r
    obtain ⟨u, t, rfl, h1, h⟩ := r
    simp only [List.set_cons_succ]
    exact RepL.cons h1 (RepL.set n h ry)
end

/-! ### arithmetic -/
section
variable {X : Cx}
def oAdd : O2 := fun x y st => match x, y with
  | .int i, .int j => some (.int (i + j))
  | .str a, .str b => if a.length + b.length ≤ sizeLine then some (.str (a ++ b)) else none
  | .tup xs, .tup ys => if xs.length + ys.length ≤ sizeLine then some (.tup (xs ++ ys)) else none
  | x, y => match asL st x, asL st y with
    | some xs, some ys => if xs.length + ys.length ≤ sizeLine then some (.lst (xs ++ ys)) else none
    | _, _ => none
theorem str_app_len (a b : Str) : (a ++ b).length = a.length + b.length := by
  show (Str.append a b).cps.size = _
  simp [Str.append, Str.length]
theorem oAdd_list {x y z : PV} {st : Sto} (h1 : ∀ i j, ¬ (x = .int i ∧ y = .int j)) (h2 : ∀ i j, ¬ (x = .str i ∧ y = .str j)) (h3 : ∀ i j, ¬ (x = .tup i ∧ y = .tup j)) (h : oAdd x y st = some z) :
    ∃ xs ys, asL st x = some xs ∧ asL st y = some ys ∧ xs.length + ys.length ≤ sizeLine ∧ z = .lst (xs ++ ys) := by
  unfold oAdd at h
  split at h
  · exact absurd ⟨rfl, rfl⟩ (h1 _ _)
  · exact absurd ⟨rfl, rfl⟩ (h2 _ _)
  · exact absurd ⟨rfl, rfl⟩ (h3 _ _)
  · split at h
    · rename_i xs ys e1 e2
      split at h
      · rename_i hz
        cases h
        exact ⟨xs, ys, e1, e2, hz, rfl⟩
      · cases h
    · cases h
theorem r_add : OpR X (binaryOp .Add) (rM2 X.K oAdd) := by
  intro pins s σ H xv yv v u Q I rx ry h
  obtain ⟨W, st, x, y, z, ss, hx, hy, ho, q⟩ := h
  by_cases c1 : ∃ i j, x = .int i ∧ y = .int j
  · obtain ⟨i, j, rfl, rfl⟩ := c1
    simp only [oAdd, Option.some.injEq] at ho
    subst ho
    exact op_add pins s σ H xv yv v u Q I rx ry ⟨i, j, int_inv hx, int_inv hy, q _ H (Le.refl _ _) ss rp_int⟩
  by_cases c2 : ∃ i j, x = .str i ∧ y = .str j
  · obtain ⟨i, j, rfl, rfl⟩ := c2
    simp only [oAdd] at ho
    split at ho
    · rename_i hz
      cases ho
      exact op_add_str pins s σ H xv yv v u Q I rx ry ⟨i, j, (str_inv hx).1, (str_inv hy).1, hz, q _ H (Le.refl _ _) ss (rp_str (by rw [str_app_len]; exact hz))⟩
    · cases ho
  by_cases c3 : ∃ i j, x = .tup i ∧ y = .tup j
  · obtain ⟨xs, ys, rfl, rfl⟩ := c3
    simp only [oAdd] at ho
    split at ho
    · rename_i hz
      cases ho
      obtain ⟨a, vs, rfl, s1, r1, z1⟩ := asT_inv hx rfl
      obtain ⟨b, ws, rfl, s2, r2, z2⟩ := asT_inv hy rfl
      refine op_catA pins s σ H _ _ v u Q I rx ry ⟨a, b, vs, ws, rfl, rfl, s1, s2, by rw [r1.len, r2.len]; exact hz, fun e => ?_, fun e1 e2 => ?_, fun e1 e2 p hp => ?_⟩
      · have : xs = [] := by
          have := r1.len; rw [e] at this; exact List.length_eq_zero_iff.mp this.symm
        subst this
        exact q _ H (Le.refl _ _) ss (by rw [List.nil_append]; exact hy)
      · have : ys = [] := by
          have := r2.len; rw [e2] at this; exact List.length_eq_zero_iff.mp this.symm
        subst this
        exact q _ H (Le.refl _ _) ss (by rw [List.append_nil]; exact hx)
      · obtain ⟨l, s'⟩ := ss.new (o := .tup (vs ++ ws)) hp
        exact q _ _ l s' (new_tup ss hp (RepL.append r1 r2) (by rw [List.length_append]; exact hz))
    · cases ho
  obtain ⟨xs, ys, e1, e2, hz, rfl⟩ := oAdd_list (fun i j h => c1 ⟨i, j, h⟩) (fun i j h => c2 ⟨i, j, h⟩) (fun i j h => c3 ⟨i, j, h⟩) ho
  obtain ⟨a, vs, rfl, s1, r1, z1⟩ := asL_inv ss hx e1
  obtain ⟨b, ws, rfl, s2, r2, z2⟩ := asL_inv ss hy e2
  refine op_cat pins s σ H _ _ v u Q I rx ry ⟨a, b, vs, ws, rfl, rfl, s1, s2, by rw [r1.len, r2.len]; exact hz, fun p hp => ?_⟩
  obtain ⟨l, s'⟩ := ss.new (o := .lst (vs ++ ws)) hp
  exact q _ _ l s' (new_lst ss hp (RepL.append r1 r2) (by rw [List.length_append]; exact hz))
open Classical in
/-- ints in, under C -/
noncomputable def oI (C : Int → Int → Prop) (g : Int → Int → PV) : O2 := fun x y _ => match x, y with
  | .int i, .int j => if C i j then some (g i j) else none
  | _, _ => none
theorem oI_inv {C : Int → Int → Prop} {g : Int → Int → PV} {x y z : PV} {st : Sto} (h : oI C g x y st = some z) : ∃ i j, x = .int i ∧ y = .int j ∧ C i j ∧ z = g i j := by
  unfold oI at h
  split at h
  · rename_i i j
    split at h
    · rename_i hc; cases h; exact ⟨i, j, rfl, rfl, hc, rfl⟩
    · cases h
  · cases h
theorem r_I {f : Value → Value → Sem Value} {C : Int → Int → Prop} {g : Int → Int → Int} (ho : OpR X f (rI C fun i j => .int (g i j))) : OpR X f (rM2 X.K (oI C fun i j => .int (g i j))) := by
  intro pins s σ H xv yv v u Q I rx ry h
  obtain ⟨W, st, x, y, z, ss, hx, hy, hz, q⟩ := h
  obtain ⟨i, j, rfl, rfl, hc, rfl⟩ := oI_inv hz
  exact ho pins s σ H xv yv v u Q I rx ry ⟨i, j, int_inv hx, int_inv hy, hc, q _ H (Le.refl _ _) ss rp_int⟩
theorem r_I0 {f : Value → Value → Sem Value} {g : Int → Int → Int} (ho : OpR X f (rI0 fun i j => .int (g i j))) : OpR X f (rM2 X.K (oI (fun _ _ => True) fun i j => .int (g i j))) := by
  intro pins s σ H xv yv v u Q I rx ry h
  obtain ⟨W, st, x, y, z, ss, hx, hy, hz, q⟩ := h
  obtain ⟨i, j, rfl, rfl, hc, rfl⟩ := oI_inv hz
  exact ho pins s σ H xv yv v u Q I rx ry ⟨i, j, int_inv hx, int_inv hy, q _ H (Le.refl _ _) ss rp_int⟩
noncomputable def oSub : O2 := oI (fun _ _ => True) fun i j => .int (i - j)
noncomputable def oMul : O2 := oI (fun i j => CMul i j ∨ CMulW i j) fun i j => .int (i * j)
/-- // by a divisor that is not 0, below 2 ^ 9000 either way -/
def CDivA (_ j : Int) : Prop := j ≠ 0 ∧ j.natAbs.log2 < 9000
theorem op_fdivA : OpR X (binaryOp .FloorDiv) (rI CDivA fun i j => .int (i.fdiv j)) := opI fun _ _ _ _ _ _ _ hc q => floordiv_int hc.1 q (.inl (PyProof.noPylong_of_log2 hc.2))
noncomputable def oDiv : O2 := oI CDivA fun i j => .int (i.fdiv j)
noncomputable def oMod : O2 := oI (fun _ j => j ≠ 0) fun i j => .int (i.fmod j)
noncomputable def oPow : O2 := oI CPow fun i j => .int (i ^ j.toNat)
theorem r_sub : OpR X (binaryOp .Sub) (rM2 X.K oSub) := r_I0 op_sub
theorem r_mul : OpR X (binaryOp .Mult) (rM2 X.K oMul) := r_I (C := fun i j => CMul i j ∨ CMulW i j) (fun pins s σ H x y v u Q I rx ry h => by
  obtain ⟨i, j, e1, e2, hc, q⟩ := h
  rcases hc with hc | hc
  · exact op_mul pins s σ H x y v u Q I rx ry ⟨i, j, e1, e2, hc, q⟩
  · exact op_mulW pins s σ H x y v u Q I rx ry ⟨i, j, e1, e2, hc, q⟩)
theorem r_div : OpR X (binaryOp .FloorDiv) (rM2 X.K oDiv) := r_I op_fdivA
theorem r_mod : OpR X (binaryOp .Mod) (rM2 X.K oMod) := r_I op_modN
theorem r_pow : OpR X (binaryOp .Pow) (rM2 X.K oPow) := r_I op_pow
def oNeg : O1 := fun x _ => match x with
  | .int i => some (.int (-i))
  | _ => none
theorem r_neg : UnR X (unaryOp .USub) (rM1 X.K oNeg) := by
  intro pins s σ H xv v Q I rx h
  obtain ⟨W, st, x, z, ss, hx, hz, q⟩ := h
  cases x with
  | int i =>
    simp only [oNeg, Option.some.injEq] at hz
    subst hz
    exact un_neg pins s σ H xv v Q I rx ⟨i, int_inv hx, q _ H (Le.refl _ _) ss rp_int⟩
  | _ => simp [oNeg] at hz

/-! ### order -/
def oLt : O2 := fun x y _ => match x, y with
  | .int i, .int j => some (.bl (decide (i < j)))
  | .str a, .str b => some (.bl (decide (a.cps.toList < b.cps.toList)))
  | _, _ => none
theorem r_lt : OpR X (compareOp .Lt) (rM2 X.K oLt) := by
  intro pins s σ H xv yv v u Q I rx ry h
  obtain ⟨W, st, x, y, z, ss, hx, hy, hz, q⟩ := h
  unfold oLt at hz
  split at hz
  · rename_i i j
    cases hz
    exact op_lt pins s σ H xv yv v u Q I rx ry ⟨i, j, int_inv hx, int_inv hy, q _ H (Le.refl _ _) ss rp_bl⟩
  · rename_i i j
    cases hz
    exact op_lt_str pins s σ H xv yv v u Q I rx ry ⟨i, j, (str_inv hx).1, (str_inv hy).1, q _ H (Le.refl _ _) ss rp_bl⟩
  · cases hz
theorem r_B0 {f : Value → Value → Sem Value} {g : Int → Int → Bool} (ho : OpR X f (rI0 fun i j => .bl (g i j))) : OpR X f (rM2 X.K (oI (fun _ _ => True) fun i j => .bl (g i j))) := by
  intro pins s σ H xv yv v u Q I rx ry h
  obtain ⟨W, st, x, y, z, ss, hx, hy, hz, q⟩ := h
  obtain ⟨i, j, rfl, rfl, hc, rfl⟩ := oI_inv hz
  exact ho pins s σ H xv yv v u Q I rx ry ⟨i, j, int_inv hx, int_inv hy, q _ H (Le.refl _ _) ss rp_bl⟩
noncomputable def oLe : O2 := oI (fun _ _ => True) fun i j => .bl (decide (i ≤ j))
noncomputable def oGt : O2 := oI (fun _ _ => True) fun i j => .bl (decide (j < i))
noncomputable def oGe : O2 := oI (fun _ _ => True) fun i j => .bl (decide (j ≤ i))
theorem r_le : OpR X (compareOp .LtE) (rM2 X.K oLe) := r_B0 op_le
theorem r_gt : OpR X (compareOp .Gt) (rM2 X.K oGt) := r_B0 op_gt
theorem r_ge : OpR X (compareOp .GtE) (rM2 X.K oGe) := r_B0 op_ge
end

/-! ### data: ==, in, repr -/
mutual
def dataP : PV → Option PyData
  | .non => some .none
  | .bl b => some (.bool b)
  | .int i => some (.int i)
  | .str x => some (.str x)
  | .tup xs => (dataPL xs).map .tuple
  | .lst xs => (dataPL xs).map .list
  | .rol xs => (dataPL xs).map .list
  | _ => none
def dataPL : List PV → Option (List PyData)
  | [] => some []
  | x :: xs => match dataP x, dataPL xs with
    | some d, some ds => some (d :: ds)
    | _, _ => none
end
def dataV (st : Sto) : PV → Option PyData
  | .ref i => match st[i]? with
    | some (.lst xs) => (dataPL xs).map .list
    | _ => none
  | x => dataP x
section
variable {K : PySem.W.Frag} {W : Wd} {st : Sto} {H : Hp}
mutual
theorem dp_of : ∀ (x : PV) (u : V) (d : PyData), Rp K W H x u → dataP x = some d → Dp K H u d
  | .non, u, d, r, h => by
    simp only [dataP, Option.some.injEq] at h; subst h
    rw [non_inv r]; exact .non
  | .bl b, u, d, r, h => by
    simp only [dataP, Option.some.injEq] at h; subst h
    rw [bl_inv' r]; exact .bl b
  | .int i, u, d, r, h => by
    simp only [dataP, Option.some.injEq] at h; subst h
    rw [int_inv r]; exact .int i
  | .str x, u, d, r, h => by
    simp only [dataP, Option.some.injEq] at h; subst h
    rw [(str_inv r).1]; exact .str x
  | .tup xs, u, d, r, h => by
    simp only [dataP, Option.map_eq_some_iff] at h
    obtain ⟨ds, h1, rfl⟩ := h
    obtain ⟨a, vs, rfl, s1, r1, _⟩ := asT_inv r rfl
    exact .tup s1 (dpl_of xs vs ds r1 h1)
  | .lst xs, u, d, r, h => by
    simp only [dataP, Option.map_eq_some_iff] at h
    obtain ⟨ds, h1, rfl⟩ := h
    obtain ⟨a, vs, rfl, s1, r1, _⟩ : ∃ a vs, u = .ref a ∧ Fz W H a = some (.lst vs) ∧ RepL K (Fz W H) W.ρ xs vs ∧ xs.length ≤ sizeLine := by simpa only [Rp, Rep] using r
    exact .lst (.inl (.inl (Fz_le s1))) (dpl_of xs vs ds r1 h1)
  | .rol xs, u, d, r, h => by
    simp only [dataP, Option.map_eq_some_iff] at h
    obtain ⟨ds, h1, rfl⟩ := h
    obtain ⟨a, vs, rfl, s1, r1, _⟩ : ∃ a vs, u = .ref a ∧ SqL K (Fz W H) a vs ∧ RepL K (Fz W H) W.ρ xs vs ∧ xs.length ≤ sizeLine := by simpa only [Rp, Rep] using r
    exact .lst (SqL.mono (fun _ _ h => Fz_le h) s1) (dpl_of xs vs ds r1 h1)
  | .dic _, _, _, _, h => by simp [dataP] at h
  | .ref _, _, _, _, h => by simp [dataP] at h
  | .opq _, _, _, _, h => by simp [dataP] at h
  | .exc _ _, _, _, _, h => by simp [dataP] at h
theorem dpl_of : ∀ (xs : List PV) (us : List V) (ds : List PyData), RpL K W H xs us → dataPL xs = some ds → DpAll K H us ds
  | [], us, ds, r, h => by
    simp only [dataPL, Option.some.injEq] at h; subst h
    simp only [RpL, RepL] at r; subst r
    exact .nil
  | x :: xs, us, ds, r, h => by
    simp only [RpL, RepL] at r
    obtain ⟨v, t, rfl, r1, r2⟩ := r
    simp only [dataPL] at h
    split at h
    · rename_i d ds' e1 e2
      cases h
      exact .cons (dp_of x v d r1 e1) (dpl_of xs t ds' r2 e2)
    · cases h
end
theorem dv_of (ss : SimS K W st H) (x : PV) (u : V) (d : PyData) (r : Rp K W H x u) (h : dataV st x = some d) : Dp K H u d := by
  by_cases hr : ∃ i, x = .ref i
  · obtain ⟨i, rfl⟩ := hr
    simp only [dataV] at h
    split at h
    · rename_i xs es
      rw [Option.map_eq_some_iff] at h
      obtain ⟨ds, h1, rfl⟩ := h
      obtain ⟨a, vs, rfl, s1, r1, _⟩ := asL_inv ss r (show asL st (.ref i) = some xs by simp only [asL, es])
      exact .lst (.inl (.inl s1)) (dpl_of xs vs ds r1 h1)
    · cases h
  · have h' : dataP x = some d := by
      cases x with
      | ref i => exact absurd ⟨i, rfl⟩ hr
      | _ => exact h
    exact dp_of x u d r h'
mutual
theorem plain_dp : ∀ (d : PyData) (u : V), Dp K H u d → d.plain = true
  | .none, _, _ => rfl
  | .bool _, _, _ => rfl
  | .int _, _, _ => rfl
  | .str _, _, _ => rfl
  | .list ds, _, h => by
    simp only [PyData.plain]
    cases h with
    | lst _ hl => exact plain_dpl ds _ hl
  | .tuple ds, _, h => by
    simp only [PyData.plain]
    cases h with
    | tup _ hl => exact plain_dpl ds _ hl
  | .dict _, _, h => by cases h
theorem plain_dpl : ∀ (ds : List PyData) (us : List V), DpAll K H us ds → PyData.plainAll ds = true
  | [], _, _ => rfl
  | d :: ds, _, h => by
    cases h with
    | cons h1 h2 =>
      simp only [PyData.plainAll, Bool.and_eq_true]
      exact ⟨plain_dp d _ h1, plain_dpl ds _ h2⟩
end
end
def deep64 (d : PyData) : Bool := decide (d.depth ≤ 64)
/-- two lists of unlike lengths -/
def unlike (st : Sto) (x y : PV) : Bool := match asS st x, asS st y with
  | some xs, some ys => xs.length != ys.length
  | _, _ => false
def oEqB (x y : PV) (st : Sto) : Option Bool := if unlike st x y then some false else match dataV st x, dataV st y with
  | some d, some e => if deep64 d && deep64 e then some (PyData.eqv d e) else none
  | _, _ => none
def oEq : O2 := fun x y st => (oEqB x y st).map .bl
def oNe : O2 := fun x y st => (oEqB x y st).map fun b => .bl (!b)
section
variable {X : Cx}
theorem oEqB_cases {K : PySem.W.Frag} {W : Wd} {st : Sto} {H : Hp} {x y : PV} {u v : V} {b : Bool} (ss : SimS K W st H) (hx : Rp K W H x u) (hy : Rp K W H y v) (h : oEqB x y st = some b) :
    (b = false ∧ ∃ a c vs ws, u = .ref a ∧ v = .ref c ∧ SqL K H a vs ∧ SqL K H c ws ∧ vs.length ≠ ws.length) ∨ ∃ d e, Dp K H u d ∧ Dp K H v e ∧ d.depth ≤ 64 ∧ b = PyData.eqv d e := by
  unfold oEqB at h
  split at h
  · rename_i hu
    cases h
    unfold unlike at hu
    split at hu
    · rename_i xs ys e1 e2
      obtain ⟨a, vs, rfl, s1, r1, _⟩ := asS_inv ss hx e1
      obtain ⟨c, ws, rfl, s2, r2, _⟩ := asS_inv ss hy e2
      exact .inl ⟨rfl, a, c, vs, ws, rfl, rfl, s1, s2, by rw [r1.len, r2.len]; simpa using hu⟩
    · cases hu
  · split at h
    · rename_i d e e1 e2
      split at h
      · rename_i hd
        cases h
        simp only [deep64, Bool.and_eq_true, decide_eq_true_eq] at hd
        exact .inr ⟨d, e, dv_of ss x u d hx e1, dv_of ss y v e hy e2, hd.1, rfl⟩
      · cases h
    · cases h
theorem lens_ne {pins : List (Addr × Obj)} {σ : L2.St} {H : Hp} {s : Shared} {a c : Addr} {vs ws : List V} (I : Inv X pins σ H s) (s1 : SqL X.K H a vs) (s2 : SqL X.K H c ws) (hne : vs.length ≠ ws.length) :
    ∃ i1 i2 : Array Value, s.heap.IsList a i1 ∧ s.heap.IsList c i2 ∧ (i1.size != i2.size) = true := by
  obtain ⟨l1, v1, p1, _⟩ := I.list s1
  obtain ⟨l2, v2, p2, _⟩ := I.list s2
  have e1 := v1.length
  have e2 := v2.length
  exact ⟨_, _, p1.isList, p2.isList, by simp only [List.size_toArray, bne_iff_ne]; omega⟩
theorem r_eq (hu : X.A.units + 66 < cLine) : OpR X (compareOp .Eq) (rM2 X.K oEq) := by
  intro pins s σ H xv yv v u Q I rx ry h
  obtain ⟨W, st, x, y, z, ss, hx, hy, hz, q⟩ := h
  unfold oEq at hz
  rw [Option.map_eq_some_iff] at hz
  obtain ⟨b, hb, rfl⟩ := hz
  have fin : EP X pins σ Q (.bool b) s := ⟨.bl b, H, I, rfl, q _ H (Le.refl _ _) ss rp_bl⟩
  rcases oEqB_cases ss hx hy hb with ⟨rfl, a, c, vs, ws, rfl, rfl, s1, s2, hne⟩ | ⟨d, e, h1, h2, hd, rfl⟩
  · cases rx
    cases ry
    obtain ⟨i1, i2, l1, l2, hn⟩ := lens_ne I s1 s2 hne
    exact SeqAt.RcAt.lists_lengths l1 l2 hn (by omega) X.prog X.w X.xe _ fin
  · obtain ⟨as, q1⟩ := Dp.reads I d xv v h1 rx
    obtain ⟨bs, q2⟩ := Dp.reads I e yv u h2 ry
    exact SeqAt.eq_plain q1 q2 (plain_dp d xv h1) (plain_dp e yv h2) (by have := Nat.min_le_left d.depth e.depth; omega) fin
theorem r_ne (hu : X.A.units + 66 < cLine) : OpR X (compareOp .NotEq) (rM2 X.K oNe) := by
  intro pins s σ H xv yv v u Q I rx ry h
  obtain ⟨W, st, x, y, z, ss, hx, hy, hz, q⟩ := h
  unfold oNe at hz
  rw [Option.map_eq_some_iff] at hz
  obtain ⟨b, hb, rfl⟩ := hz
  have fin : EP X pins σ Q (.bool (!b)) s := ⟨.bl (!b), H, I, rfl, q _ H (Le.refl _ _) ss rp_bl⟩
  rcases oEqB_cases ss hx hy hb with ⟨rfl, a, c, vs, ws, rfl, rfl, s1, s2, hne⟩ | ⟨d, e, h1, h2, hd, rfl⟩
  · cases rx
    cases ry
    obtain ⟨i1, i2, l1, l2, hn⟩ := lens_ne I s1 s2 hne
    exact SeqAt.RcNeAt.lists_lengths l1 l2 hn (by omega) X.prog X.w X.xe _ fin
  · obtain ⟨as, q1⟩ := Dp.reads I d xv v h1 rx
    obtain ⟨bs, q2⟩ := Dp.reads I e yv u h2 ry
    exact SeqAt.ne_plain q1 q2 (plain_dp d xv h1) (plain_dp e yv h2) (by have := Nat.min_le_left d.depth e.depth; omega) fin
end
end Mi

/-! Mi7: in, isinstance, len, places, slices, all, any, tuple, list, int, abs, gcd, repr; what changes. -/
namespace Mi
open PySem PySem.Spec PyProof.Rows L2

section
variable {X : Cx}
/-! ### in -/
/-- what `in` walks: a list's or a tuple's items -/
def asQ (st : Sto) (y : PV) : Option (List PV) := match asT y with
  | some xs => some xs
  | none => asS st y
def oInB (x y : PV) (st : Sto) : Option Bool := match x, y with
  | .str a, .str b => some (!(Builtin.Str.occurrences b a 0 b.length 1).isEmpty)
  | x, .dic ps => none
  | x, y => match dataV st x, dataV st y with
    | some d, some (.list es) => if deep64 d then some (es.any fun z => PyData.eqv z d) else none
    | some d, some (.tuple es) => if deep64 d then some (es.any fun z => PyData.eqv z d) else none
    | _, _ => none
def oIn : O2 := fun x y st => (oInB x y st).map .bl
def oNotIn : O2 := fun x y st => (oInB x y st).map fun b => .bl (!b)
theorem oInB_cases {K : PySem.W.Frag} {W : Wd} {st : Sto} {H : Hp} {x y : PV} {u v : V} {b : Bool} (ss : SimS K W st H) (hx : Rp K W H x u) (hy : Rp K W H y v) (h : oInB x y st = some b) :
    (∃ p q, u = .str p ∧ v = .str q ∧ b = !(Builtin.Str.occurrences q p 0 q.length 1).isEmpty) ∨
    ∃ d es, Dp K H u d ∧ d.depth ≤ 64 ∧ (Dp K H v (.list es) ∨ Dp K H v (.tuple es)) ∧ b = es.any fun z => PyData.eqv z d := by
  unfold oInB at h
  split at h
  · cases h
    exact .inl ⟨_, _, (str_inv hx).1, (str_inv hy).1, rfl⟩
  · cases h
  · split at h
    · rename_i d es e1 e2
      split at h
      · rename_i hd
        cases h
        exact .inr ⟨d, es, dv_of ss x u d hx e1, by simpa [deep64] using hd, .inl (dv_of ss y v _ hy e2), rfl⟩
      · cases h
    · rename_i d es e1 e2
      split at h
      · rename_i hd
        cases h
        exact .inr ⟨d, es, dv_of ss x u d hx e1, by simpa [deep64] using hd, .inr (dv_of ss y v _ hy e2), rfl⟩
      · cases h
    · cases h
theorem r_in (hu : X.A.units + 66 < cLine) : OpR X (compareOp .In) (rM2 X.K oIn) := by
  intro pins s σ H xv yv v u Q I rx ry h
  obtain ⟨W, st, x, y, z, ss, hx, hy, hz, q⟩ := h
  unfold oIn at hz
  rw [Option.map_eq_some_iff] at hz
  obtain ⟨b, hb, rfl⟩ := hz
  rcases oInB_cases ss hx hy hb with ⟨p, r, rfl, rfl, rfl⟩ | ⟨d, es, h1, hd, h2, rfl⟩
  · exact op_in_str pins s σ H _ _ v u Q I rx ry ⟨p, r, rfl, rfl, q _ H (Le.refl _ _) ss rp_bl⟩
  · have fin : EP X pins σ Q (.bool (es.any fun z => PyData.eqv z d)) s := ⟨.bl _, H, I, rfl, q _ H (Le.refl _ _) ss rp_bl⟩
    obtain ⟨as, q1⟩ := Dp.reads I d xv v h1 rx
    rcases h2 with h2 | h2
    · obtain ⟨bs, q2⟩ := Dp.reads I _ yv u h2 ry
      have hp := plain_dp _ yv h2
      exact SeqAt.in_list_data q2 q1 (by simpa only [PyData.plain] using hp) (plain_dp d xv h1) (by have := Nat.min_le_right (PyData.depthAll es) d.depth; omega) fin
    · obtain ⟨bs, q2⟩ := Dp.reads I _ yv u h2 ry
      have hp := plain_dp _ yv h2
      exact SeqAt.in_tuple_data q2 q1 (by simpa only [PyData.plain] using hp) (plain_dp d xv h1) (by have := Nat.min_le_right (PyData.depthAll es) d.depth; omega) fin
theorem r_notIn (hu : X.A.units + 66 < cLine) : OpR X (compareOp .NotIn) (rM2 X.K oNotIn) := by
  intro pins s σ H xv yv v u Q I rx ry h
  obtain ⟨W, st, x, y, z, ss, hx, hy, hz, q⟩ := h
  unfold oNotIn at hz
  rw [Option.map_eq_some_iff] at hz
  obtain ⟨b, hb, rfl⟩ := hz
  rcases oInB_cases ss hx hy hb with ⟨p, r, rfl, rfl, rfl⟩ | ⟨d, es, h1, hd, h2, rfl⟩
  · exact op_notIn_str pins s σ H _ _ v u Q I rx ry ⟨p, r, rfl, rfl, q _ H (Le.refl _ _) ss rp_bl⟩
  · have fin : EP X pins σ Q (.bool (!es.any fun z => PyData.eqv z d)) s := ⟨.bl _, H, I, rfl, q _ H (Le.refl _ _) ss rp_bl⟩
    obtain ⟨as, q1⟩ := Dp.reads I d xv v h1 rx
    rcases h2 with h2 | h2
    · obtain ⟨bs, q2⟩ := Dp.reads I _ yv u h2 ry
      have hp := plain_dp _ yv h2
      exact SeqAt.notIn_list_data q2 q1 (by simpa only [PyData.plain] using hp) (plain_dp d xv h1) (by have := Nat.min_le_right (PyData.depthAll es) d.depth; omega) fin
    · obtain ⟨bs, q2⟩ := Dp.reads I _ yv u h2 ry
      have hp := plain_dp _ yv h2
      exact SeqAt.notIn_tuple_data q2 q1 (by simpa only [PyData.plain] using hp) (plain_dp d xv h1) (by have := Nat.min_le_right (PyData.depthAll es) d.depth; omega) fin

/-! ### isinstance against a built-in class -/
def tyName (st : Sto) : PV → Option String
  | .non => some "NoneType"
  | .bl _ => some "bool"
  | .int _ => some "int"
  | .str _ => some "str"
  | .tup _ => some "tuple"
  | .lst _ => some "list"
  | .rol _ => some "list"
  | .dic _ => some "dict"
  | .ref i => match st[i]? with
    | some (.lst _) => some "list"
    | some (.dic _) => some "dict"
    | none => none
  | _ => none
def isKind (a b : String) : Bool := a == b || (a == "bool" && b == "int")
theorem kit_tab : ∀ a ∈ ["NoneType", "bool", "int", "str", "tuple", "list", "dict"], ∀ b ∈ kinds, kitB a b = some (isKind a b) := by decide +kernel
/-- errors held as values are of none of these -/
def oIsi : OL := fun xs st => match xs with
  | [.exc _ _, .opq (.ty T)] => if kinds.contains T then some (.bl false) else none
  | [x, .opq (.ty T)] => if kinds.contains T then match tyName st x with
      | some a => some (.bl (isKind a T))
      | none => none
    else none
  | _ => none
theorem tyx_of {K : PySem.W.Frag} {W : Wd} {st : Sto} {H : Hp} {x : PV} {u : V} {a : String} (ss : SimS K W st H) (r : Rp K W H x u) (h : tyName st x = some a) :
    TyX K H u (.type a) ∧ a ∈ ["NoneType", "bool", "int", "str", "tuple", "list", "dict"] := by
  cases x with
  | non => simp only [tyName, Option.some.injEq] at h; subst h; rw [non_inv r]; exact ⟨.base .non, by decide⟩
  | bl b => simp only [tyName, Option.some.injEq] at h; subst h; rw [bl_inv' r]; exact ⟨.base (.bl b), by decide⟩
  | int b => simp only [tyName, Option.some.injEq] at h; subst h; rw [int_inv r]; exact ⟨.base (.int b), by decide⟩
  | str b => simp only [tyName, Option.some.injEq] at h; subst h; rw [(str_inv r).1]; exact ⟨.base (.str b), by decide⟩
  | tup xs =>
    simp only [tyName, Option.some.injEq] at h; subst h
    obtain ⟨p, vs, rfl, s1, _, _⟩ := asT_inv r rfl
    refine ⟨?_, by decide⟩
    rcases s1 with (s1 | ⟨o, s1⟩) | ⟨o, its, n, s1, s2, _⟩
    · exact .base (.tup s1)
    · exact .fTuple s1
    · exact .kTuple s1 s2
  | lst xs =>
    simp only [tyName, Option.some.injEq] at h; subst h
    obtain ⟨p, vs, rfl, s1, _, _⟩ := asL_inv ss r rfl
    exact ⟨.base (.lst s1), by decide⟩
  | rol xs =>
    simp only [tyName, Option.some.injEq] at h; subst h
    obtain ⟨p, vs, rfl, s1, _, _⟩ := asS_inv (st := st) ss r rfl
    refine ⟨?_, by decide⟩
    rcases s1 with (s1 | ⟨o, s1⟩) | ⟨o, its, n, s1, s2, _⟩
    · exact .base (.lst s1)
    · exact .base (.frz s1)
    · exact .kList s1 s2
  | dic ps =>
    simp only [tyName, Option.some.injEq] at h; subst h
    obtain ⟨p, ks, rfl, s1, _, _⟩ : ∃ a ks, u = .ref a ∧ Rd (Fz W H) a (.dK ks) ∧ RepD K (Fz W H) W.ρ ps ks ∧ ps.length ≤ sizeLine := by simpa only [Rp, Rep] using r
    refine ⟨?_, by decide⟩
    rcases s1 with s1 | ⟨o, s1⟩
    · exact .base (.dK (Fz_le s1))
    · exact .fDict (Fz_le s1)
  | ref i =>
    obtain ⟨p, rfl, ha⟩ : ∃ a, u = .ref a ∧ W.ρ[i]? = some a := by simpa only [Rp, Rep] using r
    simp only [tyName] at h
    split at h
    · rename_i xs es
      cases h
      obtain ⟨vs, h1, _⟩ := ss.ob i _ p es ha
      exact ⟨.base (.lst h1), by decide⟩
    · rename_i xs es
      cases h
      obtain ⟨vs, h1, _⟩ := ss.ob i _ p es ha
      exact ⟨.base (.dK h1), by decide⟩
    · cases h
  | opq v => simp [tyName] at h
  | exc C fs => simp [tyName] at h
theorem inst_exc {P : Program} {w : World} {W : Wd} {H : Hp} {hp : Heap} {K : PySem.W.Frag} {C : Addr} {fs : List (Str × PV)} {u : V} (hok : HOk P w H hp) (r : Rp K W H (.exc C fs) u) :
    ExK K C ∧ ∃ a ox od, u = .ref a ∧ PySem.W.InstAt hp a ox C od := by
  obtain ⟨hk, a, e, h⟩ : ExK K C ∧ ∃ a, u = .ref a ∧ ((fs = [] ∧ Fz W H a = some (exo a C none)) ∨ ∃ d ks, Fz W H a = some (exo a C (some d)) ∧ Fz W H d = some (exd d ks) ∧ RepF K (Fz W H) W.ρ fs ks) := by
    simpa only [Rp, Rep] using r
  refine ⟨hk, a, ?_⟩
  rcases h with ⟨_, h1⟩ | ⟨d, ks, h1, h2, _⟩
  · obtain ⟨t1, ho⟩ := exo_at hok (Fz_le h1)
    exact ⟨_, none, e, ho, rfl, rfl, True.intro⟩
  · obtain ⟨t1, ho⟩ := exo_at hok (Fz_le h1)
    obtain ⟨mA, hn, _⟩ := exd_at hok (Fz_le h2)
    obtain ⟨oD, es, ep, hoD, _⟩ := hn
    exact ⟨_, some oD, e, ho, rfl, rfl, hoD⟩
theorem c_isi : CallR X (.builtin "isinstance") (rML X.K oIsi) := by
  intro pins s σ H vs us Q I r h
  obtain ⟨W, st, xs, z, ss, rx, hz, q⟩ := h
  unfold oIsi at hz
  split at hz
  · rename_i C fs T
    split at hz
    · rename_i hT
      cases hz
      obtain ⟨u1, u2, rfl, r1, r2⟩ := rx.two
      rw [opq_inv r2] at r
      obtain ⟨hk, a, ox, od, rfl, J⟩ := inst_exc I.hok r1
      obtain ⟨g, hgt⟩ := hk.gt
      cases r with
      | cons ra rr =>
        cases rr with
        | cons rt rr =>
          cases rr
          cases ra
          cases rt
          exact PySem.W.kia_one (PySem.W.kitx_exc hk.cl hk.ga hgt hk.ox.exC hk.cc hk.nn hk.tk hk.ob) I.kIn J (hk.no T (by simpa using hT)) (fun z => nomatch z) fun tk => ⟨.bl false, H, I.kept (t' := tk) fun _ _ z => z, rfl, q _ H (Le.refl _ _) ss rp_bl⟩
    · cases hz
  · rename_i x T _
    split at hz
    · rename_i hT
      split at hz
      · rename_i a ha
        cases hz
        obtain ⟨u1, u2, rfl, r1, r2⟩ := rx.two
        obtain ⟨ty, hm⟩ := tyx_of ss r1 ha
        rw [opq_inv r2] at r
        exact call_isi pins s σ H _ us Q I r ⟨u1, .ty T, .type a, .type T, _, rfl, .ty T, ty, kit_ty (kit_tab a hm T (by simpa using hT)), q _ H (Le.refl _ _) ss rp_bl⟩
      · cases hz
    · cases hz
  · cases hz

/-! ### len -/
def oLen : OL := fun xs st => match xs with
  | [.str z] => some (.int z.length)
  | [x] => match asQ st x with
    | some ys => some (.int ys.length)
    | none => none
  | _ => none
theorem asQ_inv {K : PySem.W.Frag} {W : Wd} {st : Sto} {H : Hp} {x : PV} {u : V} {xs : List PV} (ss : SimS K W st H) (r : Rp K W H x u) (h : asQ st x = some xs) :
    ∃ a vs, u = .ref a ∧ (SqL K H a vs ∨ SqT K H a vs) ∧ RpL K W H xs vs ∧ xs.length ≤ sizeLine := by
  unfold asQ at h
  split at h
  · rename_i ys e
    cases h
    obtain ⟨a, vs, e1, s1, r1, z1⟩ := asT_inv r e
    exact ⟨a, vs, e1, .inr s1, r1, z1⟩
  · obtain ⟨a, vs, e1, s1, r1, z1⟩ := asS_inv ss r h
    exact ⟨a, vs, e1, .inl s1, r1, z1⟩
theorem c_len : CallR X (.builtin "len") (rML X.K oLen) := by
  intro pins s σ H vs us Q I r h
  obtain ⟨W, st, xs, z, ss, rx, hz, q⟩ := h
  unfold oLen at hz
  split at hz
  · cases hz
    obtain ⟨u, rfl, r1⟩ := rx.one
    obtain ⟨rfl, hl⟩ := str_inv r1
    exact call_len_str pins s σ H _ us Q I r ⟨_, rfl, hl, q _ H (Le.refl _ _) ss rp_int⟩
  · split at hz
    · rename_i ys e
      cases hz
      obtain ⟨u, rfl, r1⟩ := rx.one
      obtain ⟨a, ws, rfl, s1, r2, _⟩ := asQ_inv ss r1 e
      refine call_len_seq pins s σ H _ us Q I r ⟨a, ws, rfl, s1, ?_⟩
      rw [r2.len]
      exact q _ H (Le.refl _ _) ss rp_int
    · cases hz
  · cases hz

/-! ### places -/
def oIx : O2 := fun x y st => match x, y with
  | .str z, .int i => (atI z.cps.toList i).map fun c => .str ⟨#[c]⟩
  | x, .int i => match asQ st x with
    | some xs => atI xs i
    | none => none
  | _, _ => none
theorem atI_rep {K : PySem.W.Frag} {F : Hp} {ρ : List Addr} {xs : List PV} {vs : List V} {i : Int} {z : PV} (r : RepL K F ρ xs vs) (h : atI xs i = some z) : ∃ v, atI vs i = some v ∧ Rep K F ρ z v := by
  unfold atI at h ⊢
  rw [r.len]
  cases e : ixN xs.length i with
  | none => rw [e] at h; cases h
  | some j =>
    rw [e] at h
    exact RepL.get r h
theorem r_ix : IxR X (rM2 X.K oIx) := by
  intro value slice pins s σ H xv yv v u Q I rx ry h hs
  obtain ⟨W, st, x, y, z, ss, hx, hy, hz, q⟩ := h
  unfold oIx at hz
  split at hz
  · rename_i zs i
    rw [Option.map_eq_some_iff] at hz
    obtain ⟨c, hc, rfl⟩ := hz
    obtain ⟨rfl, hl⟩ := str_inv hx
    exact ix_str value slice pins s σ H _ _ v u Q I rx ry ⟨zs, i, c, rfl, int_inv hy, hl, hc, q _ H (Le.refl _ _) ss (rp_str one_short)⟩ hs
  · rename_i i _
    split at hz
    · rename_i xs e
      obtain ⟨a, ws, rfl, s1, r2, _⟩ := asQ_inv ss hx e
      obtain ⟨w, h1, h2⟩ := atI_rep r2 hz
      rcases s1 with s1 | s1
      · exact ix_list value slice pins s σ H _ _ v u Q I rx ry ⟨a, ws, i, w, rfl, int_inv hy, s1, h1, q _ H (Le.refl _ _) ss h2⟩ hs
      · exact ix_tup value slice pins s σ H _ _ v u Q I rx ry ⟨a, ws, i, w, rfl, int_inv hy, s1, h1, q _ H (Le.refl _ _) ss h2⟩ hs
    · cases hz
  · cases hz

/-! ### slices -/
abbrev MPart := M (Option Int)
def tMOr (K : PySem.W.Frag) (E : XK) (W : Wd) (H : Hp) (Q : Option Int → Hp → Prop) : Option (Res (Option Int)) → Prop
  | none => False
  | some (.ok x st) => ∀ H' W', Le W H W' H' → SimS K W' st H' → Q x H'
  | some (.exc x st) => ∀ cls d H' W', Le W H W' H' → SimS K W' st H' → RepX K W' H' x cls d → E cls d H'
def tMO (K : PySem.W.Frag) (E : EX) (m : MPart) : TO := fun σ H Q => ∃ W env st, SlotR K W H env σ ∧ SimS K W st H ∧ tMOr K (E σ) W H Q (m env st)
abbrev MP (X : Cx) (E : EX) (e : Option Expr) (m : MPart) : Prop := PO X e (tMO X.K E m)
def mNoPart : MPart := fun _ st => some (.ok none st)
def mPart (m : M PV) : MPart := m.bind fun x => fun _ st => match x with
  | .int i => some (.ok (some i) st)
  | _ => none
theorem poW {e : Option Expr} {t t' : TO} (h : PO X e t) (w : ∀ σ H Q, t' σ H Q → t σ H Q) : PO X e t' := ⟨fun pins s σ H Q I q => h.run pins s σ H Q I (w _ _ _ q)⟩
theorem mp_none {E : EX} : MP X E none mNoPart := by
  refine poW po_none fun σ H Q q => ?_
  obtain ⟨W, env, st, sl, ss, q⟩ := q
  exact q H W (Le.refl _ _) ss
theorem mp_some {E : EX} {e : Expr} {m : M PV} (h : ME X E e m) : MP X E (some e) (mPart m) := by
  refine poW (po_some h) fun σ H Q q => ?_
  obtain ⟨W, env, st, sl, ss, q⟩ := q
  refine ⟨W, env, st, sl, ss, ?_⟩
  unfold mPart M.bind at q
  cases em : m env st with
  | none => rw [em] at q; exact q
  | some r =>
    rw [em] at q
    cases r with
    | exc x st1 => exact q
    | ok x st1 =>
      intro u H' W' l s r
      cases x with
      | int i => exact ⟨i, int_inv r, q H' W' l s⟩
      | _ => exact q.elim
def cutP (xs : List PV) (lo hi : Option Int) : List PV := (xs.drop (HT.sIx xs.length 0 lo)).take (HT.sIx xs.length xs.length hi - HT.sIx xs.length 0 lo)
theorem cutP_rep {K : PySem.W.Frag} {F : Hp} {ρ : List Addr} {xs : List PV} {vs : List V} {lo hi : Option Int} (r : RepL K F ρ xs vs) : RepL K F ρ (cutP xs lo hi) (cutV vs lo hi) := by
  unfold cutP cutV
  rw [r.len]
  exact RepL.take _ (RepL.drop _ r)
theorem cutP_len {xs : List PV} {lo hi : Option Int} : (cutP xs lo hi).length ≤ xs.length := by
  unfold cutP
  rw [List.length_take, List.length_drop]
  omega
def oCut (x : PV) (lo hi : Option Int) (st : Sto) : Option PV := match x with
  | .str z => some (.str (cutS z lo hi))
  | .tup xs => some (.tup (cutP xs lo hi))
  | x => match asS st x with
    | some xs => some (.lst (cutP xs lo hi))
    | none => none
def mCut (m : M PV) (a b : MPart) : M PV := m.bind fun x => a.bind fun lo => b.bind fun hi => fun _ st => (oCut x lo hi st).map fun z => .ok z st
def rMC (K : PySem.W.Frag) : V → Option Int → Option Int → Hp → VK → Prop := fun u lo hi H Q => ∃ W st x z, SimS K W st H ∧ Rp K W H x u ∧ oCut x lo hi st = some z ∧ ∀ w H', Le W H W H' → SimS K W st H' → Rp K W H' z w → Q w H'
theorem r_cut : SlR X (rMC X.K) := by
  intro pins s σ H xv v vl vu lo hi sl Q I rx hs pl pu h
  obtain ⟨W, st, x, z, ss, hx, hz, q⟩ := h
  by_cases c1 : ∃ y, x = .str y
  · obtain ⟨y, rfl⟩ := c1
    simp only [oCut, Option.some.injEq] at hz
    subst hz
    obtain ⟨rfl, hl⟩ := str_inv hx
    exact sl_str pins s σ H _ v vl vu lo hi sl Q I rx hs pl pu ⟨y, rfl, hl, q _ H (Le.refl _ _) ss (rp_str (Nat.le_trans (cutS_length _ _ _) hl))⟩
  by_cases c2 : ∃ y, x = .tup y
  · obtain ⟨xs, rfl⟩ := c2
    simp only [oCut, Option.some.injEq] at hz
    subst hz
    obtain ⟨a, ws, rfl, s1, r1, z1⟩ := asT_inv hx rfl
    refine sl_tupA pins s σ H _ v vl vu lo hi sl Q I rx hs pl pu ⟨a, ws, rfl, s1, fun hw => ?_, fun hw p hp => ?_⟩
    · have e : cutP xs lo hi = xs := by
        unfold cutP
        rw [r1.len] at hw
        rw [hw.1, hw.2, List.drop_zero, Nat.sub_zero, List.take_length]
      exact q _ H (Le.refl _ _) ss (by rw [e]; exact hx)
    · obtain ⟨l, s'⟩ := ss.new (o := .tup (cutV ws lo hi)) hp
      exact q _ _ l s' (new_tup ss hp (cutP_rep r1) (Nat.le_trans cutP_len z1))
  have hz' : ∃ xs, asS st x = some xs ∧ z = .lst (cutP xs lo hi) := by
    cases x with
    | str y => exact absurd ⟨y, rfl⟩ c1
    | tup y => exact absurd ⟨y, rfl⟩ c2
    | _ =>
      simp only [oCut] at hz
      split at hz
      · rename_i xs e; cases hz; exact ⟨xs, e, rfl⟩
      · cases hz
  obtain ⟨xs, e, rfl⟩ := hz'
  obtain ⟨a, ws, rfl, s1, r1, z1⟩ := asS_inv ss hx e
  refine sl_list pins s σ H _ v vl vu lo hi sl Q I rx hs pl pu ⟨a, ws, rfl, s1, fun p hp => ?_⟩
  obtain ⟨l, s'⟩ := ss.new (o := .lst (cutV ws lo hi)) hp
  exact q _ _ l s' (new_lst ss hp (cutP_rep r1) (Nat.le_trans cutP_len z1))
theorem bindO_at {E : EX} {K : PySem.W.Frag} {W : Wd} {env : MEnv} {st : Sto} {σ : L2.St} {H : Hp} {Q : VK} {ma : MPart} {f : Option Int → M PV} {R : Option Int → Hp → Prop} (sl : SlotR K W H env σ) (ss : SimS K W st H) (h : tMr K (E σ) W H Q (M.bind ma f env st))
    (k : ∀ x st1 W1 H1, Le W H W1 H1 → SlotR K W1 H1 env σ → SimS K W1 st1 H1 → tMr K (E σ) W1 H1 Q (f x env st1) → R x H1) : tMO K E ma σ H R := by
  refine ⟨W, env, st, sl, ss, ?_⟩
  unfold M.bind at h
  cases e : ma env st with
  | none => rw [e] at h; exact h
  | some r =>
    rw [e] at h
    cases r with
    | ok x st1 => exact fun H1 W1 l ss1 => k x st1 W1 H1 l (sl.le l) ss1 (h.le l)
    | exc x st1 => exact h
theorem m_cut {E : EX} {e : Expr} {lo hi : Option Expr} {p2 pos : Pos} {m : M PV} {a b : MPart} (he : ME X E e m) (hl : MP X E lo a) (hu : MP X E hi b) : ME X E (.Subscript e (.Slice lo hi none p2) pos) (mCut m a b) := by
  refine peW (pe_slice r_cut he hl hu) fun σ H Q q => ?_
  obtain ⟨W, env, st, sl, ss, q⟩ := q
  refine bind_at sl ss q fun x u st1 W1 H1 l1 sl1 ss1 rx q1 => ?_
  refine bindO_at sl1 ss1 q1 fun lo st2 W2 H2 l2 sl2 ss2 q2 => ?_
  refine bindO_at sl2 ss2 q2 fun hi st3 W3 H3 l3 sl3 ss3 q3 => ?_
  cases ec : oCut x lo hi st3 with
  | none => rw [ec] at q3; exact q3.elim
  | some z =>
    rw [ec] at q3
    exact ⟨W3, st3, x, z, ss3, (rx.le l2).le l3, ec, fun w H' l s r => q3 w H' W3 l s r⟩
end
end Mi

/-! Mi8: all, any, tuple, list, int, abs, gcd, repr; methods of lists, stores to places; chains. -/
namespace Mi
open PySem PySem.Spec PyProof.Rows L2

section
variable {X : Cx}
/-! ### all, any -/
def bools : List PV → Option (List Bool)
  | [] => some []
  | .bl b :: r => match bools r with
    | some bs => some (b :: bs)
    | none => none
  | _ :: _ => none
theorem bools_rep {K : PySem.W.Frag} {F : Hp} {ρ : List Addr} : ∀ {xs : List PV} {vs : List V} {bs : List Bool}, RepL K F ρ xs vs → bools xs = some bs → vs = bs.map V.bl
  | [], vs, bs, r, h => by
    simp only [bools, Option.some.injEq] at h; subst h
    simp only [RepL] at r; subst r; rfl
  | x :: xs, vs, bs, r, h => by
    simp only [RepL] at r
    obtain ⟨v, t, rfl, r1, r2⟩ := r
    cases x with
    | bl b =>
      simp only [bools] at h
      split at h
      · rename_i bs' e
        cases h
        simp only [Rep] at r1
        rw [r1, bools_rep r2 e]; rfl
      · cases h
    | _ => simp [bools] at h
def oAll : OL := fun xs st => match xs with
  | [x] => match asS st x with
    | some ys => match bools ys with
      | some bs => some (.bl (bs.all id))
      | none => none
    | none => none
  | _ => none
def oAny : OL := fun xs st => match xs with
  | [x] => match asS st x with
    | some ys => match bools ys with
      | some bs => some (.bl (bs.any id))
      | none => none
    | none => none
  | _ => none
theorem c_all (hc : X.calm = true) : CallR X (.builtin "all") (rML X.K oAll) := by
  intro pins s σ H vs us Q I r h
  obtain ⟨W, st, xs, z, ss, rx, hz, q⟩ := h
  unfold oAll at hz
  split at hz
  · split at hz
    · rename_i ys e
      split at hz
      · rename_i bs eb
        cases hz
        obtain ⟨u, rfl, r1⟩ := rx.one
        obtain ⟨a, ws, rfl, s1, r2, _⟩ := asS_inv ss r1 e
        rw [bools_rep r2 eb] at s1
        exact cr_all hc pins s σ H _ us Q I r ⟨a, bs, rfl, s1, q _ H (Le.refl _ _) ss rp_bl⟩
      · cases hz
    · cases hz
  · cases hz
theorem c_any (hc : X.calm = true) : CallR X (.builtin "any") (rML X.K oAny) := by
  intro pins s σ H vs us Q I r h
  obtain ⟨W, st, xs, z, ss, rx, hz, q⟩ := h
  unfold oAny at hz
  split at hz
  · split at hz
    · rename_i ys e
      split at hz
      · rename_i bs eb
        cases hz
        obtain ⟨u, rfl, r1⟩ := rx.one
        obtain ⟨a, ws, rfl, s1, r2, _⟩ := asS_inv ss r1 e
        rw [bools_rep r2 eb] at s1
        exact cr_any hc pins s σ H _ us Q I r ⟨a, bs, rfl, s1, q _ H (Le.refl _ _) ss rp_bl⟩
      · cases hz
    · cases hz
  · cases hz

/-! ### tuple(x), list(x), int(x), abs(x), gcd(x, y) -/
def oTuple : OL := fun xs st => match xs with
  | [.tup ys] => some (.tup ys)
  | [x] => match asS st x with
    | some ys => some (.tup ys)
    | none => none
  | _ => none
theorem c_tuple : CallR X (.type "tuple") (rML X.K oTuple) := by
  intro pins s σ H vs us Q I r h
  obtain ⟨W, st, xs, z, ss, rx, hz, q⟩ := h
  unfold oTuple at hz
  split at hz
  · cases hz
    obtain ⟨u, rfl, r1⟩ := rx.one
    obtain ⟨a, ws, rfl, s1, r2, _⟩ := asT_inv r1 rfl
    exact call_tuple_of pins s σ H _ us Q I r ⟨a, ws, rfl, .inr ⟨s1, q _ H (Le.refl _ _) ss r1⟩⟩
  · split at hz
    · rename_i ys e
      cases hz
      obtain ⟨u, rfl, r1⟩ := rx.one
      obtain ⟨a, ws, rfl, s1, r2, hl⟩ := asS_inv ss r1 e
      refine call_tuple_of pins s σ H _ us Q I r ⟨a, ws, rfl, .inl ⟨s1, fun p hp => ?_⟩⟩
      obtain ⟨l, s'⟩ := ss.new (o := .tup ws) hp
      exact q _ _ l s' (new_tup ss hp r2 hl)
    · cases hz
  · cases hz
/-- a new list out of what is built in -/
abbrev OF := List PV → Sto → Option (List PV)
def rMF (K : PySem.W.Frag) (o : OF) : List V → Hp → VK → Prop := fun us H Q => ∃ W st xs ys, SimS K W st H ∧ RpL K W H xs us ∧ o xs st = some ys ∧
  ∀ p ws H' , Le W H W H' → SimS K W st H' → RpL K W H' ys ws → ys.length ≤ sizeLine → H' p = none → Q (.ref p) (upd H' p (.lst ws))
def mClF (o : OF) (a : M (List PV)) : M (List PV) := a.bind fun xs => fun _ st => (o xs st).map fun z => .ok z st
theorem clF_body {E : EX} {K : PySem.W.Frag} {o : OF} {ta : M (List PV)} {σ : L2.St} {H : Hp} {Q : VK} (q : tMF K E (mClF o ta) σ H Q) : tCB (rMF K o) (tML K E ta) σ H Q := by
  obtain ⟨W, env, st, sl, ss, q⟩ := q
  refine bindF_at sl ss q fun x u st1 W1 H1 l1 sl1 ss1 rx q1 => ?_
  cases e : o x st1 with
  | none => rw [e] at q1; exact q1.elim
  | some z =>
    rw [e] at q1
    exact ⟨W1, st1, x, z, ss1, rx, e, fun p ws H' l s r hz hp => q1 p ws H' W1 l s r hz hp⟩
theorem f_callB {E : EX} {e : Expr} {es : List Expr} {pos : Pos} {id : String} {x : Str} {p : Pos} {o : OF} {ta : M (List PV)} (hc : CallR X (.builtin id) (rMF X.K o)) (hg : Gl X x) (hm : X.mg x = none) (hv : bootBuiltins x = some (.builtin id)) (ha : MA X E (e :: es) ta)
    (hn : x ≠ "__name__" := by decide) (hdb : (x == ("__debug__" : Str)) = false := by decide)
    (he : starEach (e :: es) X.env = (false, eval e X.env) :: starEach es X.env := by rfl) (hpl : (backTo pos (starEach es X.env)).any (·.1) = false := by rfl) : MF X E (.Call (.Name x p) (e :: es) [] pos) (mClF o ta) :=
  peW (pe_callB hc hg hm hv ha hn hdb he hpl) fun _ _ _ q => clF_body q
theorem f_callTy {E : EX} {e : Expr} {es : List Expr} {pos : Pos} {T : String} {x : Str} {p : Pos} {o : OF} {ta : M (List PV)} (hc : CallR X (.type T) (rMF X.K o)) (hg : Gl X x) (hm : X.mg x = none) (hv : bootBuiltins x = some (.type T)) (ha : MA X E (e :: es) ta)
    (hn : x ≠ "__name__" := by decide) (hdb : (x == ("__debug__" : Str)) = false := by decide)
    (he : starEach (e :: es) X.env = (false, eval e X.env) :: starEach es X.env := by rfl) (hpl : (backTo pos (starEach es X.env)).any (·.1) = false := by rfl) : MF X E (.Call (.Name x p) (e :: es) [] pos) (mClF o ta) :=
  peW (pe_callTy hc hg hm hv ha hn hdb he hpl) fun _ _ _ q => clF_body q
def oList : OF := fun xs st => match xs with
  | [x] => asQ st x
  | _ => none
theorem c_list : CallR X (.type "list") (rMF X.K oList) := by
  intro pins s σ H vs us Q I r h
  obtain ⟨W, st, xs, ys, ss, rx, hz, q⟩ := h
  unfold oList at hz
  split at hz
  · obtain ⟨u, rfl, r1⟩ := rx.one
    obtain ⟨a, ws, rfl, s1, r2, hl⟩ := asQ_inv ss r1 hz
    exact call_list_of pins s σ H _ us Q I r ⟨a, ws, rfl, s1, fun p hp => q p ws H (Le.refl _ _) ss r2 hl hp⟩
  · cases hz
def oInt : OL := fun xs _ => match xs with
  | [.int i] => some (.int i)
  | _ => none
theorem c_int : CallR X (.type "int") (rML X.K oInt) := by
  intro pins s σ H vs us Q I r h
  obtain ⟨W, st, xs, z, ss, rx, hz, q⟩ := h
  unfold oInt at hz
  split at hz
  · cases hz
    obtain ⟨u, rfl, r1⟩ := rx.one
    rw [int_inv r1] at r
    exact call_int1 pins s σ H _ us Q I r (.inl ⟨_, rfl, q _ H (Le.refl _ _) ss rp_int⟩)
  · cases hz
def oAbs : OL := fun xs _ => match xs with
  | [.int i] => some (.int (if i < 0 then -i else i))
  | _ => none
theorem c_abs : CallR X (.builtin "abs") (rML X.K oAbs) := by
  intro pins s σ H vs us Q I r h
  obtain ⟨W, st, xs, z, ss, rx, hz, q⟩ := h
  unfold oAbs at hz
  split at hz
  · cases hz
    obtain ⟨u, rfl, r1⟩ := rx.one
    rw [int_inv r1] at r
    exact call_abs pins s σ H _ us Q I r ⟨_, rfl, q _ H (Le.refl _ _) ss rp_int⟩
  · cases hz
def oGcd : OL := fun xs _ => match xs with
  | [.int i, .int j] => some (.int ((Nat.gcd i.natAbs j.natAbs : Nat) : Int))
  | _ => none
theorem c_gcd : CallR X (.builtin "math.gcd") (rML X.K oGcd) := by
  intro pins s σ H vs us Q I r h
  obtain ⟨W, st, xs, z, ss, rx, hz, q⟩ := h
  unfold oGcd at hz
  split at hz
  · cases hz
    obtain ⟨u, w, rfl, r1, r2⟩ := rx.two
    rw [int_inv r1, int_inv r2] at r
    exact cr_gcd pins s σ H _ us Q I r ⟨_, _, rfl, q _ H (Le.refl _ _) ss rp_int⟩
  · cases hz
theorem m_callBf {E : EX} {e : Expr} {es : List Expr} {pos : Pos} {id : String} {x : Str} {p : Pos} {o : OL} {ta : M (List PV)} (hc : CallR X (.builtin id) (rML X.K o)) (hg : Gl X x) (hm : X.mg x = some (.builtin id)) (ha : MA X E (e :: es) ta)
    (hdb : (x == ("__debug__" : Str)) = false := by decide)
    (he : starEach (e :: es) X.env = (false, eval e X.env) :: starEach es X.env := by rfl) (hpl : (backTo pos (starEach es X.env)).any (·.1) = false := by rfl) : ME X E (.Call (.Name x p) (e :: es) [] pos) (mCl o ta) :=
  peW (pe_callBfun hc hg hm ha hdb he hpl) fun _ _ _ q => cl_body q

/-! ### repr -/
def shows (d : PyData) : Bool := d.showable && decide (d.depth ≤ 64) && decide (d.shown.length ≤ sizeLine)
def oRepr : OL := fun xs st => match xs with
  | [x] => match dataV st x with
    | some d => if shows d then some (.str d.shown) else none
    | none => none
  | _ => none
theorem noDict_dp {K : PySem.W.Frag} {H : Hp} {d : PyData} {u : V} (h : Dp K H u d) : d.hasDict = false := by
  have key : ∀ d : PyData, d.plain = true → d.hasDict = false := by
    intro d
    exact (PyData.rec (motive_1 := fun d => d.plain = true → d.hasDict = false) (motive_2 := fun ds => PyData.plainAll ds = true → PyData.hasDictAll ds = false) (motive_3 := fun _ => True) (motive_4 := fun _ => True)
      (fun _ => rfl) (fun _ _ => rfl) (fun _ _ => rfl) (fun _ _ => rfl) (fun xs ih h => ih (by simpa only [PyData.plain] using h)) (fun xs ih h => ih (by simpa only [PyData.plain] using h)) (fun _ _ h => by simp [PyData.plain] at h)
      (fun _ => rfl) (fun x xs i1 i2 h => by simp only [PyData.plainAll, Bool.and_eq_true] at h; simp only [PyData.hasDictAll, i1 h.1, i2 h.2, Bool.or_false]) trivial (fun _ _ _ _ => trivial) (fun _ _ _ _ => trivial) d)
  exact key d (plain_dp d u h)
theorem c_repr (hg : X.A.guards = some []) (hu : X.A.units + 66 < cLine) : CallR X (.builtin "repr") (rML X.K oRepr) := by
  intro pins s σ H vs us Q I r h
  obtain ⟨W, st, xs, z, ss, rx, hz, q⟩ := h
  unfold oRepr at hz
  split at hz
  · rename_i x
    split at hz
    · rename_i d e
      split at hz
      · rename_i hs
        cases hz
        simp only [shows, Bool.and_eq_true, decide_eq_true_eq] at hs
        obtain ⟨⟨hsh, hd⟩, hl⟩ := hs
        obtain ⟨u, rfl, r1⟩ := rx.one
        have dp := dv_of ss x u d r1 e
        obtain ⟨w, rfl, rw'⟩ := r.one
        have fin : ∀ tk (u : Tok), EP X pins σ Q (.str d.shown u) { s with toks := tk } := fun tk u => ⟨.str d.shown, H, I.tok tk, ⟨_, rfl⟩, q _ H (Le.refl _ _) ss (rp_str hl)⟩
        have rep := Dp.reads I d u w dp rw'
        cases dp with
        | non => cases rw'; exact PySem.P.repr_of_none (by simpa only [PyData.shown] using fin _ _)
        | bl b => cases rw'; exact PySem.P.repr_of_bool (by simpa only [PyData.shown] using fin _ _)
        | int i =>
          obtain ⟨t, rfl⟩ := rw'
          exact PySem.P.repr_of_int (by simpa [PyData.showable] using hsh) (by simpa only [PyData.shown] using fin _ _)
        | str y =>
          obtain ⟨t, rfl⟩ := rw'
          exact PySem.P.repr_of_str (by simpa only [PyData.shown] using fin _ _) (by simpa only [PyData.shown] using hl)
        | lst s1 s2 =>
          cases rw'
          obtain ⟨as, rd⟩ := rep
          exact repr_of_reads' rd hsh (PyData.noDict_hsm (noDict_dp (Dp.lst s1 s2))) hg (by omega) (fun _ _ e => e) (fun h' t tk hk => ⟨.str _, H, I.kept (h' := h') (t' := tk) hk, ⟨_, rfl⟩, q _ H (Le.refl _ _) ss (rp_str hl)⟩) hl
        | tup s1 s2 =>
          cases rw'
          obtain ⟨as, rd⟩ := rep
          exact repr_of_reads' rd hsh (PyData.noDict_hsm (noDict_dp (Dp.tup s1 s2))) hg (by omega) (fun _ _ e => e) (fun h' t tk hk => ⟨.str _, H, I.kept (h' := h') (t' := tk) hk, ⟨_, rfl⟩, q _ H (Le.refl _ _) ss (rp_str hl)⟩) hl
      · cases hz
    · cases hz
  · cases hz
end

/-! ### what changes: a list of the store -/
section
variable {K : PySem.W.Frag} {W : Wd} {st : Sto} {H : Hp} {r : Nat} {a : Addr}
theorem SimS.put (ss : SimS K W st H) (ha : W.ρ[r]? = some a) {o : HO} {m : MO} (hm : ∀ H', (∀ a o', Fz W H a = some o' → Fz W H' a = some o') → H' a = some o → ObR K W H' m a) :
    Le W H W (upd H a o) ∧ SimS K W (st.set r m) (upd H a o) := by
  have hmem : a ∈ W.ρ := List.mem_of_getElem? ha
  have hF : ∀ b o', Fz W H b = some o' → Fz W (upd H a o) b = some o' := fun b o' e => by
    obtain ⟨h1, h2, h3⟩ := Fz_some.mp e
    exact Fz_some.mpr ⟨h1, h2, by rw [upd_ne fun z => h1 (by rw [z]; exact hmem)]; exact h3⟩
  refine ⟨⟨List.prefix_refl _, fun _ h => h, hF, fun b hb => upd_ne fun z => ss.dj a hmem (by rw [← z]; exact hb)⟩, by rw [ss.len, List.length_set], ss.nd, ss.dj, fun b hb => ?_, fun i m' b e1 e2 => ?_⟩
  · rw [upd_ne fun z => ss.dj a hmem (by rw [← z]; exact hb)]
    exact ss.hs b hb
  · by_cases hi : r = i
    · subst hi
      rw [ha] at e2; cases e2
      have hl : r < st.length := by rw [← ss.len]; exact (List.getElem?_eq_some_iff.mp ha).1
      rw [List.getElem?_set_self hl] at e1
      cases e1
      exact hm _ hF upd_same
    · rw [List.getElem?_set_ne hi] at e1
      have ne : b ≠ a := fun z => by
        subst z
        obtain ⟨g1, k1⟩ := List.getElem?_eq_some_iff.mp ha
        obtain ⟨g2, k2⟩ := List.getElem?_eq_some_iff.mp e2
        exact hi ((List.getElem_inj ss.nd).mp (k1.trans k2.symm))
      exact (ss.ob i m' b e1 e2).mono hF (List.prefix_refl _) (upd_ne ne)
theorem SimS.putL (ss : SimS K W st H) (ha : W.ρ[r]? = some a) {xs : List PV} {vs : List V} (rx : RpL K W H xs vs) (hz : xs.length ≤ sizeLine) :
    Le W H W (upd H a (.lst vs)) ∧ SimS K W (st.set r (.lst xs)) (upd H a (.lst vs)) :=
  ss.put ha fun H' hF e => ⟨vs, e, RepL.mono hF (List.prefix_refl _) _ _ rx, hz⟩
end
/-- a method's answer and the store behind it -/
abbrev OMt := PV → List PV → Sto → Option (PV × Sto)
def rMt (K : PySem.W.Frag) (o : OMt) : V → List V → Hp → VK → Prop := fun u us H Q => ∃ W st x xs z st', SimS K W st H ∧ Rp K W H x u ∧ RpL K W H xs us ∧ o x xs st = some (z, st') ∧
  ∀ w H', Le W H W H' → SimS K W st' H' → Rp K W H' z w → Q w H'
/-- the receiver is of the built-in type T, ahead of the arguments -/
def rcv (T : String) (x : PV) (st : Sto) : Bool := match x with
  | .str _ => T == "str"
  | x => T == "list" && (asS st x).isSome
def mMt (T : String) (o : OMt) (m : M PV) (a : M (List PV)) : M PV := m.bind fun x => fun env st => if rcv T x st then M.bind a (fun xs => fun _ st => (o x xs st).map fun r => .ok r.1 r.2) env st else none
theorem rcv_ty {K : PySem.W.Frag} {W : Wd} {st : Sto} {H : Hp} {x : PV} {u : V} {T : String} (ss : SimS K W st H) (r : Rp K W H x u) (h : rcv T x st = true) : tyV K T u H := by
  by_cases c : ∃ z, x = .str z
  · obtain ⟨z, rfl⟩ := c
    rw [(str_inv r).1]
    have h' : (T == "str") = true := h
    exact (by simpa using h' : T = "str")
  · have h' : (T == "list" && (asS st x).isSome) = true := by
      cases x with
      | str z => exact absurd ⟨z, rfl⟩ c
      | _ => exact h
    rw [Bool.and_eq_true] at h'
    obtain ⟨ys, hy⟩ := Option.isSome_iff_exists.mp h'.2
    obtain ⟨p, vs, rfl, s1, _, _⟩ := asS_inv ss r hy
    exact .inl ⟨by simpa using h'.1, vs, s1⟩
section
variable {X : Cx} {E : EX} {o e : Expr} {es : List Expr} {apos cpos : Pos} {T id : String} {name : Str}
theorem m_mt {om : OMt} {m : M PV} {a : M (List PV)} (pa : PlainAttrs T) (slot : Slot T name id) (hty : typeOf (.builtin id) = pure (.type "method_descriptor")) (hm : MtR X id (rMt X.K om)) (ho : ME X E o m) (ha : MA X E (e :: es) a)
    (hbase : attributeBase o name X.env (eval o X.env) = eval o X.env := by rfl)
    (hfew : ((backTo cpos (starEach (e :: es) X.env)).all (fun x => !x.1) && (backToKw cpos (keywordEach [] X.env)).all (fun x => x.1.isSome)
      && decide ((e :: es).length + ([] : List Keyword).length + (if ([] : List Keyword).isEmpty then 0 else 1) < 30)) = true := by rfl)
    (hline : (apos.endLine == cpos.line) = true := by rfl) (hs : starEach (e :: es) X.env = (false, eval e X.env) :: starEach es X.env := by rfl) (hplain : (backTo cpos (starEach es X.env)).any (·.1) = false := by rfl) :
    ME X E (.Call (.Attribute o name apos) (e :: es) [] cpos) (mMt T om m a) := by
  refine peW (pe_bm pa slot hty hm ho ha hbase hfew hline hs hplain) fun σ H Q q => ?_
  obtain ⟨W, env, st, sl, ss, q⟩ := q
  refine bind_at sl ss q fun x u st1 W1 H1 l1 sl1 ss1 rx q1 => ?_
  split at q1
  · rename_i hc
    refine ⟨rcv_ty ss1 rx hc, ?_⟩
    refine bindL_at sl1 ss1 q1 fun xs us st2 W2 H2 l2 sl2 ss2 rxs q2 => ?_
    cases eo : om x xs st2 with
    | none => rw [eo] at q2; exact q2.elim
    | some r =>
      rw [eo] at q2
      exact ⟨W2, st2, x, xs, r.1, r.2, ss2, rx.le l2, rxs, eo, fun w H' l s rz => q2 w H' W2 l s rz⟩
  · exact q1.elim
/-! append, extend, insert -/
def oAppend : OMt := fun x xs st => match x, xs with
  | .ref r, [y] => match st[r]? with
    | some (.lst ys) => if ys.length < sizeLine then some (.non, st.set r (.lst (ys ++ [y]))) else none
    | _ => none
  | _, _ => none
theorem mt_app : MtR X "list.append" (rMt X.K oAppend) := by
  intro pins s σ H xv vs v us Q I rx rv h
  obtain ⟨W, st, x, xs, z, st', ss, hx, hxs, ho, q⟩ := h
  unfold oAppend at ho
  split at ho
  · rename_i r y
    split at ho
    · rename_i ys es
      split at ho
      · rename_i hz
        cases ho
        obtain ⟨a, rfl, ha⟩ : ∃ a, xv = .ref a ∧ W.ρ[r]? = some a := by simpa only [Rp, Rep] using hx
        obtain ⟨w, rfl, ry⟩ := hxs.one
        obtain ⟨ws, h1, h2, h3⟩ := ss.ob r _ a es ha
        obtain ⟨l, s'⟩ := ss.putL ha (RepL.append h2 (RepL.cons ry RepL.nil)) (by simp; omega)
        exact mt_append pins s σ H _ _ v us Q I rx rv ⟨a, ws, w, rfl, rfl, h1, by rw [h2.len]; exact hz, q _ _ l s' rp_non⟩
      · cases ho
    · cases ho
  · cases ho
def oExtend : OMt := fun x xs st => match x, xs with
  | .ref r, [y] => match st[r]?, asL st y with
    | some (.lst ys), some zs => if ys.length + zs.length ≤ sizeLine then some (.non, st.set r (.lst (ys ++ zs))) else none
    | _, _ => none
  | _, _ => none
theorem mt_ext : MtR X "list.extend" (rMt X.K oExtend) := by
  intro pins s σ H xv vs v us Q I rx rv h
  obtain ⟨W, st, x, xs, z, st', ss, hx, hxs, ho, q⟩ := h
  unfold oExtend at ho
  split at ho
  · rename_i r y
    split at ho
    · rename_i ys zs es ez
      split at ho
      · rename_i hz
        cases ho
        obtain ⟨a, rfl, ha⟩ : ∃ a, xv = .ref a ∧ W.ρ[r]? = some a := by simpa only [Rp, Rep] using hx
        obtain ⟨w, rfl, ry⟩ := hxs.one
        obtain ⟨ws, h1, h2, h3⟩ := ss.ob r _ a es ha
        obtain ⟨b, us2, rfl, g1, g2, g3⟩ := asL_inv ss ry ez
        obtain ⟨l, s'⟩ := ss.putL ha (RepL.append h2 g2) (by simp; omega)
        exact mt_extend pins s σ H _ _ v us Q I rx rv ⟨a, b, ws, us2, rfl, rfl, h1, g1, by rw [h2.len, g2.len]; exact hz, q _ _ l s' rp_non⟩
      · cases ho
    · cases ho
  · cases ho
def oInsert : OMt := fun x xs st => match x, xs with
  | .ref r, [.int i, y] => match st[r]? with
    | some (.lst ys) => if ys.length < sizeLine ∧ 0 ≤ i ∧ i < 2 ^ 63 then some (.non, st.set r (.lst (ys.take i.toNat ++ [y] ++ ys.drop i.toNat))) else none
    | _ => none
  | _, _ => none
theorem mt_ins : MtR X "list.insert" (rMt X.K oInsert) := by
  intro pins s σ H xv vs v us Q I rx rv h
  obtain ⟨W, st, x, xs, z, st', ss, hx, hxs, ho, q⟩ := h
  unfold oInsert at ho
  split at ho
  · rename_i r i y
    split at ho
    · rename_i ys es
      split at ho
      · rename_i hz
        cases ho
        obtain ⟨a, rfl, ha⟩ : ∃ a, xv = .ref a ∧ W.ρ[r]? = some a := by simpa only [Rp, Rep] using hx
        obtain ⟨w0, w, rfl, r0, ry⟩ := hxs.two
        rw [int_inv r0] at rv
        obtain ⟨ws, h1, h2, h3⟩ := ss.ob r _ a es ha
        obtain ⟨l, s'⟩ := ss.putL ha (RepL.append (RepL.append (RepL.take i.toNat h2) (RepL.cons ry RepL.nil)) (RepL.drop i.toNat h2)) (by
          rw [List.length_append, List.length_append, List.length_take, List.length_drop, List.length_singleton]; omega)
        exact mt_insert pins s σ H _ _ v us Q I rx rv ⟨a, ws, i, w, rfl, rfl, h1, by rw [h2.len]; exact hz.1, hz.2.1, hz.2.2, q _ _ l s' rp_non⟩
      · cases ho
    · cases ho
  · cases ho
end

/-! ### x[i] = e, x[i] += e -/
section
variable {X : Cx} {E : EX} {o i e : Expr} {pos tpos : Pos}
def oPut (x i y : PV) (st : Sto) : Option Sto := match x, i with
  | .ref r, .int k => match st[r]? with
    | some (.lst xs) => (ixN xs.length k).map fun j => st.set r (.lst (xs.set j y))
    | _ => none
  | _, _ => none
def rPut (K : PySem.W.Frag) : TSet := fun o i v H Q => ∃ W st x k y st', SimS K W st H ∧ Rp K W H x o ∧ Rp K W H k i ∧ Rp K W H y v ∧ oPut x k y st = some st' ∧ ∀ H', Le W H W H' → SimS K W st' H' → Q H'
theorem s_put : PSet X (rPut X.K) := by
  intro pins s σ H ov iv vv ou iu vu Q I ro ri rv h
  obtain ⟨W, st, x, k, y, st', ss, hx, hk, hy, ho, q⟩ := h
  unfold oPut at ho
  split at ho
  · rename_i r k
    split at ho
    · rename_i xs es
      rw [Option.map_eq_some_iff] at ho
      obtain ⟨j, hj, rfl⟩ := ho
      obtain ⟨a, rfl, ha⟩ : ∃ a, ov = .ref a ∧ W.ρ[r]? = some a := by simpa only [Rp, Rep] using hx
      obtain ⟨ws, h1, h2, h3⟩ := ss.ob r _ a es ha
      obtain ⟨l, s'⟩ := ss.putL ha (RepL.set j h2 hy) (by rw [List.length_set]; exact h3)
      exact set_list pins s σ H _ _ _ ou iu vu Q I ro ri rv ⟨a, ws, k, j, rfl, int_inv hk, h1, by rw [h2.len]; exact hj, q _ l s'⟩
    · cases ho
  · cases ho
/-- x[i] = e -/
def mPut (me mo mi : M PV) : MS := me.bindS fun y => M.bindS mo fun x => M.bindS mi fun k => fun env st => (oPut x k y st).map fun st' => .next env st'
theorem ms_put {me mo mi : M PV} (he : ME X E e me) (ho : ME X E o mo) (hi : ME X E i mi)
    (ha : ∀ v, assign (.Subscript o i tpos) X.env v = (do
      let ov ← holding [v] (eval o X.env)
      let iv ← holding [v, ov] (eval i X.env)
      standAt tpos
      holding [v, ov, iv] (setItem ov iv v)
      release [v, ov, iv] []) := by intro _; rfl)
    (hs : swapsWithSole [.Subscript o i tpos] e pos.line X.env = pure false := by rfl) (hw : swappedStores [.Subscript o i tpos] e X.env = pure none := by rfl)
    (h1 : (assignEach [.Subscript o i tpos] X.env).map (·.2) = [assign (.Subscript o i tpos) X.env] := by rfl) : MSt X E (.Assign [.Subscript o i tpos] e pos) (mPut me mo mi) := by
  refine psW (ps_asg he (pg_sub ho hi s_put ha) hs hw h1) fun D σ H q => ?_
  obtain ⟨W, env, st, sl, ss, q⟩ := q
  refine bindS_at sl ss q fun y vy st1 W1 H1 l1 sl1 ss1 ry q1 => ?_
  refine bindS_at sl1 ss1 q1 fun x vx st2 W2 H2 l2 sl2 ss2 rx q2 => ?_
  refine bindS_at sl2 ss2 q2 fun k vk st3 W3 H3 l3 sl3 ss3 rk q3 => ?_
  cases eo : oPut x k y st3 with
  | none => rw [eo] at q3; exact q3.elim
  | some st' =>
    rw [eo] at q3
    exact ⟨W3, st3, x, k, y, st', ss3, rx.le l3, rk, (ry.le l2).le l3, eo, fun H' l s => q3 σ H' W3 l (sl3.le l) s⟩
/-- a list's item by a place from 0 on -/
def oIxN : O2 := fun x k st => match k with
  | .int i => if 0 ≤ i then (match asS st x with
    | some xs => xs[i.toNat]?
    | none => none) else none
  | _ => none
theorem g_ix : PGet X (rM2 X.K oIxN) := by
  intro pins s σ H ov iv ou iu Q I ro ri h
  obtain ⟨W, st, x, y, z, ss, hx, hy, hz, q⟩ := h
  unfold oIxN at hz
  split at hz
  · rename_i i
    split at hz
    · rename_i h0
      split at hz
      · rename_i xs e
        obtain ⟨a, ws, rfl, s1, r2, hl⟩ := asS_inv ss hx e
        obtain ⟨w, g1, g2⟩ := RepL.get r2 hz
        rw [int_inv hy] at ri
        obtain ⟨t, rfl⟩ := ri
        cases ro
        obtain ⟨its, rv, pl, hz2⟩ := I.list s1
        obtain ⟨w2, k1, k2⟩ := rv.get g1
        have hn := line63
        have hb := (List.getElem?_eq_some_iff.mp hz).1
        exact PySem.wpAny_getItem_list pl.isList h0 (by omega) (by simpa using k1) ⟨w, H, I, k2, q _ H (Le.refl _ _) ss g2⟩
      · cases hz
    · cases hz
  · cases hz
theorem r_iadd : OpR X (inplaceOp .Add) (rM2 X.K (oI (fun _ _ => True) fun i j => .int (i + j))) := r_I0 iop_add
/-- x[i] op= e -/
def mAugP (op : O2) (mo mi me : M PV) : MS := mo.bindS fun x => M.bindS mi fun k => fun env st => match oIxN x k st with
  | none => none
  | some v => M.bindS me (fun y => fun env st => match op v y st with
    | none => none
    | some z => (oPut x k z st).map fun st' => .next env st') env st
theorem ms_augP {op : Operator} {o2 : O2} {mo mi me : M PV} (hop : OpR X (inplaceOp op) (rM2 X.K o2)) (ho : ME X E o mo) (hi : ME X E i mi) (he : ME X E e me)
    (ha : ∀ ov iv new, augStore i ov iv new = (do holding [new, ov, iv] (setItem ov iv new); release [new, ov, iv] []; pure .next) := by intros; rfl) : MSt X E (.AugAssign (.Subscript o i tpos) op e pos) (mAugP o2 mo mi me) := by
  refine psW (ps_augS ho hi g_ix he hop s_put ha) fun D σ H q => ?_
  obtain ⟨W, env, st, sl, ss, q⟩ := q
  refine bindS_at sl ss q fun x vx st1 W1 H1 l1 sl1 ss1 rx q1 => ?_
  refine bindS_at sl1 ss1 q1 fun k vk st2 W2 H2 l2 sl2 ss2 rk q2 => ?_
  cases ei : oIxN x k st2 with
  | none => rw [ei] at q2; exact q2.elim
  | some v =>
    rw [ei] at q2
    refine ⟨W2, st2, x, k, v, ss2, rx.le l2, rk, ei, fun w H3 l3 ss3 rv => ?_⟩
    have q3 : tSr X.K E W2 H3 D (M.bindS me (fun y => fun env st => match o2 v y st with
      | none => none
      | some z => (oPut x k z st).map fun st' => .next env st') env st2) := tSr.le l3 q2
    refine bindS_at (sl2.le l3) ss3 q3 fun y vy st4 W4 H4 l4 sl4 ss4 ry q4 => ?_
    cases eo : o2 v y st4 with
    | none => rw [eo] at q4; exact q4.elim
    | some z =>
      rw [eo] at q4
      refine ⟨W4, st4, v, y, z, ss4, rv.le l4, ry, eo, fun w5 H5 l5 ss5 rz => ?_⟩
      cases ep : oPut x k z st4 with
      | none =>
        have q4 : tSr X.K E W4 H4 D ((oPut x k z st4).map fun st' => .next env st') := q4
        rw [ep] at q4; exact q4.elim
      | some st' =>
        have q4 : tSr X.K E W4 H4 D ((oPut x k z st4).map fun st' => .next env st') := q4
        rw [ep] at q4
        exact ⟨W4, st4, x, k, z, st', ss5, (((rx.le l2).le l3).le l4).le l5, ((rk.le l3).le l4).le l5, rz, ep, fun H' l s => q4 σ H' W4 (l5.trans l) ((sl4.le l5).le l) s⟩
end

/-! ### a op1 b op2 c -/
section
variable {X : Cx} {E : EX} {a b c : Expr} {pos : Pos}
def mChain (o o' : O2) (ma mb mc : M PV) : M PV := ma.bind fun x => mb.bind fun y => fun env st => match o x y st with
  | some (.bl true) => M.bind mc (fun z => fun _ st => (o' y z st).map fun r => .ok r st) env st
  | some (.bl false) => some (.ok (.bl false) st)
  | _ => none
theorem chain_body {K : PySem.W.Frag} {o o' : O2} {ma mb mc : M PV} {σ : L2.St} {H : Hp} {Q : VK} (q : tM K E (mChain o o' ma mb mc) σ H Q) : tChain (rM2 K o) (rM2 K o') (tM K E ma) (tM K E mb) (tM K E mc) σ H Q := by
  obtain ⟨W, env, st, sl, ss, q⟩ := q
  refine bind_at sl ss q fun x u st1 W1 H1 l1 sl1 ss1 rx q1 => ?_
  refine bind_at sl1 ss1 q1 fun y v st2 W2 H2 l2 sl2 ss2 ry q2 => ?_
  cases eo : o x y st2 with
  | none => rw [eo] at q2; exact q2.elim
  | some z =>
    refine ⟨W2, st2, x, y, z, ss2, rx.le l2, ry, eo, fun w H3 l3 ss3 rz => ?_⟩
    rw [eo] at q2
    cases z with
    | bl k =>
      refine ⟨k, bl_inv' rz, ?_⟩
      cases k with
      | false =>
        rw [if_neg Bool.false_ne_true]
        exact q2 _ H3 W2 l3 ss3 rp_bl
      | true =>
        rw [if_pos rfl]
        have q3 : tMr K (E σ) W2 H3 Q (M.bind mc (fun z => fun _ st => (o' y z st).map fun r => .ok r st) env st2) := tMr.le l3 q2
        refine bind_at (sl2.le l3) ss3 q3 fun z w st4 W4 H4 l4 sl4 ss4 rz' q4 => ?_
        cases eo' : o' y z st4 with
        | none => rw [eo'] at q4; exact q4.elim
        | some r =>
          rw [eo'] at q4
          exact ⟨W4, st4, y, z, r, ss4, (ry.le l3).le l4, rz', eo', fun w5 H5 l5 ss5 r5 => q4 _ H5 W4 l5 ss5 r5⟩
    | _ => exact q2.elim
theorem m_chain {op op' : CmpOp} {o o' : O2} {ma mb mc : M PV} (ho : OpR X (compareOp op) (rM2 X.K o)) (ho' : OpR X (compareOp op') (rM2 X.K o')) (ha : ME X E a ma) (hb : ME X E b mb) (hc : ME X E c mc)
    (hm : lastMarks [op, op'] [b, c] = false := by with_unfolding_all rfl) : ME X E (.Compare a [op, op'] [b, c] pos) (mChain o o' ma mb mc) :=
  peW (pe_chain ho ho' ha hb hc hm) fun _ _ _ q => chain_body q
theorem tst_mono {K : PySem.W.Frag} {m : M PV} {σ : L2.St} {H : Hp} {Q : Bool → Hp → Prop} (q : tMB K E (mTst m) σ H Q) : tM K E m σ H fun x H' => ∃ k, x = .bl k ∧ Q k H' := tTest_of q
theorem m_chainT {op op' : CmpOp} {o o' : O2} {ma mb mc : M PV} (ho : OpR X (compareOp op) (rM2 X.K o)) (ho' : OpR X (compareOp op') (rM2 X.K o')) (ha : ME X E a ma) (hb : ME X E b mb) (hc : ME X E c mc)
    (hm : lastMarks [op, op'] [b, c] = false := by with_unfolding_all rfl) : MT X E (.Compare a [op, op'] [b, c] pos) (mTst (mChain o o' ma mb mc)) :=
  ptW (pt_chain ho ho' ha hb hc hm) fun _ _ _ q => chain_body (tst_mono q)
end
end Mi

/-! Mi9: rows of and | or, x op= e, a def as it is called. -/
namespace Mi
open PySem PySem.Spec PyProof.Rows L2
section
variable {X : Cx} {E : EX} {a e : Expr} {pos : Pos}
theorem m_bone {op : BoolOp} {m : M PV} (h : ME X E a m) : ME X E (.BoolOp op [a] pos) m := pe_one h
theorem m_and1 {m : M Bool} (h : MT X E a m) : PW X (.BoolOp .And [a] pos) (tMB X.K E m) := pw_and1 h
theorem m_or1 {m : M Bool} (h : MT X E a m) : PW X (.BoolOp .Or [a] pos) (tMB X.K E m) := pw_or1 h
theorem nm {op : CmpOp} (b : Expr) (h : op ≠ .In) (h2 : op ≠ .NotIn) : behindInMarks op b = false := nobehind b h h2
/-- x op= e -/
def mAug (o : O2) (i : Nat) (m : M PV) : MS := M.bindS (mVar i) fun x => M.bindS m fun y => fun env st => match o x y st with
  | some z => some (.next (env.set i (some z)) st)
  | none => none
theorem ms_aug {o : O2} {op : Operator} {i : Nat} {x : Str} {m : M PV} {pos' : Pos} (hop : OpR X (inplaceOp op) (rM2 X.K o)) (hN : X.N.Nodup) (hi : X.N[i]? = some x) (hx : Loc X.env.scope x) (he : ME X E e m)
    (hf : X.fn x = true ∨ X.env.scope.names.lookup x = some .local := by first | exact .inl rfl | exact .inr rfl | assumption) : MSt X E (.AugAssign (.Name x pos') op e pos) (mAug o i m) := by
  refine psW (ps_aug hN hi hx he hop hf) fun D σ H q => ?_
  obtain ⟨W, env, st, sl, ss, q⟩ := q
  have q0 : tSr X.K E W H D (match env[i]? with
    | some (some z) => M.bindS m (fun y => fun env st => match o z y st with
        | some r => some (.next (env.set i (some r)) st)
        | none => none) env st
    | _ => none) := by
    unfold mAug M.bindS mVar at q
    cases e1 : env[i]? with
    | none => rw [e1] at q; exact q
    | some z => cases z with
      | none => rw [e1] at q; exact q
      | some z => rw [e1] at q; exact q
  cases e1 : env[i]? with
  | none => rw [e1] at q0; exact q0.elim
  | some z => cases z with
    | none => rw [e1] at q0; exact q0.elim
    | some z =>
      rw [e1] at q0
      obtain ⟨v, g1, g2⟩ := sl.get _ _ e1
      refine ⟨v, g1, bindS_at sl ss q0 fun y u st2 W2 H2 l2 sl2 ss2 ry q2 => ?_⟩
      cases eo : o z y st2 with
      | none => rw [eo] at q2; exact q2.elim
      | some r =>
        rw [eo] at q2
        exact ⟨W2, st2, z, y, r, ss2, g2.le l2, ry, eo, fun w H' l s rz => q2 _ H' W2 l ((sl2.le l).set i rz) s⟩
/-- return a new list, that the caller changes -/
def mRetA (m : M (List PV)) : MS := m.bindS fun xs _ st => some (.ret (.ref st.length) (st ++ [.lst xs]))
theorem ms_retA {m : M (List PV)} (he : MF X E e m) : MSt X E (.Return (some e) pos) (mRetA m) := by
  refine psW (ps_ret he) fun D σ H q => ?_
  obtain ⟨W, env, st, sl, ss, q⟩ := q
  refine bindFS_at sl ss q fun xs p us st1 W1 H1 l1 sl1 ss1 rx hz hp q1 => ?_
  obtain ⟨l2, ss2⟩ := ss1.push_lst hp rx hz
  exact q1 _ _ (W1.push p) l2 ss2 (rep_push ss1)
theorem m_dict0 : ME X E (.Dict [] [] pos) (mC (.dic [])) := by
  refine peW pe_dnewK fun σ H Q q => ?_
  obtain ⟨W, env, st, sl, ss, q⟩ := q
  intro d hd
  obtain ⟨l, s'⟩ := ss.new (o := .dK []) hd
  refine q _ _ W l s' ?_
  show Rep _ _ _ _ _
  simp only [Rep, RepD]
  exact ⟨d, [], rfl, .inl (Fz_at ss hd), rfl, Nat.zero_le _⟩
end
/-- a def of the text as its callers know it: its mirror φ, its level k -/
structure Def (P : Program) (w : World) (K : PySem.W.Frag) (mg : Str → Option Value) (base : Heap) (x : Str) (n k : Nat) (φ : FnM) : Prop where
  ex : ∃ (f : Addr) (fd : FuncData) (ps : List Str), ps.length = n ∧ FnG P w K mg base CX0 k f fd ps (spM K n φ) ∧ mg x = some (.ref f) ∧ PySem.W.keepIn K (.ref f) = true ∧ Binds K fd ps []
  ar : ∀ xs st r, φ xs st = some r → xs.length = n
/-- what the top has left of a def -/
structure At (K : PySem.W.Frag) (mg : Str → Option Value) (x : Str) (st : Stmt) (ps : List Str) : Prop where
  ex : ∃ (f : Addr) (fd : FuncData), Fun K x x st f fd ∧ mg x = some (.ref f) ∧ Binds K fd ps []
section
variable {P : Program} {w : World} {K : PySem.W.Frag} {mg : Str → Option Value} {base : Heap}
theorem defN_of {x : Str} {st : Stmt} {N ps : List Str} {k n nN : Nat} {mb : MS} (T : At K mg x st ps) (S : FnScope N ps (defScope st)) (hn : ps.length = n) (hN : N.length = nN)
    (hb : ∀ (f : Addr) (cdv : Value) (A : Around) (outer : List Env) (s : Shared) (H : Hp) (E : XK), A.guards = some [] → Room k (A.deeper (envOfC x (defScope st) s.heap.objs.size f cdv)) →
      MSs (cxOf CX0 P w K mg base N x (defScope st) f cdv A outer s H E).nox E00 (defBody st) mb) : Def P w K mg base x n (k + 1) (defN n nN mb) := by
  obtain ⟨f, fd, F, hm, b⟩ := T.ex
  subst hn hN
  exact ⟨⟨f, fd, ps, rfl, def_ok F S (hb f), hm, F.kp, b⟩, defN_ar⟩
theorem defT_of {x : Str} {st : Stmt} {N ps : List Str} {k n nN : Nat} {mb : MS} (T : At K mg x st ps) (S : FnScope N ps (defScope st)) (hn : ps.length = n) (hN : N.length = nN)
    (hb : ∀ (f : Addr) (cdv : Value) (A : Around) (outer : List Env) (s : Shared) (H : Hp) (E : XK), A.guards = some [] → Room k (A.deeper (envOfC x (defScope st) s.heap.objs.size f cdv)) →
      MSs (cxOf CX0 P w K mg base N x (defScope st) f cdv A outer s H E).nox E00 (defBody st) mb) : Def P w K mg base x n (k + 1) (defT n nN mb) := by
  obtain ⟨f, fd, F, hm, b⟩ := T.ex
  subst hn hN
  exact ⟨⟨f, fd, ps, rfl, def_okT F S (hb f), hm, F.kp, b⟩, defT_ar⟩
end
section
variable {X : Cx} {E : EX} {n j k : Nat} {φ : FnM} {x : Str} {p pos : Pos} {e : Expr} {es : List Expr} {m : M (List PV)}
theorem m_call (D : Def X.prog X.w X.K X.mg X.base x n j φ) (hG : X.A.guards = some []) (hr : Room k X.A) (hg : Gl X x) (ha : MA X E (e :: es) m) (hj : j ≤ k := by decide)
    (hdb : (x == ("__debug__" : Str)) = false := by decide) (he : starEach (e :: es) X.env = (false, eval e X.env) :: starEach es X.env := by rfl) (hpl : (backTo pos (starEach es X.env)).any (·.1) = false := by rfl) :
    ME X E (.Call (.Name x p) (e :: es) [] pos) (mCall0 φ m) := by
  obtain ⟨f, fd, ps, hn, F, hm, hk, hb⟩ := D.ex
  subst hn
  exact m_call0 F D.ar hG (hr.mono hj) hg hm hk hb ha hdb he hpl
end
end Mi
namespace Mi
open PySem PySem.Spec PyProof.Rows L2
theorem units66 {k : Nat} {A : Around} (h : Room k A) : A.units + 66 < cLine := by have := h.un; omega
section
variable {P : Program} {w : World} {K : PySem.W.Frag} {mg : Str → Option Value} {base : Heap}
/-- a def of which nothing is told -/
theorem def_none {x : Str} {st : Stmt} {ps : List Str} {n k : Nat} (T : At K mg x st ps) (hn : ps.length = n) : Def P w K mg base x n k (fun _ _ => none) := by
  obtain ⟨f, fd, F, hm, b⟩ := T.ex
  subst hn
  refine ⟨⟨f, fd, ps, rfl, ⟨fun vs H Q E h => ?_, fun A outer s H args us vs Q E _ _ _ _ _ h => ?_⟩, hm, F.kp, b⟩, fun _ _ _ h => nomatch h⟩
  · obtain ⟨W, st, xs, _, r, e, _⟩ := h
    rw [← e, r.len]
  · obtain ⟨W, st, xs, _, r, e, h⟩ := h
    exact h.elim
theorem Def.up {x : Str} {n j k : Nat} {φ : FnM} (D : Def P w K mg base x n j φ) (h : j ≤ k) : Def P w K mg base x n k φ := by
  obtain ⟨f, fd, ps, hn, F, hm, hk, hb⟩ := D.ex
  exact ⟨⟨f, fd, ps, hn, F.up h, hm, hk, hb⟩, D.ar⟩
end
end Mi

/-! MiE: errors of own classes made as values. -/
namespace Mi
open PySem PySem.Spec PyProof.Rows L2
section
variable {X : Cx} {e : Expr} {es : List Expr} {ta : TA} {p p1 p2 pos : Pos} {B x : Str} {D C : Addr} {mc : Value}
/-- B.__init__(self, ..) said by name, B an own class over ValueError without an own __init__; nothing of it is told -/
theorem pe_bsinit {pl : Sem Bool} (hg : Gl X B) (hm : X.mg B = some (.ref D)) (r : ClX.CRead X.K D mc) (vV : PySem.W.findCls X.K (.ref D) mc "__init__" = some (.val (.builtin "ValueError.__init__"))) (ha : PA X (e :: es) ta)
    (hdb : (B == ("__debug__" : Str)) = false := by decide)
    (hc : eval (.Call (.Attribute (.Name B p1) "__init__" p2) (e :: es) [] pos) X.env = (do let ov ← eval (.Name B p1) X.env; standAt p2.atName; let (f, first) ← holding [ov] (getMethod ov "__init__" pl); callWith pos f first (backTo pos (starEach (e :: es) X.env)) (backToKw pos (keywordEach [] X.env))) := by rfl)
    (he : starEach (e :: es) X.env = (false, eval e X.env) :: starEach es X.env := by rfl) (hpl : (backTo pos (starEach es X.env)).any (·.1) = false := by rfl) : PE X (.Call (.Attribute (.Name B p1) "__init__" p2) (e :: es) [] pos) (tVeI X.K ta) := by
  constructor
  intro pins s σ H Q I h
  refine PySem.W.methodCall_KW (ld_glob I hg hm ?_ hdb) hc
  refine PySem.W.method_cls I.kIn r.ga (PySem.W.cls_value I.kIn r.rd vV rfl ?_)
  show wpAny _ _ (callWith pos (Value.builtin "ValueError.__init__") [] (backTo pos (starEach (e :: es) X.env)) []) _ _ _
  refine PyProof.Rows.callWith_method1 (thn (ha.run pos pins _ σ H _ (I.tok _) h) fun us s1 q => ?_) he hpl
  obtain ⟨vs, H1, I1, r1, a, C, ws, rfl, hl, T, ea, q⟩ := q
  cases r1 with
  | @cons _ u0 _ ur ra rw' =>
    obtain rfl : u0 = Value.ref a := ra
    have hz : ur.length = ws.length := (Paired.length rw').symm
    exact oinit_ok T I1 ea (by rw [hz, sizeLine_eq]; omega) fun s2 J => ⟨.non, H1, J, rfl, q⟩
/-- C(e, ..) as a value, C's own __init__ keeping sp -/
def tMkV (C : Addr) (sp : Sp) (ta : TA) : TE := fun σ H Q => ta σ H fun vs H1 => vs.length ≤ 1000 ∧ ∀ a, H1 a = none → sp (.ref a :: vs) (upd H1 a (exo a C none)) (fun v H2 => v = .non ∧ Q (.ref a) H2) E0
theorem pe_mkV {fI : Addr} {k : Nat} {fd : FuncData} {ps : List Str} {sp : Sp} (T : OexC X.K C) (iC : PySem.W.findIn X.K (.ref C) "__init__" = some (some (.ref fI))) (tI : PySem.W.typeIn X.K (.ref fI) = some (.type "function")) (F1 : FnOk X.prog X.w X.K X.mg X.base CX0 k fI fd ps sp)
    (hr : Room (k + 1) X.A) (hb : Binds X.K fd ps []) (hg : Gl X x) (hm : X.mg x = some (.ref C)) (ha : PA X (e :: es) ta) (hdb : (x == ("__debug__" : Str)) = false := by decide)
    (he : starEach (e :: es) X.env = (false, eval e X.env) :: starEach es X.env := by rfl) (hpl : (backTo pos (starEach es X.env)).any (·.1) = false := by rfl) : PE X (.Call (.Name x p) (e :: es) [] pos) (tMkV C sp ta) := by
  constructor
  intro pins s σ H Q I h
  obtain ⟨nm, q, N, bs, bm, sn, sub, ab, col, dd, k0, k1, k2, k3, k5, hC, hbm⟩ := T.cls
  refine wpAny_Call_Name_kw (ld_glob I hg hm ?_ hdb)
  refine PySem.W.callWith_K (h₀ := X.base) I.ok.mod.kin T.kC (thn (ha.run pos pins s σ H _ I h) fun us s1 z => ?_) he hpl
  obtain ⟨vs, H1, I1, r1, hz, q1⟩ := z
  refine ⟨I1.kIn, ?_⟩
  show wpAny _ _ (call (.ref C) us) _ _ _
  obtain ⟨hp, g, dr, tk, os⟩ := s1
  have big : hp.objs.size ≤ hp.objs.size + 1 := Nat.le_succ _
  have hq := q1 _ (I1.hok.fresh big)
  have old : ∀ b o, hp.get? b = some o → ((hp.push (PySem.W.kdv_tup us)).push (PySem.HandSPX.excO C hp.objs.size)).get? b = some o := fun b o z => Heap.get?_push_of_some _ (Heap.get?_push_of_some _ z)
  have new : ((hp.push (PySem.W.kdv_tup us)).push (PySem.HandSPX.excO C hp.objs.size)).get? (hp.objs.size + 1) = some (PySem.HandSPX.excO C hp.objs.size) := by heap_get
  have I2 := I1.laid (t' := tk) (a := hp.objs.size + 1) (o := exo (hp.objs.size + 1) C none) (h' := (hp.push (PySem.W.kdv_tup us)).push (PySem.HandSPX.excO C hp.objs.size)) old big (exo_ok new)
  have lu : us.length = vs.length := (Paired.length r1).symm
  have lp : (Value.ref (hp.objs.size + 1) :: us ++ []).length = ps.length := by
    have e1 := F1.len _ _ _ _ hq
    simp only [List.length_cons, List.append_nil] at e1 ⊢
    omega
  refine wpAny_call (PySem.HandSPX.call_own F.excBase_ValueError (fun Y => PySem.HandSPX.refsVE_contains Y bm hbm) (I1.kIn _ _ hC) (PySem.W.looks_findIn I1.kIn iC) (fun self => PySem.W.bind_fn I1.kIn self tI) (by rw [lu, sizeLine_eq]; omega)
    (codeAny_mono (F1.run _ X.stack _ _ ⟨Value.ref (hp.objs.size + 1) :: us, []⟩ (Value.ref (hp.objs.size + 1) :: us) _ _ E0 (hr.make C us []) (I2.env0.make C us []) (by
      have b := hb { heap := _, gens := g, drawn := dr, toks := tk, os := os } (Value.ref (hp.objs.size + 1) :: us) I2.kIn lp
      rw [List.append_nil] at b
      exact b) (show Vals (V.ref (hp.objs.size + 1) :: vs) (Value.ref (hp.objs.size + 1) :: us) from .cons rfl r1) hq) fun r s' z => ?_))
  cases r with
  | error er => exact pass0 pins σ _ _ er s' I2 z
  | ok fl =>
    cases fl with
    | ret u =>
      obtain ⟨v, H2, os2, bare2, un2, hok2, rv, ev, q2⟩ := z
      subst ev
      exact ⟨rv, .ref _, H2, I2.call' (ch := []) os2 un2 hok2 bare2 (fun b y => absurd y (by simp)), rfl, q2⟩
    | next => exact False.elim z
    | brk => exact False.elim z
    | cont => exact False.elim z
end
/-- an own __init__ that says the base's, then keeps its arguments as the fields fs -/
def spI (C : Addr) (fs : List Str) : Sp := fun vs H Q E => ∃ a xs, vs = .ref a :: xs ∧ xs.length = fs.length ∧ H a = some (exo a C none) ∧ (fs = [] → Q .non H) ∧
  (fs ≠ [] → ∀ dx H2, H dx = none → dx ≠ a → H2 a = some (exo a C (some dx)) → H2 dx = some (exd dx (fs.zip xs).reverse) → (∀ b, b ≠ a → b ≠ dx → H2 b = H b) → Q .non H2)
theorem kinds6 {K : PySem.W.Frag} {C : Addr} (h1 : PySem.W.kitOne K (.ref C) (.type "int") = some false) (h2 : PySem.W.kitOne K (.ref C) (.type "bool") = some false) (h3 : PySem.W.kitOne K (.ref C) (.type "str") = some false)
    (h4 : PySem.W.kitOne K (.ref C) (.type "tuple") = some false) (h5 : PySem.W.kitOne K (.ref C) (.type "list") = some false) (h6 : PySem.W.kitOne K (.ref C) (.type "dict") = some false) : ∀ T ∈ kinds, PySem.W.kitOne K (.ref C) (.type T) = some false := by
  intro T hT
  simp only [kinds, List.mem_cons, List.not_mem_nil, or_false] at hT
  rcases hT with rfl | rfl | rfl | rfl | rfl | rfl
  · exact h1
  · exact h2
  · exact h3
  · exact h4
  · exact h5
  · exact h6
/-- a base class over ValueError -/
structure Base (K : PySem.W.Frag) (mg : Str → Option Value) (x : Str) (D : Addr) : Prop where
  gD : mg x = some (.ref D)
  rd : ∃ mc, ClX.CRead K D mc ∧ PySem.W.findCls K (.ref D) mc "__init__" = some (.val (.builtin "ValueError.__init__"))
theorem len1 {α : Type} : ∀ {xs : List α}, xs.length = 1 → ∃ x, xs = [x]
  | [x], _ => ⟨x, rfl⟩
theorem len2 {α : Type} : ∀ {xs : List α}, xs.length = 2 → ∃ x y, xs = [x, y]
  | [x, y], _ => ⟨x, y, rfl⟩
/-- a class of the text, its fields fs -/
structure Cls (P : Program) (w : World) (K : PySem.W.Frag) (mg : Str → Option Value) (base : Heap) (x : Str) (fs : List Str) (k : Nat) (C : Addr) : Prop where
  ek : ExK K C
  gC : mg x = some (.ref C)
  sm : fs.length ≤ 9
  ini : ∃ (fI : Addr) (fd : FuncData) (ps : List Str), PySem.W.findIn K (.ref C) "__init__" = some (some (.ref fI)) ∧ PySem.W.typeIn K (.ref fI) = some (.type "function") ∧ FnOk P w K mg base CX0 k fI fd ps (spI C fs) ∧ Binds K fd ps []
def mMk (C : Addr) (fs : List Str) (m : M (List PV)) : M PV := m.bind fun xs _ st => if xs.length = fs.length then some (.ok (.exc C (fs.zip xs).reverse) st) else none
section
variable {K : PySem.W.Frag} {F : Hp} {ρ : List Addr}
theorem repF_snoc : ∀ (ps : List (Str × PV)) (ks : List (Str × V)) (f : Str) (x : PV) (v : V), RepF K F ρ ps ks → Rep K F ρ x v → RepF K F ρ (ps ++ [(f, x)]) (ks ++ [(f, v)])
  | [], ks, f, x, v, h, r => by
    simp only [RepF] at h
    subst h
    simp only [List.nil_append, RepF]
    exact ⟨v, [], rfl, r, rfl⟩
  | (g, y) :: ps, ks, f, x, v, h, r => by
    simp only [RepF] at h
    obtain ⟨u, t, rfl, h1, h2⟩ := h
    simp only [List.cons_append, RepF]
    exact ⟨u, _, rfl, h1, repF_snoc ps t f x v h2 r⟩
theorem repF_zip : ∀ (fs : List Str) (xs : List PV) (vs : List V), xs.length = fs.length → RepL K F ρ xs vs → RepF K F ρ (fs.zip xs).reverse (fs.zip vs).reverse
  | [], xs, vs, e, h => by simp [RepF]
  | f :: fs, [], vs, e, h => by simp at e
  | f :: fs, x :: xs, vs, e, h => by
    simp only [RepL] at h
    obtain ⟨v, r, rfl, h1, h2⟩ := h
    simp only [List.zip_cons_cons, List.reverse_cons]
    exact repF_snoc _ _ _ _ _ (repF_zip fs xs r (by simpa using e) h2) h1
end
section
variable {X : Cx} {E : EX} {x : Str} {C : Addr} {fs : List Str} {k j : Nat} {e : Expr} {es : List Expr} {p pos : Pos} {m : M (List PV)}
theorem m_mk (D : Cls X.prog X.w X.K X.mg X.base x fs j C) (hr : Room k X.A) (hg : Gl X x) (ha : MA X E (e :: es) m) (hj : j + 1 ≤ k := by decide) (hdb : (x == ("__debug__" : Str)) = false := by decide)
    (he : starEach (e :: es) X.env = (false, eval e X.env) :: starEach es X.env := by rfl) (hpl : (backTo pos (starEach es X.env)).any (·.1) = false := by rfl) : ME X E (.Call (.Name x p) (e :: es) [] pos) (mMk C fs m) := by
  obtain ⟨fI, fd, ps, iC, tI, F1, hb⟩ := D.ini
  refine peW (pe_mkV D.ek.ox iC tI F1 (hr.mono hj) hb hg D.gC ha hdb he hpl) fun σ H Q q => ?_
  obtain ⟨W, env, st, sl, ss, q⟩ := q
  refine bindL_at sl ss q fun xs us st1 W1 H1 l1 sl1 ss1 rx q1 => ?_
  have hl : xs.length = fs.length := by
    by_cases hl : xs.length = fs.length
    · exact hl
    · rw [if_neg hl] at q1; exact q1.elim
  rw [if_pos hl] at q1
  have lu : us.length = fs.length := rx.len.trans hl
  refine ⟨by have := D.sm; omega, fun a hn => ⟨a, us, rfl, lu, upd_same, fun h0 => ⟨rfl, ?_⟩, fun h0 dx H2 hd hne ea ed hk => ⟨rfl, ?_⟩⟩⟩
  · obtain ⟨l2, ss2⟩ := ss1.new (o := exo a C none) hn
    refine q1 _ _ W1 l2 ss2 ?_
    show Rep _ _ _ _ _
    simp only [Rep]
    subst h0
    exact ⟨D.ek, a, rfl, .inl ⟨by simp, Fz_at ss1 hn⟩⟩
  · have hdn : H1 dx = none := by
      rw [upd_ne hne] at hd; exact hd
    obtain ⟨l2, ss2⟩ := ss1.new (o := exo a C (some dx)) hn
    obtain ⟨l3, ss3⟩ := ss2.new (p := dx) (o := exd dx (fs.zip us).reverse) (by rw [upd_ne hne]; exact hdn)
    have eH : H2 = upd (upd H1 a (exo a C (some dx))) dx (exd dx (fs.zip us).reverse) := by
      funext b
      by_cases h1 : b = dx
      · rw [h1, upd_same, ed]
      · rw [upd_ne h1]
        by_cases h2 : b = a
        · rw [h2, upd_same, ea]
        · rw [upd_ne h2, hk b h2 h1, upd_ne h2]
    rw [eH]
    refine q1 _ _ W1 (l2.trans l3) ss3 ?_
    show Rep _ _ _ _ _
    simp only [Rep]
    refine ⟨D.ek, a, rfl, .inr ⟨dx, _, l3.fz _ _ (Fz_at ss1 hn), Fz_at ss2 (by rw [upd_ne hne]; exact hdn), ?_⟩⟩
    exact repF_zip fs xs us hl (RepL.mono (l2.trans l3).fz (l2.trans l3).pre _ _ rx)
end
/-! ### the walk of such an __init__ -/
section
variable {K : PySem.W.Frag} {C a : Addr} {f g : Str} {x y : V} {H : Hp} {Q : VK}
theorem init_t1 (T : OexC K C) (n1 : PySem.W.findIn K (.ref C) f = some none) (h : spI C [f] [.ref a, x] H Q E0) :
    tSeq (tDrop (tVeI K (tCons (tVar 0) (tCons (tVar 1) tNil)))) (tOst K f (tVar 0) (tVar 1)) { nx := fun _ H' => Q .non H', rt := Q } [some (.ref a), some x] H := by
  obtain ⟨a', xs, e, hl, ha, _, q⟩ := h
  cases e
  refine ⟨.ref a, rfl, x, rfl, a, C, [x], rfl, (by simp), T, ha, x, rfl, .ref a, rfl, a, C, rfl, T, n1, .inl ⟨ha, fun dx hd hne => ?_⟩⟩
  exact q (by simp) dx _ hd hne upd_same (by rw [upd_ne hne, upd_same]; rfl) fun b h1 h2 => by rw [upd_ne h1, upd_ne h2]
theorem init_t2 (T : OexC K C) (n1 : PySem.W.findIn K (.ref C) f = some none) (n2 : PySem.W.findIn K (.ref C) g = some none) (h : spI C [f, g] [.ref a, x, y] H Q E0) :
    tSeq (tDrop (tVeI K (tCons (tVar 0) (tCons (tVar 1) (tCons (tVar 2) tNil))))) (tSeq (tOst K f (tVar 0) (tVar 1)) (tOst K g (tVar 0) (tVar 2))) { nx := fun _ H' => Q .non H', rt := Q } [some (.ref a), some x, some y] H := by
  obtain ⟨a', xs, e, hl, ha, _, q⟩ := h
  cases e
  refine ⟨.ref a, rfl, x, rfl, y, rfl, a, C, [x, y], rfl, (by simp), T, ha, x, rfl, .ref a, rfl, a, C, rfl, T, n1, .inl ⟨ha, fun dx hd hne => ?_⟩⟩
  refine ⟨y, rfl, .ref a, rfl, a, C, rfl, T, n2, .inr ⟨dx, [(f, x)], upd_same, by rw [upd_ne hne, upd_same], by simp, ?_⟩⟩
  exact q (by simp) dx _ hd hne (by rw [upd_ne (Ne.symm hne), upd_same]) upd_same fun b h1 h2 => by rw [upd_ne h2, upd_ne h1, upd_ne h2]
theorem init_t0 (T : OexC K C) (h : spI C [] [.ref a] H Q E0) : tDrop (tVeI K (tCons (tVar 0) tNil)) { nx := fun _ H' => Q .non H', rt := Q } [some (.ref a)] H := by
  obtain ⟨a', xs, e, hl, ha, q, _⟩ := h
  cases e
  exact ⟨.ref a, rfl, a, C, [], rfl, by decide, T, ha, q rfl⟩
end
end Mi

namespace K01
open PySem PySem.Spec PyProof.Rows L2 Mi
/-! ### the text -/
def topS (i : Nat) : Stmt := PySem.Challenge.pw_partedmeet_k01_small_forms_of_any_value.main.body.getD i (.Pass ⟨0, 0, 0, 0⟩)
abbrev s_is_integer : Stmt := topS 3
theorem sc_is_integer : FnScope ["thing"] ["thing"] (defScope s_is_integer) := ⟨rfl, rfl, rfl, by decide +kernel, rfl, by decide +kernel, by decide +kernel⟩
abbrev s_is_name : Stmt := topS 4
theorem sc_is_name : FnScope ["thing", "sign"] ["thing"] (defScope s_is_name) := ⟨rfl, rfl, rfl, by decide +kernel, rfl, by decide +kernel, by decide +kernel⟩
abbrev s_reduced : Stmt := topS 5
theorem sc_reduced : FnScope ["num", "den", "shared"] ["num", "den"] (defScope s_reduced) := ⟨rfl, rfl, rfl, by decide +kernel, rfl, by decide +kernel, by decide +kernel⟩
abbrev s_is_fraction : Stmt := topS 6
theorem sc_is_fraction : FnScope ["thing", "part"] ["thing"] (defScope s_is_fraction) := ⟨rfl, rfl, rfl, by decide +kernel, rfl, by decide +kernel, by decide +kernel⟩
abbrev s_is_deed : Stmt := topS 7
theorem sc_is_deed : FnScope ["thing", "name"] ["thing"] (defScope s_is_deed) := ⟨rfl, rfl, rfl, by decide +kernel, rfl, by decide +kernel, by decide +kernel⟩
abbrev s_are_deeds : Stmt := topS 8
theorem sc_are_deeds : FnScope ["thing", "one"] ["thing"] (defScope s_are_deeds) := ⟨rfl, rfl, rfl, by decide +kernel, rfl, by decide +kernel, by decide +kernel⟩
abbrev s__law_bag : Stmt := topS 13
theorem sc__law_bag : FnScope ["_law_script", "_law_cell"] ["_law_script"] (defScope s__law_bag) := ⟨rfl, rfl, rfl, by decide +kernel, rfl, by decide +kernel, by decide +kernel⟩
abbrev s__law_take : Stmt := topS 14
theorem sc__law_take : FnScope ["_law_bag_here", "_law_many", "_law_cell", "_law_stirred", "_law_value", "_law_begin", "_law_second"] ["_law_bag_here", "_law_many"] (defScope s__law_take) := ⟨rfl, rfl, rfl, by decide +kernel, rfl, by decide +kernel, by decide +kernel⟩
abbrev s__law_some : Stmt := topS 15
theorem sc__law_some : FnScope ["_law_bag_here", "_law_things"] ["_law_bag_here", "_law_things"] (defScope s__law_some) := ⟨rfl, rfl, rfl, by decide +kernel, rfl, by decide +kernel, by decide +kernel⟩
abbrev s__law_alike : Stmt := topS 16
theorem sc__law_alike : FnScope ["_law_found", "_law_due"] ["_law_found", "_law_due"] (defScope s__law_alike) := ⟨rfl, rfl, rfl, by decide +kernel, rfl, by decide +kernel, by decide +kernel⟩
abbrev s__law_is_int : Stmt := topS 17
theorem sc__law_is_int : FnScope ["_law_thing"] ["_law_thing"] (defScope s__law_is_int) := ⟨rfl, rfl, rfl, by decide +kernel, rfl, by decide +kernel, by decide +kernel⟩
abbrev s__law_is_name : Stmt := topS 18
theorem sc__law_is_name : FnScope ["_law_thing", "_law_sign"] ["_law_thing"] (defScope s__law_is_name) := ⟨rfl, rfl, rfl, by decide +kernel, rfl, by decide +kernel, by decide +kernel⟩
abbrev s__law_common : Stmt := topS 19
theorem sc__law_common : FnScope ["_law_one", "_law_other", "_law_turn"] ["_law_one", "_law_other"] (defScope s__law_common) := ⟨rfl, rfl, rfl, by decide +kernel, rfl, by decide +kernel, by decide +kernel⟩
abbrev s__law_is_fraction : Stmt := topS 20
theorem sc__law_is_fraction : FnScope ["_law_thing"] ["_law_thing"] (defScope s__law_is_fraction) := ⟨rfl, rfl, rfl, by decide +kernel, rfl, by decide +kernel, by decide +kernel⟩
abbrev s__law_is_deed : Stmt := topS 21
theorem sc__law_is_deed : FnScope ["_law_thing"] ["_law_thing"] (defScope s__law_is_deed) := ⟨rfl, rfl, rfl, by decide +kernel, rfl, by decide +kernel, by decide +kernel⟩
abbrev s__law_word : Stmt := topS 22
theorem sc__law_word : FnScope ["_law_bag_here", "_law_letters", "_law_found", "_law_turn", "_law_place", "_law_sign"] ["_law_bag_here"] (defScope s__law_word) := ⟨rfl, rfl, rfl, by decide +kernel, rfl, by decide +kernel, by decide +kernel⟩
abbrev s__law_any : Stmt := topS 23
theorem sc__law_any : FnScope ["_law_bag_here", "_law_deep", "_law_menu", "_law_turn"] ["_law_bag_here", "_law_deep"] (defScope s__law_any) := ⟨rfl, rfl, rfl, by decide +kernel, rfl, by decide +kernel, by decide +kernel⟩
abbrev s__law_number : Stmt := topS 24
theorem sc__law_number : FnScope ["_law_bag_here", "_law_many"] ["_law_bag_here"] (defScope s__law_number) := ⟨rfl, rfl, rfl, by decide +kernel, rfl, by decide +kernel, by decide +kernel⟩
abbrev s_law : Stmt := topS 25
theorem sc_law : FnScope ["_law_script", "_law_bag_here", "_law_turn", "_law_thing", "_law_told", "_law_due", "_law_rows", "_law_is_due", "_law_num", "_law_den", "_law_common_here", "_law_one"] ["_law_script"] (defScope s_law) := ⟨rfl, rfl, rfl, by decide +kernel, rfl, by decide +kernel, by decide +kernel⟩
/-- names that the module leaves to what is built in; its constants -/
structure Glo (mg : Str → Option Value) : Prop where
  z_abs : mg "abs" = none
  z_all : mg "all" = none
  z_bool : mg "bool" = none
  z_int : mg "int" = none
  z_isinstance : mg "isinstance" = none
  z_len : mg "len" = none
  z_range : mg "range" = none
  z_repr : mg "repr" = none
  z_str : mg "str" = none
  z_tuple : mg "tuple" = none
  k_LETTERS : ∃ t, mg "LETTERS" = some (.str "abcdefghijklmnopqrstuvwxyz" t)
  i_gcd : mg "gcd" = some (.builtin "math.gcd")
abbrev s_NoText : Stmt := inClass (topS 11) 0
theorem sc_NoText : FnScope ["self", "line", "column"] ["self", "line", "column"] (defScope s_NoText) := ⟨rfl, rfl, rfl, by decide +kernel, rfl, by decide +kernel, by decide +kernel⟩
/-! ### the mirrors -/
noncomputable def b_is_integer : MS := (mRet (mAnd (mCl oIsi (mCons (mVar 0) (mCons (mC (.opq (.ty "int"))) mNil))) (mNot (mCl oIsi (mCons (mVar 0) (mCons (mC (.opq (.ty "bool"))) mNil))))))
noncomputable def f_is_integer : FnM := defN 1 1 (b_is_integer)
noncomputable def b_is_name : MS := (mRet (mAnd (mCl oIsi (mCons (mVar 0) (mCons (mC (.opq (.ty "str"))) mNil))) (mAnd (mChain oLe oLe (mC (.int 1)) (mCl oLen (mCons (mVar 0) mNil)) (mC (.int 12))) (mCl oAll (mCons (mNew (mLc (.nm 1) (mIt (mVar 0)) [1] mYes (mOp oIn (mVar 1) (mC (.str "abcdefghijklmnopqrstuvwxyz"))))) mNil)))))
noncomputable def f_is_name : FnM := defN 1 2 (b_is_name)
noncomputable def b_reduced : MS := (mSeq (mSet 2 (mIf (mTst (mOp oGt (mVar 1) (mC (.int 0)))) (mCl oGcd (mCons (mVar 0) (mCons (mVar 1) mNil))) (mUn oNeg (mCl oGcd (mCons (mVar 0) (mCons (mVar 1) mNil))))))
    (mRet (mTup (mCons (mOp oDiv (mVar 0) (mVar 2)) (mCons (mOp oDiv (mVar 1) (mVar 2)) mNil)))))
noncomputable def f_reduced : FnM := defN 2 3 (b_reduced)
noncomputable def b_is_fraction : MS := (mSeq (mIfS (mOrT (mNotT (mTst (mCl oIsi (mCons (mVar 0) (mCons (mC (.opq (.ty "tuple"))) mNil))))) (mOrT (mTst (mOp oNe (mCl oLen (mCons (mVar 0) mNil)) (mC (.int 2)))) (mNotT (mTst (mCl oAll (mCons (mNew (mLc (.nm 1) (mIt (mVar 0)) [1] mYes (mCall0 f_is_integer (mCons (mVar 1) mNil)))) mNil)))))) (mRet (mC (.bl false))) mSkip)
    (mRet (mAnd (mOp oGt (mOp oIx (mVar 0) (mC (.int 1))) (mC (.int 0))) (mOp oEq (mCl oGcd (mCons (mOp oIx (mVar 0) (mC (.int 0))) (mCons (mOp oIx (mVar 0) (mC (.int 1))) mNil))) (mC (.int 1))))))
noncomputable def f_is_fraction : FnM := defN 1 2 (b_is_fraction)
noncomputable def b_is_deed : MS := (mRet (mAnd (mCl oIsi (mCons (mVar 0) (mCons (mC (.opq (.ty "tuple"))) mNil))) (mAnd (mOp oEq (mCl oLen (mCons (mVar 0) mNil)) (mC (.int 2))) (mCl oAll (mCons (mNew (mLc (.nm 1) (mIt (mVar 0)) [1] mYes (mCall0 f_is_name (mCons (mVar 1) mNil)))) mNil)))))
noncomputable def f_is_deed : FnM := defN 1 2 (b_is_deed)
noncomputable def b_are_deeds : MS := (mRet (mAnd (mCl oIsi (mCons (mVar 0) (mCons (mC (.opq (.ty "tuple"))) mNil))) (mCl oAll (mCons (mNew (mLc (.nm 1) (mIt (mVar 0)) [1] mYes (mCall0 f_is_deed (mCons (mVar 1) mNil)))) mNil))))
noncomputable def f_are_deeds : FnM := defN 1 2 (b_are_deeds)
noncomputable def b__law_bag : MS := (mRetA (mLst (mCons (mC (.int 0)) (mCons (mC (.int 1234567891)) (mCons (mC (.int 0)) (mCons (mNew (mLc (.nm 1) (mIt (mCut (mVar 0) mNoPart (mPart (mC (.int 63))))) [1] mYes (mCl oAbs (mCons (mVar 1) mNil)))) mNil))))))
noncomputable def f__law_bag : FnM := defN 1 2 (b__law_bag)
noncomputable def b__law_take : MS := (mSeq (mIfS (mTst (mOp oEq (mOp oIx (mVar 0) (mC (.int 0))) (mC (.int 0)))) (mSeq (mSet 2 (mOp oIx (mOp oAdd (mCut (mOp oIx (mVar 0) (mC (.int 3))) (mPart (mOp oIx (mVar 0) (mC (.int 2)))) mNoPart) (mNew (mLst (mCons (mC (.int 0)) mNil)))) (mC (.int 0))))
    (mSeq (mAugP (oI (fun _ _ => True) fun i j => .int (i + j)) (mVar 0) (mC (.int 2)) (mC (.int 1)))
    (mSeq (mIfS (mTst (mOp oGe (mVar 2) (mOp oPow (mC (.int 10)) (mC (.int 18))))) (mPut (mVar 2) (mVar 0) (mC (.int 0))) mSkip)
    (mSeq (mSet 3 (mOp oAdd (mOp oAdd (mOp oMul (mOp oIx (mVar 0) (mC (.int 1))) (mC (.int 48271))) (mOp oMod (mCl oInt (mCons (mVar 2) mNil)) (mC (.int 2147483647)))) (mOp oMul (mC (.int 7919)) (mOp oIx (mVar 0) (mC (.int 2))))))
    (mPut (mOp oMod (mCl oInt (mCons (mVar 3) mNil)) (mC (.int 2147483647))) (mVar 0) (mC (.int 1))))))) mSkip)
    (mSeq (mIfS (mTst (mOp oGt (mOp oIx (mVar 0) (mC (.int 0))) (mC (.int 0)))) (mSeq (mSet 4 (mOp oMod (mCl oInt (mCons (mOp oIx (mVar 0) (mC (.int 0))) mNil)) (mVar 1)))
    (mSeq (mPut (mOp oDiv (mCl oInt (mCons (mOp oIx (mVar 0) (mC (.int 0))) mNil)) (mVar 1)) (mVar 0) (mC (.int 0)))
    (mRet (mVar 4)))) mSkip)
    (mSeq (mSet 5 (mOp oMod (mCl oInt (mCons (mOp oMul (mOp oAdd (mOp oIx (mVar 0) (mC (.int 1))) (mC (.int 1))) (mC (.int 39373))) mNil)) (mC (.int 1000000007))))
    (mSeq (mSet 6 (mOp oMod (mCl oInt (mCons (mOp oMul (mOp oMod (mCl oInt (mCons (mOp oMul (mVar 5) (mVar 5)) mNil)) (mC (.int 998244353))) (mC (.int 30011))) mNil)) (mC (.int 998244353))))
    (mRet (mOp oMod (mCl oInt (mCons (mOp oDiv (mVar 6) (mC (.int 7))) mNil)) (mVar 1)))))))
noncomputable def f__law_take : FnM := defN 2 7 (b__law_take)
noncomputable def b__law_some : MS := (mRet (mOp oIx (mVar 1) (mCall0 f__law_take (mCons (mVar 0) (mCons (mCl oLen (mCons (mVar 1) mNil)) mNil)))))
noncomputable def f__law_some : FnM := defN 2 2 (b__law_some)
noncomputable def b__law_alike : MS := (mRet (mAnd (mOp oEq (mVar 0) (mVar 1)) (mOp oEq (mCl oRepr (mCons (mVar 0) mNil)) (mCl oRepr (mCons (mVar 1) mNil)))))
noncomputable def f__law_alike : FnM := defN 2 2 (b__law_alike)
noncomputable def b__law_is_int : MS := (mRet (mAnd (mCl oIsi (mCons (mVar 0) (mCons (mC (.opq (.ty "int"))) mNil))) (mNot (mCl oIsi (mCons (mVar 0) (mCons (mC (.opq (.ty "bool"))) mNil))))))
noncomputable def f__law_is_int : FnM := defN 1 1 (b__law_is_int)
noncomputable def b__law_is_name : MS := (mSeq (mIfS (mOrT (mNotT (mTst (mCl oIsi (mCons (mVar 0) (mCons (mC (.opq (.ty "str"))) mNil))))) (mNotT (mTst (mChain oLe oLe (mC (.int 1)) (mCl oLen (mCons (mVar 0) mNil)) (mC (.int 12)))))) (mRet (mC (.bl false))) mSkip)
    (mRet (mOp oEq (mNew (mLc (.nm 1) (mIt (mVar 0)) [1] (mTst (mOp oNotIn (mVar 1) (mC (.str "abcdefghijklmnopqrstuvwxyz")))) (mVar 1))) (mNew (mLst mNil)))))
noncomputable def f__law_is_name : FnM := defN 1 2 (b__law_is_name)
noncomputable def b__law_common : MS := (mSeq (mFor (.nm 2) (mRange1 (mCons (mC (.int 400)) mNil)) (mSeq (mIfS (mTst (mOp oEq (mVar 1) (mC (.int 0)))) (mRet (mVar 0)) mSkip)
    (mPar 0 1 (mCons (mVar 1) (mCons (mOp oMod (mCl oInt (mCons (mVar 0) mNil)) (mVar 1)) mNil)))))
    (mRet (mVar 0)))
noncomputable def f__law_common : FnM := defN 2 3 (b__law_common)
noncomputable def b__law_is_fraction : MS := (mSeq (mIfS (mOrT (mNotT (mTst (mCl oIsi (mCons (mVar 0) (mCons (mC (.opq (.ty "tuple"))) mNil))))) (mOrT (mTst (mOp oNe (mCl oLen (mCons (mVar 0) mNil)) (mC (.int 2)))) (mOrT (mNotT (mTst (mCall0 f__law_is_int (mCons (mOp oIx (mVar 0) (mC (.int 0))) mNil)))) (mNotT (mTst (mCall0 f__law_is_int (mCons (mOp oIx (mVar 0) (mC (.int 1))) mNil))))))) (mRet (mC (.bl false))) mSkip)
    (mRet (mAnd (mOp oGe (mOp oIx (mVar 0) (mC (.int 1))) (mC (.int 1))) (mOp oEq (mCall0 f__law_common (mCons (mCl oAbs (mCons (mOp oIx (mVar 0) (mC (.int 0))) mNil)) (mCons (mOp oIx (mVar 0) (mC (.int 1))) mNil))) (mC (.int 1))))))
noncomputable def f__law_is_fraction : FnM := defN 1 1 (b__law_is_fraction)
noncomputable def b__law_is_deed : MS := (mRet (mAnd (mCl oIsi (mCons (mVar 0) (mCons (mC (.opq (.ty "tuple"))) mNil))) (mAnd (mOp oEq (mCl oLen (mCons (mVar 0) mNil)) (mC (.int 2))) (mAnd (mCall0 f__law_is_name (mCons (mOp oIx (mVar 0) (mC (.int 0))) mNil)) (mCall0 f__law_is_name (mCons (mOp oIx (mVar 0) (mC (.int 1))) mNil))))))
noncomputable def f__law_is_deed : FnM := defN 1 1 (b__law_is_deed)
noncomputable def b__law_word : MS := (mSeq (mAsg (.tup [(.nm 1), (.nm 2)]) (mTup (mCons (mC (.str "abcmyz")) (mCons (mC (.str "")) mNil))))
    (mSeq (mFor (.nm 3) (mRange1 (mCons (mCall0 f__law_some (mCons (mVar 0) (mCons (mNew (mLst (mCons (mC (.int 1)) (mCons (mC (.int 2)) (mCons (mC (.int 5)) (mCons (mC (.int 11)) (mCons (mC (.int 12)) (mCons (mC (.int 13)) (mCons (mC (.int 0)) mNil))))))))) mNil))) mNil)) (mSet 2 (mOp oAdd (mVar 2) (mCall0 f__law_some (mCons (mVar 0) (mCons (mVar 1) mNil))))))
    (mSeq (mSet 4 (mCall0 f__law_take (mCons (mVar 0) (mCons (mOp oAdd (mCl oLen (mCons (mVar 2) mNil)) (mC (.int 1))) mNil))))
    (mSeq (mSet 5 (mCall0 f__law_some (mCons (mVar 0) (mCons (mNew (mLst (mCons (mC (.str "")) (mCons (mC (.str "")) (mCons (mC (.str "")) (mCons (mC (.str "A")) (mCons (mC (.str "0")) (mCons (mC (.str " ")) (mCons (mC (.str "_")) (mCons (mC (.str "-")) (mCons (mC (.str "\n")) (mCons (mC (.str "`")) (mCons (mC (.str "{")) mNil))))))))))))) mNil))))
    (mRet (mOp oAdd (mOp oAdd (mCut (mVar 2) mNoPart (mPart (mVar 4))) (mVar 5)) (mCut (mVar 2) (mPart (mVar 4)) mNoPart)))))))
noncomputable def f__law_word : FnM := defN 1 6 (b__law_word)
noncomputable def b__law_any (c_NoText : Addr) (φ : FnM) : MS := (mSeq (mSetA 2 (mLst (mCons (mC .non) (mCons (mC (.bl true)) (mCons (mC (.bl false)) (mCons (mC (.int 0)) (mCons (mC (.int 1)) (mCons (mUn oNeg (mC (.int 1))) (mCons (mOp oPow (mC (.int 10)) (mC (.int 39))) (mCons (mC (.str "")) (mCons (mC (.str "a")) (mCons (mC (.str "last")) (mCons (mTup mNil) (mCons (mNew (mLst mNil)) (mCons (mC (.dic [])) (mCons (mTup (mCons (mC (.str "a")) (mCons (mC (.str "b")) mNil))) (mCons (mNew (mLst (mCons (mC (.str "a")) (mCons (mC (.str "b")) mNil)))) (mCons (mTup (mCons (mC (.int 1)) (mCons (mC (.int 2)) mNil))) (mCons (mTup (mCons (mC (.int 2)) (mCons (mC (.int 4)) mNil))) mNil)))))))))))))))))))
    (mSeq (mDrop (mMt "list" oExtend (mVar 2) (mCons (mNew (mLst (mCons (mTup (mCons (mC (.int 0)) (mCons (mC (.int 1)) mNil))) (mCons (mTup (mCons (mC (.int 0)) (mCons (mC (.int 2)) mNil))) (mCons (mTup (mCons (mC (.bl true)) (mCons (mC (.int 2)) mNil))) (mCons (mTup (mCons (mC (.int 1)) (mCons (mC (.bl true)) mNil))) (mCons (mTup (mCons (mUn oNeg (mC (.int 3))) (mCons (mC (.int 2)) mNil))) (mCons (mTup (mCons (mC (.int 3)) (mCons (mUn oNeg (mC (.int 2))) mNil))) (mCons (mTup (mCons (mC (.int 1)) (mCons (mC (.int 0)) mNil))) (mCons (mTup (mCons (mC (.str "a")) mNil)) (mCons (mTup (mCons (mC (.str "a")) (mCons (mC (.str "b")) (mCons (mC (.str "c")) mNil)))) (mCons (mTup (mCons (mC (.str "a")) (mCons (mC (.int 1)) mNil))) mNil)))))))))))) mNil)))
    (mSeq (mDrop (mMt "list" oExtend (mVar 2) (mCons (mNew (mLst (mCons (mNew (mLst (mCons (mC (.int 1)) (mCons (mC (.int 2)) mNil)))) (mCons (mNew (mLst (mCons (mC (.int 0)) (mCons (mC (.int 1)) mNil)))) (mCons (mMk c_NoText ["line", "column"] (mCons (mC (.int 0)) (mCons (mC (.int 0)) mNil))) mNil))))) mNil)))
    (mSeq (mIfS (mAndT (mTst (mOp oGt (mVar 1) (mC (.int 0)))) (mTst (mOp oEq (mCall0 f__law_take (mCons (mVar 0) (mCons (mC (.int 3)) mNil))) (mC (.int 0))))) (mRet (mCl oTuple (mCons (mNew (mLc (.nm 3) (mRange1 (mCons (mCall0 f__law_take (mCons (mVar 0) (mCons (mC (.int 4)) mNil))) mNil)) [3] mYes (mCall0 φ (mCons (mVar 0) (mCons (mOp oSub (mVar 1) (mC (.int 1))) mNil))))) mNil))) mSkip)
    (mRet (mCall0 f__law_some (mCons (mVar 0) (mCons (mOp oAdd (mVar 2) (mNew (mLst (mCons (mCall0 f__law_word (mCons (mVar 0) mNil)) (mCons (mCall0 f__law_word (mCons (mVar 0) mNil)) (mCons (mTup (mCons (mCall0 f__law_word (mCons (mVar 0) mNil)) (mCons (mCall0 f__law_word (mCons (mVar 0) mNil)) mNil))) mNil)))))) mNil))))))))
noncomputable def f__law_any (c_NoText : Addr) : Nat → FnM
  | 0 => fun _ _ => none
  | d + 1 => defT 2 4 (b__law_any c_NoText (f__law_any c_NoText d))
noncomputable def b__law_number : MS := (mSeq (mSet 1 (mCall0 f__law_some (mCons (mVar 0) (mCons (mNew (mLst (mCons (mCall0 f__law_take (mCons (mVar 0) (mCons (mC (.int 13)) mNil))) (mCons (mOp oMul (mC (.int 360)) (mOp oAdd (mC (.int 1)) (mCall0 f__law_take (mCons (mVar 0) (mCons (mC (.int 9)) mNil))))) (mCons (mOp oAdd (mOp oPow (mC (.int 10)) (mC (.int 30))) (mCall0 f__law_take (mCons (mVar 0) (mCons (mOp oPow (mC (.int 10)) (mC (.int 6))) mNil)))) (mCons (mC (.int 0)) (mCons (mC (.int 1)) mNil))))))) mNil))))
    (mRet (mIf (mTst (mOp oEq (mCall0 f__law_take (mCons (mVar 0) (mCons (mC (.int 2)) mNil))) (mC (.int 0)))) (mVar 1) (mOp oSub (mC (.int 0)) (mVar 1)))))
noncomputable def f__law_number : FnM := defN 1 2 (b__law_number)
noncomputable def b_law (c_NoText : Addr) : MS := (mSeq (mSet 1 (mCall0 f__law_bag (mCons (mVar 0) mNil)))
    (mSeq (mFor (.nm 2) (mRange1 (mCons (mC (.int 12)) mNil)) (mSeq (mSet 3 (mCall0 f__law_some (mCons (mVar 1) (mCons (mNew (mLst (mCons (mCall0 (f__law_any c_NoText 3) (mCons (mVar 1) (mCons (mC (.int 2)) mNil))) (mCons (mCall0 f__law_word (mCons (mVar 1) mNil)) (mCons (mTup (mCons (mCall0 f__law_number (mCons (mVar 1) mNil)) (mCons (mCall0 f__law_number (mCons (mVar 1) mNil)) mNil))) mNil))))) mNil))))
    (mSeq (mSet 4 (mNew (mLst (mCons (mCall0 f_is_integer (mCons (mVar 3) mNil)) (mCons (mCall0 f_is_name (mCons (mVar 3) mNil)) (mCons (mCall0 f_is_fraction (mCons (mVar 3) mNil)) (mCons (mCall0 f_is_deed (mCons (mVar 3) mNil)) mNil)))))))
    (mSeq (mSet 5 (mNew (mLst (mCons (mCall0 f__law_is_int (mCons (mVar 3) mNil)) (mCons (mCall0 f__law_is_name (mCons (mVar 3) mNil)) (mCons (mCall0 f__law_is_fraction (mCons (mVar 3) mNil)) (mCons (mCall0 f__law_is_deed (mCons (mVar 3) mNil)) mNil)))))))
    (mSeq (mSet 6 (mCall0 f__law_some (mCons (mVar 1) (mCons (mNew (mLst (mCons (mVar 3) (mCons (mTup (mCons (mVar 3) mNil)) (mCons (mTup (mCons (mTup (mCons (mC (.str "a")) (mCons (mC (.str "b")) mNil))) (mCons (mVar 3) mNil))) (mCons (mNew (mLst (mCons (mVar 3) mNil))) (mCons (mTup (mCons (mVar 3) (mCons (mTup (mCons (mC (.str "x")) (mCons (mC (.str "y")) mNil))) mNil))) mNil))))))) mNil))))
    (mSeq (mSet 7 (mAnd (mCl oIsi (mCons (mVar 6) (mCons (mC (.opq (.ty "tuple"))) mNil))) (mOp oEq (mNew (mLc (.nm 11) (mIt (mVar 6)) [11] (mNotT (mTst (mCall0 f__law_is_deed (mCons (mVar 11) mNil)))) (mVar 11))) (mNew (mLst mNil)))))
    (mSeq (mIfS (mNotT (mTst (mCall0 f__law_alike (mCons (mOp oAdd (mVar 4) (mNew (mLst (mCons (mCall0 f_are_deeds (mCons (mVar 6) mNil)) mNil)))) (mCons (mOp oAdd (mVar 5) (mNew (mLst (mCons (mVar 7) mNil)))) mNil))))) (mRet (mC (.bl false))) mSkip)
    (mSeq (mPar 8 9 (mCons (mCall0 f__law_number (mCons (mVar 1) mNil)) (mCons (mCall0 f__law_number (mCons (mVar 1) mNil)) mNil)))
    (mSeq (mSet 9 (mIf (mTst (mOp oNe (mVar 9) (mC (.int 0)))) (mVar 9) (mUn oNeg (mC (.int 4)))))
    (mSeq (mSet 10 (mOp oMul (mCall0 f__law_common (mCons (mCl oAbs (mCons (mVar 8) mNil)) (mCons (mCl oAbs (mCons (mVar 9) mNil)) mNil))) (mIf (mTst (mOp oGt (mVar 9) (mC (.int 0)))) (mC (.int 1)) (mUn oNeg (mC (.int 1))))))
    (mIfS (mNotT (mTst (mCall0 f__law_alike (mCons (mCall0 f_reduced (mCons (mVar 8) (mCons (mVar 9) mNil))) (mCons (mTup (mCons (mOp oDiv (mCl oInt (mCons (mVar 8) mNil)) (mVar 10)) (mCons (mOp oDiv (mCl oInt (mCons (mVar 9) mNil)) (mVar 10)) mNil))) mNil))))) (mRet (mC (.bl false))) mSkip)))))))))))
    (mRet (mC (.bl true)))))
noncomputable def f_law (c_NoText : Addr) : FnM := defN 1 12 (b_law c_NoText)
/-! ### the walks -/
section
variable {P : Program} {w : World} {K : PySem.W.Frag} {mg : Str → Option Value} {base : Heap}
theorem w_NoText {C D fI : Addr} {fd : FuncData} (ek : ExK K C) (gC : mg "NoText" = some (.ref C)) (B : Base K mg "DealError" D) (iC : PySem.W.findIn K (.ref C) "__init__" = some (some (.ref fI))) (tI : PySem.W.typeIn K (.ref fI) = some (.type "function")) (n1 : PySem.W.findIn K (.ref C) "line" = some none) (n2 : PySem.W.findIn K (.ref C) "column" = some none)
    (F : Fun K "__init__" "NoText.__init__" s_NoText fI fd) (hb : Binds K fd ["self", "line", "column"] []) : Cls P w K mg base "NoText" ["line", "column"] 1 C := by
  obtain ⟨mc, rd, vV⟩ := B.rd
  refine ⟨ek, gC, by decide, fI, fd, ["self", "line", "column"], iC, tI, Fun.ok (k := 0) F sc_NoText (fun vs H Q E q => ?_) (fun cdv A outer s H vs Q E hr q => ?_), hb⟩
  · obtain ⟨a, xs, rfl, e, _⟩ := q
    simpa using e
  · obtain ⟨a, xs, rfl, e, q⟩ := q
    obtain ⟨x0, x1, rfl⟩ : ∃ x0 x1, xs = [x0, x1] := len2 e
    exact ⟨_, (pss_cons (ps_expr (pe_bsinit (by rfl) B.gD rd vV (pa_cons (pv 0) (pa_cons (pv 1) (pa_cons (pv 2) pa_nil))))) (pss_cons (ps_ost (pv 0) (pv 1)) (pss_one (ps_ost (pv 0) (pv 2))))), init_t2 ek.ox n1 n2 ⟨a, _, rfl, e, q⟩⟩
theorem w_is_integer (G : Glo mg) (T : At K mg "is_integer" s_is_integer ["thing"]) : Def P w K mg base "is_integer" 1 1 (f_is_integer) := by
  refine defN_of (k := 0) T sc_is_integer rfl rfl fun f cdv A outer s H E hg hr => ?_
  have nd := sc_is_integer.nd
  have hu := units66 hr
  exact (ms_one (ms_ret (m_and (m_callB c_isi (by rfl) G.z_isinstance (by decide +kernel) (m_cons (m_var (pv 0)) (m_cons (m_bltn (by rfl) G.z_int (by decide +kernel) (show RelV (.ty "int") (.type "int") from rfl)) m_nil))) (m_bone (m_not (m_callB c_isi (by rfl) G.z_isinstance (by decide +kernel) (m_cons (m_var (pv 0)) (m_cons (m_bltn (by rfl) G.z_bool (by decide +kernel) (show RelV (.ty "bool") (.type "bool") from rfl)) m_nil))))))))
theorem w_is_name (G : Glo mg) (T : At K mg "is_name" s_is_name ["thing"]) : Def P w K mg base "is_name" 1 1 (f_is_name) := by
  obtain ⟨t_LETTERS, hc_LETTERS⟩ := G.k_LETTERS
  refine defN_of (k := 0) T sc_is_name rfl rfl fun f cdv A outer s H E hg hr => ?_
  have nd := sc_is_name.nd
  have hu := units66 hr
  exact (ms_one (ms_ret (m_and (m_callB c_isi (by rfl) G.z_isinstance (by decide +kernel) (m_cons (m_var (pv 0)) (m_cons (m_bltn (by rfl) G.z_str (by decide +kernel) (show RelV (.ty "str") (.type "str") from rfl)) m_nil))) (m_and (m_chain r_le r_le m_int (m_callB c_len (by rfl) G.z_len (by decide +kernel) (m_cons (m_var (pv 0)) m_nil)) m_int) (m_bone (m_callB (c_all rfl) (by rfl) G.z_all (by decide +kernel) (m_cons (m_new (f_lc (own := [("sign", 1)]) rfl nd (m_it (m_var (pv 0))) (blkOk_by (N := ["thing", "sign"]) (sc := defScope s_is_name) (by decide +kernel)) (fun _ _ _ _ _ => (mg_name (i := 1) nd rfl (.inl rfl))) (fun _ _ _ _ _ => mts_nil) (fun _ _ _ _ _ => (m_cmp (r_in hu) (m_var (pv 1)) (m_gstr (by rfl) hc_LETTERS) (by rfl))))) m_nil)))))))
theorem w_reduced (G : Glo mg) (T : At K mg "reduced" s_reduced ["num", "den"]) : Def P w K mg base "reduced" 2 1 (f_reduced) := by
  refine defN_of (k := 0) T sc_reduced rfl rfl fun f cdv A outer s H E hg hr => ?_
  have nd := sc_reduced.nd
  have hu := units66 hr
  exact (ms_cons (ms_set (i := 2) nd rfl (.inl rfl) (m_if (m_cmpT r_gt (m_var (pv 1)) m_int (nm _ (by decide) (by decide))) (m_callBf c_gcd (by rfl) G.i_gcd (m_cons (m_var (pv 0)) (m_cons (m_var (pv 1)) m_nil))) (m_un r_neg (m_callBf c_gcd (by rfl) G.i_gcd (m_cons (m_var (pv 0)) (m_cons (m_var (pv 1)) m_nil))))))
    (ms_one (ms_ret (m_tup (m_cons (m_op r_div (m_var (pv 0)) (m_var (pv 2))) (m_cons (m_op r_div (m_var (pv 1)) (m_var (pv 2))) m_nil))))))
theorem w_is_fraction (G : Glo mg) (T : At K mg "is_fraction" s_is_fraction ["thing"]) (D_is_integer : Def P w K mg base "is_integer" 1 1 (f_is_integer)) : Def P w K mg base "is_fraction" 1 2 (f_is_fraction) := by
  refine defN_of (k := 1) T sc_is_fraction rfl rfl fun f cdv A outer s H E hg hr => ?_
  have nd := sc_is_fraction.nd
  have hu := units66 hr
  exact (ms_cons (ms_if ((m_orT (m_notT (m_val (m_callB c_isi (by rfl) G.z_isinstance (by decide +kernel) (m_cons (m_var (pv 0)) (m_cons (m_bltn (by rfl) G.z_tuple (by decide +kernel) (show RelV (.ty "tuple") (.type "tuple") from rfl)) m_nil))))) (m_orT (m_cmpT (r_ne hu) (m_callB c_len (by rfl) G.z_len (by decide +kernel) (m_cons (m_var (pv 0)) m_nil)) m_int (nm _ (by decide) (by decide))) (m_or1 (m_notT (m_val (m_callB (c_all rfl) (by rfl) G.z_all (by decide +kernel) (m_cons (m_new (f_lc (own := [("part", 1)]) rfl nd (m_it (m_var (pv 0))) (blkOk_by (N := ["thing", "part"]) (sc := defScope s_is_fraction) (by decide +kernel)) (fun _ _ _ _ _ => (mg_name (i := 1) nd rfl (.inl rfl))) (fun _ _ _ _ _ => mts_nil) (fun _ _ _ _ _ => (m_call D_is_integer hg hr (by rfl) (m_cons (m_var (pv 1)) m_nil))))) m_nil)))))))).pt (ms_one (ms_ret m_bl)) ms_nil)
    (ms_one (ms_ret (m_and (m_cmp r_gt (m_ix r_ix (m_var (pv 0)) m_int (fun _ _ => rfl)) m_int (nm _ (by decide) (by decide))) (m_bone (m_cmp (r_eq hu) (m_callBf c_gcd (by rfl) G.i_gcd (m_cons (m_ix r_ix (m_var (pv 0)) m_int (fun _ _ => rfl)) (m_cons (m_ix r_ix (m_var (pv 0)) m_int (fun _ _ => rfl)) m_nil))) m_int (nm _ (by decide) (by decide))))))))
theorem w_is_deed (G : Glo mg) (T : At K mg "is_deed" s_is_deed ["thing"]) (D_is_name : Def P w K mg base "is_name" 1 1 (f_is_name)) : Def P w K mg base "is_deed" 1 2 (f_is_deed) := by
  refine defN_of (k := 1) T sc_is_deed rfl rfl fun f cdv A outer s H E hg hr => ?_
  have nd := sc_is_deed.nd
  have hu := units66 hr
  exact (ms_one (ms_ret (m_and (m_callB c_isi (by rfl) G.z_isinstance (by decide +kernel) (m_cons (m_var (pv 0)) (m_cons (m_bltn (by rfl) G.z_tuple (by decide +kernel) (show RelV (.ty "tuple") (.type "tuple") from rfl)) m_nil))) (m_and (m_cmp (r_eq hu) (m_callB c_len (by rfl) G.z_len (by decide +kernel) (m_cons (m_var (pv 0)) m_nil)) m_int (nm _ (by decide) (by decide))) (m_bone (m_callB (c_all rfl) (by rfl) G.z_all (by decide +kernel) (m_cons (m_new (f_lc (own := [("name", 1)]) rfl nd (m_it (m_var (pv 0))) (blkOk_by (N := ["thing", "name"]) (sc := defScope s_is_deed) (by decide +kernel)) (fun _ _ _ _ _ => (mg_name (i := 1) nd rfl (.inl rfl))) (fun _ _ _ _ _ => mts_nil) (fun _ _ _ _ _ => (m_call D_is_name hg hr (by rfl) (m_cons (m_var (pv 1)) m_nil))))) m_nil)))))))
theorem w_are_deeds (G : Glo mg) (T : At K mg "are_deeds" s_are_deeds ["thing"]) (D_is_deed : Def P w K mg base "is_deed" 1 2 (f_is_deed)) : Def P w K mg base "are_deeds" 1 3 (f_are_deeds) := by
  refine defN_of (k := 2) T sc_are_deeds rfl rfl fun f cdv A outer s H E hg hr => ?_
  have nd := sc_are_deeds.nd
  have hu := units66 hr
  exact (ms_one (ms_ret (m_and (m_callB c_isi (by rfl) G.z_isinstance (by decide +kernel) (m_cons (m_var (pv 0)) (m_cons (m_bltn (by rfl) G.z_tuple (by decide +kernel) (show RelV (.ty "tuple") (.type "tuple") from rfl)) m_nil))) (m_bone (m_callB (c_all rfl) (by rfl) G.z_all (by decide +kernel) (m_cons (m_new (f_lc (own := [("one", 1)]) rfl nd (m_it (m_var (pv 0))) (blkOk_by (N := ["thing", "one"]) (sc := defScope s_are_deeds) (by decide +kernel)) (fun _ _ _ _ _ => (mg_name (i := 1) nd rfl (.inl rfl))) (fun _ _ _ _ _ => mts_nil) (fun _ _ _ _ _ => (m_call D_is_deed hg hr (by rfl) (m_cons (m_var (pv 1)) m_nil))))) m_nil))))))
theorem w__law_bag (G : Glo mg) (T : At K mg "_law_bag" s__law_bag ["_law_script"]) : Def P w K mg base "_law_bag" 1 1 (f__law_bag) := by
  refine defN_of (k := 0) T sc__law_bag rfl rfl fun f cdv A outer s H E hg hr => ?_
  have nd := sc__law_bag.nd
  have hu := units66 hr
  exact (ms_one (ms_retA (f_lst (m_cons m_int (m_cons m_int (m_cons m_int (m_cons (m_new (f_lc (own := [("_law_cell", 1)]) rfl nd (m_it (m_cut (m_var (pv 0)) mp_none (mp_some m_int))) (blkOk_by (N := ["_law_script", "_law_cell"]) (sc := defScope s__law_bag) (by decide +kernel)) (fun _ _ _ _ _ => (mg_name (i := 1) nd rfl (.inl rfl))) (fun _ _ _ _ _ => mts_nil) (fun _ _ _ _ _ => (m_callB c_abs (by rfl) G.z_abs (by decide +kernel) (m_cons (m_var (pv 1)) m_nil))))) m_nil)))))))
theorem w__law_take (G : Glo mg) (T : At K mg "_law_take" s__law_take ["_law_bag_here", "_law_many"]) : Def P w K mg base "_law_take" 2 1 (f__law_take) := by
  refine defN_of (k := 0) T sc__law_take rfl rfl fun f cdv A outer s H E hg hr => ?_
  have nd := sc__law_take.nd
  have hu := units66 hr
  exact (ms_cons (ms_if (m_cmpT (r_eq hu) (m_ix r_ix (m_var (pv 0)) m_int (fun _ _ => rfl)) m_int (nm _ (by decide) (by decide))) (ms_cons (ms_set (i := 2) nd rfl (.inl rfl) (m_ix r_ix (m_op r_add (m_cut (m_ix r_ix (m_var (pv 0)) m_int (fun _ _ => rfl)) (mp_some (m_ix r_ix (m_var (pv 0)) m_int (fun _ _ => rfl))) mp_none) (m_new (f_lst (m_cons m_int m_nil)))) m_int (fun _ _ => rfl)))
    (ms_cons (ms_augP r_iadd (m_var (pv 0)) m_int m_int)
    (ms_cons (ms_if (m_cmpT r_ge (m_var (pv 2)) (m_op r_pow m_int m_int) (nm _ (by decide) (by decide))) (ms_one (ms_put (m_var (pv 2)) (m_var (pv 0)) m_int)) ms_nil)
    (ms_cons (ms_set (i := 3) nd rfl (.inl rfl) (m_op r_add (m_op r_add (m_op r_mul (m_ix r_ix (m_var (pv 0)) m_int (fun _ _ => rfl)) m_int) (m_op r_mod (m_callTy c_int (by rfl) G.z_int (by decide +kernel) (m_cons (m_var (pv 2)) m_nil)) m_int)) (m_op r_mul m_int (m_ix r_ix (m_var (pv 0)) m_int (fun _ _ => rfl)))))
    (ms_one (ms_put (m_op r_mod (m_callTy c_int (by rfl) G.z_int (by decide +kernel) (m_cons (m_var (pv 3)) m_nil)) m_int) (m_var (pv 0)) m_int)))))) ms_nil)
    (ms_cons (ms_if (m_cmpT r_gt (m_ix r_ix (m_var (pv 0)) m_int (fun _ _ => rfl)) m_int (nm _ (by decide) (by decide))) (ms_cons (ms_set (i := 4) nd rfl (.inl rfl) (m_op r_mod (m_callTy c_int (by rfl) G.z_int (by decide +kernel) (m_cons (m_ix r_ix (m_var (pv 0)) m_int (fun _ _ => rfl)) m_nil)) (m_var (pv 1))))
    (ms_cons (ms_put (m_op r_div (m_callTy c_int (by rfl) G.z_int (by decide +kernel) (m_cons (m_ix r_ix (m_var (pv 0)) m_int (fun _ _ => rfl)) m_nil)) (m_var (pv 1))) (m_var (pv 0)) m_int)
    (ms_one (ms_ret (m_var (pv 4)))))) ms_nil)
    (ms_cons (ms_set (i := 5) nd rfl (.inl rfl) (m_op r_mod (m_callTy c_int (by rfl) G.z_int (by decide +kernel) (m_cons (m_op r_mul (m_op r_add (m_ix r_ix (m_var (pv 0)) m_int (fun _ _ => rfl)) m_int) m_int) m_nil)) m_int))
    (ms_cons (ms_set (i := 6) nd rfl (.inl rfl) (m_op r_mod (m_callTy c_int (by rfl) G.z_int (by decide +kernel) (m_cons (m_op r_mul (m_op r_mod (m_callTy c_int (by rfl) G.z_int (by decide +kernel) (m_cons (m_op r_mul (m_var (pv 5)) (m_var (pv 5))) m_nil)) m_int) m_int) m_nil)) m_int))
    (ms_one (ms_ret (m_op r_mod (m_callTy c_int (by rfl) G.z_int (by decide +kernel) (m_cons (m_op r_div (m_var (pv 6)) m_int) m_nil)) (m_var (pv 1)))))))))
theorem w__law_some (G : Glo mg) (T : At K mg "_law_some" s__law_some ["_law_bag_here", "_law_things"]) (D__law_take : Def P w K mg base "_law_take" 2 1 (f__law_take)) : Def P w K mg base "_law_some" 2 2 (f__law_some) := by
  refine defN_of (k := 1) T sc__law_some rfl rfl fun f cdv A outer s H E hg hr => ?_
  have nd := sc__law_some.nd
  have hu := units66 hr
  exact (ms_one (ms_ret (m_ix r_ix (m_var (pv 1)) (m_call D__law_take hg hr (by rfl) (m_cons (m_var (pv 0)) (m_cons (m_callB c_len (by rfl) G.z_len (by decide +kernel) (m_cons (m_var (pv 1)) m_nil)) m_nil))) (fun _ _ => rfl))))
theorem w__law_alike (G : Glo mg) (T : At K mg "_law_alike" s__law_alike ["_law_found", "_law_due"]) : Def P w K mg base "_law_alike" 2 1 (f__law_alike) := by
  refine defN_of (k := 0) T sc__law_alike rfl rfl fun f cdv A outer s H E hg hr => ?_
  have nd := sc__law_alike.nd
  have hu := units66 hr
  exact (ms_one (ms_ret (m_and (m_cmp (r_eq hu) (m_var (pv 0)) (m_var (pv 1)) (nm _ (by decide) (by decide))) (m_bone (m_cmp (r_eq hu) (m_callB (c_repr hg hu) (by rfl) G.z_repr (by decide +kernel) (m_cons (m_var (pv 0)) m_nil)) (m_callB (c_repr hg hu) (by rfl) G.z_repr (by decide +kernel) (m_cons (m_var (pv 1)) m_nil)) (nm _ (by decide) (by decide)))))))
theorem w__law_is_int (G : Glo mg) (T : At K mg "_law_is_int" s__law_is_int ["_law_thing"]) : Def P w K mg base "_law_is_int" 1 1 (f__law_is_int) := by
  refine defN_of (k := 0) T sc__law_is_int rfl rfl fun f cdv A outer s H E hg hr => ?_
  have nd := sc__law_is_int.nd
  have hu := units66 hr
  exact (ms_one (ms_ret (m_and (m_callB c_isi (by rfl) G.z_isinstance (by decide +kernel) (m_cons (m_var (pv 0)) (m_cons (m_bltn (by rfl) G.z_int (by decide +kernel) (show RelV (.ty "int") (.type "int") from rfl)) m_nil))) (m_bone (m_not (m_callB c_isi (by rfl) G.z_isinstance (by decide +kernel) (m_cons (m_var (pv 0)) (m_cons (m_bltn (by rfl) G.z_bool (by decide +kernel) (show RelV (.ty "bool") (.type "bool") from rfl)) m_nil))))))))
theorem w__law_is_name (G : Glo mg) (T : At K mg "_law_is_name" s__law_is_name ["_law_thing"]) : Def P w K mg base "_law_is_name" 1 1 (f__law_is_name) := by
  refine defN_of (k := 0) T sc__law_is_name rfl rfl fun f cdv A outer s H E hg hr => ?_
  have nd := sc__law_is_name.nd
  have hu := units66 hr
  exact (ms_cons (ms_if ((m_orT (m_notT (m_val (m_callB c_isi (by rfl) G.z_isinstance (by decide +kernel) (m_cons (m_var (pv 0)) (m_cons (m_bltn (by rfl) G.z_str (by decide +kernel) (show RelV (.ty "str") (.type "str") from rfl)) m_nil))))) (m_or1 (m_notT (m_chainT r_le r_le m_int (m_callB c_len (by rfl) G.z_len (by decide +kernel) (m_cons (m_var (pv 0)) m_nil)) m_int))))).pt (ms_one (ms_ret m_bl)) ms_nil)
    (ms_one (ms_ret (m_cmp (r_eq hu) (m_new (f_lc (own := [("_law_sign", 1)]) rfl nd (m_it (m_var (pv 0))) (blkOk_by (N := ["_law_thing", "_law_sign"]) (sc := defScope s__law_is_name) (by decide +kernel)) (fun _ _ _ _ _ => (mg_name (i := 1) nd rfl (.inl rfl))) (fun _ _ _ _ _ => (mts_one (m_cmpT (r_notIn hu) (m_var (pv 1)) m_str (by rfl)))) (fun _ _ _ _ _ => (m_var (pv 1))))) (m_new (f_lst m_nil)) (nm _ (by decide) (by decide))))))
theorem w__law_common (G : Glo mg) (T : At K mg "_law_common" s__law_common ["_law_one", "_law_other"]) : Def P w K mg base "_law_common" 2 1 (f__law_common) := by
  refine defN_of (k := 0) T sc__law_common rfl rfl fun f cdv A outer s H E hg hr => ?_
  have nd := sc__law_common.nd
  have hu := units66 hr
  exact (ms_cons (ms_for PassesOwn.never rfl (m_range1 (by rfl) G.z_range (m_cons m_int m_nil)) (mg_name (i := 2) nd rfl (.inl rfl)) (ms_cons (ms_if (m_cmpT (r_eq hu) (m_var (pv 1)) m_int (nm _ (by decide) (by decide))) (ms_one (ms_ret (m_var (pv 0)))) ms_nil)
    (ms_one (ms_par (i := 0) (j := 1) rfl nd rfl rfl (by decide) rfl rfl (m_cons (m_var (pv 1)) (m_cons (m_op r_mod (m_callTy c_int (by rfl) G.z_int (by decide +kernel) (m_cons (m_var (pv 0)) m_nil)) (m_var (pv 1))) m_nil)) (by rfl)))))
    (ms_one (ms_ret (m_var (pv 0)))))
theorem w__law_is_fraction (G : Glo mg) (T : At K mg "_law_is_fraction" s__law_is_fraction ["_law_thing"]) (D__law_is_int : Def P w K mg base "_law_is_int" 1 1 (f__law_is_int)) (D__law_common : Def P w K mg base "_law_common" 2 1 (f__law_common)) : Def P w K mg base "_law_is_fraction" 1 2 (f__law_is_fraction) := by
  refine defN_of (k := 1) T sc__law_is_fraction rfl rfl fun f cdv A outer s H E hg hr => ?_
  have nd := sc__law_is_fraction.nd
  have hu := units66 hr
  exact (ms_cons (ms_if ((m_orT (m_notT (m_val (m_callB c_isi (by rfl) G.z_isinstance (by decide +kernel) (m_cons (m_var (pv 0)) (m_cons (m_bltn (by rfl) G.z_tuple (by decide +kernel) (show RelV (.ty "tuple") (.type "tuple") from rfl)) m_nil))))) (m_orT (m_cmpT (r_ne hu) (m_callB c_len (by rfl) G.z_len (by decide +kernel) (m_cons (m_var (pv 0)) m_nil)) m_int (nm _ (by decide) (by decide))) (m_orT (m_notT (m_val (m_call D__law_is_int hg hr (by rfl) (m_cons (m_ix r_ix (m_var (pv 0)) m_int (fun _ _ => rfl)) m_nil)))) (m_or1 (m_notT (m_val (m_call D__law_is_int hg hr (by rfl) (m_cons (m_ix r_ix (m_var (pv 0)) m_int (fun _ _ => rfl)) m_nil))))))))).pt (ms_one (ms_ret m_bl)) ms_nil)
    (ms_one (ms_ret (m_and (m_cmp r_ge (m_ix r_ix (m_var (pv 0)) m_int (fun _ _ => rfl)) m_int (nm _ (by decide) (by decide))) (m_bone (m_cmp (r_eq hu) (m_call D__law_common hg hr (by rfl) (m_cons (m_callB c_abs (by rfl) G.z_abs (by decide +kernel) (m_cons (m_ix r_ix (m_var (pv 0)) m_int (fun _ _ => rfl)) m_nil)) (m_cons (m_ix r_ix (m_var (pv 0)) m_int (fun _ _ => rfl)) m_nil))) m_int (nm _ (by decide) (by decide))))))))
theorem w__law_is_deed (G : Glo mg) (T : At K mg "_law_is_deed" s__law_is_deed ["_law_thing"]) (D__law_is_name : Def P w K mg base "_law_is_name" 1 1 (f__law_is_name)) : Def P w K mg base "_law_is_deed" 1 2 (f__law_is_deed) := by
  refine defN_of (k := 1) T sc__law_is_deed rfl rfl fun f cdv A outer s H E hg hr => ?_
  have nd := sc__law_is_deed.nd
  have hu := units66 hr
  exact (ms_one (ms_ret (m_and (m_callB c_isi (by rfl) G.z_isinstance (by decide +kernel) (m_cons (m_var (pv 0)) (m_cons (m_bltn (by rfl) G.z_tuple (by decide +kernel) (show RelV (.ty "tuple") (.type "tuple") from rfl)) m_nil))) (m_and (m_cmp (r_eq hu) (m_callB c_len (by rfl) G.z_len (by decide +kernel) (m_cons (m_var (pv 0)) m_nil)) m_int (nm _ (by decide) (by decide))) (m_and (m_call D__law_is_name hg hr (by rfl) (m_cons (m_ix r_ix (m_var (pv 0)) m_int (fun _ _ => rfl)) m_nil)) (m_bone (m_call D__law_is_name hg hr (by rfl) (m_cons (m_ix r_ix (m_var (pv 0)) m_int (fun _ _ => rfl)) m_nil))))))))
theorem w__law_word (G : Glo mg) (T : At K mg "_law_word" s__law_word ["_law_bag_here"]) (D__law_some : Def P w K mg base "_law_some" 2 2 (f__law_some)) (D__law_take : Def P w K mg base "_law_take" 2 1 (f__law_take)) : Def P w K mg base "_law_word" 1 3 (f__law_word) := by
  refine defN_of (k := 2) T sc__law_word rfl rfl fun f cdv A outer s H E hg hr => ?_
  have nd := sc__law_word.nd
  have hu := units66 hr
  exact (ms_cons (ms_asg (m_tup (m_cons m_str (m_cons m_str m_nil))) (mg_tup rfl (mgs_cons (mg_name (i := 1) nd rfl (.inl rfl)) (mgs_cons (mg_name (i := 2) nd rfl (.inl rfl)) mgs_nil))))
    (ms_cons (ms_for PassesOwn.never rfl (m_range1 (by rfl) G.z_range (m_cons (m_call D__law_some hg hr (by rfl) (m_cons (m_var (pv 0)) (m_cons (m_new (f_lst (m_cons m_int (m_cons m_int (m_cons m_int (m_cons m_int (m_cons m_int (m_cons m_int (m_cons m_int m_nil))))))))) m_nil))) m_nil)) (mg_name (i := 3) nd rfl (.inl rfl)) (ms_one (ms_set (i := 2) nd rfl (.inl rfl) (m_op r_add (m_var (pv 2)) (m_call D__law_some hg hr (by rfl) (m_cons (m_var (pv 0)) (m_cons (m_var (pv 1)) m_nil)))))))
    (ms_cons (ms_set (i := 4) nd rfl (.inl rfl) (m_call D__law_take hg hr (by rfl) (m_cons (m_var (pv 0)) (m_cons (m_op r_add (m_callB c_len (by rfl) G.z_len (by decide +kernel) (m_cons (m_var (pv 2)) m_nil)) m_int) m_nil))))
    (ms_cons (ms_set (i := 5) nd rfl (.inl rfl) (m_call D__law_some hg hr (by rfl) (m_cons (m_var (pv 0)) (m_cons (m_new (f_lst (m_cons m_str (m_cons m_str (m_cons m_str (m_cons m_str (m_cons m_str (m_cons m_str (m_cons m_str (m_cons m_str (m_cons m_str (m_cons m_str (m_cons m_str m_nil))))))))))))) m_nil))))
    (ms_one (ms_ret (m_op r_add (m_op r_add (m_cut (m_var (pv 2)) mp_none (mp_some (m_var (pv 4)))) (m_var (pv 5))) (m_cut (m_var (pv 2)) (mp_some (m_var (pv 4))) mp_none))))))))
theorem w__law_any {c_NoText : Addr} (X_NoText : Cls P w K mg base "NoText" ["line", "column"] 1 c_NoText) (G : Glo mg) (T : At K mg "_law_any" s__law_any ["_law_bag_here", "_law_deep"]) (D__law_take : Def P w K mg base "_law_take" 2 1 (f__law_take)) (D__law_word : Def P w K mg base "_law_word" 1 3 (f__law_word)) (D__law_some : Def P w K mg base "_law_some" 2 2 (f__law_some)) : ∀ d, Def P w K mg base "_law_any" 2 (4 + d) (f__law_any c_NoText d)
  | 0 => def_none T rfl
  | d + 1 => by
    have ih := w__law_any X_NoText G T D__law_take D__law_word D__law_some d
    refine defT_of (k := 4 + d) T sc__law_any rfl rfl fun f cdv A outer s H E hg hr => ?_
    have nd := sc__law_any.nd
    have hu := units66 hr
    exact (ms_cons (ms_setA (i := 2) nd rfl (.inl rfl) (f_lst (m_cons m_non (m_cons m_bl (m_cons m_bl (m_cons m_int (m_cons m_int (m_cons (m_un r_neg m_int) (m_cons (m_op r_pow m_int m_int) (m_cons m_str (m_cons m_str (m_cons m_str (m_cons (m_tup m_nil) (m_cons (m_new (f_lst m_nil)) (m_cons m_dict0 (m_cons (m_tup (m_cons m_str (m_cons m_str m_nil))) (m_cons (m_new (f_lst (m_cons m_str (m_cons m_str m_nil)))) (m_cons (m_tup (m_cons m_int (m_cons m_int m_nil))) (m_cons (m_tup (m_cons m_int (m_cons m_int m_nil))) m_nil)))))))))))))))))))
    (ms_cons (ms_expr (m_mt PySem.F.plainAttrs_list PySem.F.slot_list_extend PySem.F.type_list_extend mt_ext (m_var (pv 2)) (m_cons (m_new (f_lst (m_cons (m_tup (m_cons m_int (m_cons m_int m_nil))) (m_cons (m_tup (m_cons m_int (m_cons m_int m_nil))) (m_cons (m_tup (m_cons m_bl (m_cons m_int m_nil))) (m_cons (m_tup (m_cons m_int (m_cons m_bl m_nil))) (m_cons (m_tup (m_cons (m_un r_neg m_int) (m_cons m_int m_nil))) (m_cons (m_tup (m_cons m_int (m_cons (m_un r_neg m_int) m_nil))) (m_cons (m_tup (m_cons m_int (m_cons m_int m_nil))) (m_cons (m_tup (m_cons m_str m_nil)) (m_cons (m_tup (m_cons m_str (m_cons m_str (m_cons m_str m_nil)))) (m_cons (m_tup (m_cons m_str (m_cons m_int m_nil))) m_nil)))))))))))) m_nil)))
    (ms_cons (ms_expr (m_mt PySem.F.plainAttrs_list PySem.F.slot_list_extend PySem.F.type_list_extend mt_ext (m_var (pv 2)) (m_cons (m_new (f_lst (m_cons (m_new (f_lst (m_cons m_int (m_cons m_int m_nil)))) (m_cons (m_new (f_lst (m_cons m_int (m_cons m_int m_nil)))) (m_cons (m_mk (hj := by omega) X_NoText hr (by rfl) (m_cons m_int (m_cons m_int m_nil))) m_nil))))) m_nil)))
    (ms_cons (ms_if ((m_andT (m_cmpT r_gt (m_var (pv 1)) m_int (nm _ (by decide) (by decide))) (m_and1 (m_cmpT (r_eq hu) (m_call (hj := by omega) D__law_take hg hr (by rfl) (m_cons (m_var (pv 0)) (m_cons m_int m_nil))) m_int (nm _ (by decide) (by decide)))))).pt (ms_one (ms_ret (m_callTy c_tuple (by rfl) G.z_tuple (by decide +kernel) (m_cons (m_new (f_lc (own := [("_law_turn", 3)]) rfl nd (m_range1 (by rfl) G.z_range (m_cons (m_call (hj := by omega) D__law_take hg hr (by rfl) (m_cons (m_var (pv 0)) (m_cons m_int m_nil))) m_nil)) (blkOk_by (N := ["_law_bag_here", "_law_deep", "_law_menu", "_law_turn"]) (sc := defScope s__law_any) (by decide +kernel)) (fun _ _ _ _ _ => (mg_name (i := 3) nd rfl (.inl rfl))) (fun _ _ _ _ _ => mts_nil) (fun _ _ _ _ _ => (m_call (hj := by omega) ih hg hr (by rfl) (m_cons (m_var (pv 0)) (m_cons (m_op r_sub (m_var (pv 1)) m_int) m_nil)))))) m_nil)))) ms_nil)
    (ms_one (ms_ret (m_call (hj := by omega) D__law_some hg hr (by rfl) (m_cons (m_var (pv 0)) (m_cons (m_op r_add (m_var (pv 2)) (m_new (f_lst (m_cons (m_call (hj := by omega) D__law_word hg hr (by rfl) (m_cons (m_var (pv 0)) m_nil)) (m_cons (m_call (hj := by omega) D__law_word hg hr (by rfl) (m_cons (m_var (pv 0)) m_nil)) (m_cons (m_tup (m_cons (m_call (hj := by omega) D__law_word hg hr (by rfl) (m_cons (m_var (pv 0)) m_nil)) (m_cons (m_call (hj := by omega) D__law_word hg hr (by rfl) (m_cons (m_var (pv 0)) m_nil)) m_nil))) m_nil)))))) m_nil)))))))))
theorem w__law_number (G : Glo mg) (T : At K mg "_law_number" s__law_number ["_law_bag_here"]) (D__law_take : Def P w K mg base "_law_take" 2 1 (f__law_take)) (D__law_some : Def P w K mg base "_law_some" 2 2 (f__law_some)) : Def P w K mg base "_law_number" 1 3 (f__law_number) := by
  refine defN_of (k := 2) T sc__law_number rfl rfl fun f cdv A outer s H E hg hr => ?_
  have nd := sc__law_number.nd
  have hu := units66 hr
  exact (ms_cons (ms_set (i := 1) nd rfl (.inl rfl) (m_call D__law_some hg hr (by rfl) (m_cons (m_var (pv 0)) (m_cons (m_new (f_lst (m_cons (m_call D__law_take hg hr (by rfl) (m_cons (m_var (pv 0)) (m_cons m_int m_nil))) (m_cons (m_op r_mul m_int (m_op r_add m_int (m_call D__law_take hg hr (by rfl) (m_cons (m_var (pv 0)) (m_cons m_int m_nil))))) (m_cons (m_op r_add (m_op r_pow m_int m_int) (m_call D__law_take hg hr (by rfl) (m_cons (m_var (pv 0)) (m_cons (m_op r_pow m_int m_int) m_nil)))) (m_cons m_int (m_cons m_int m_nil))))))) m_nil))))
    (ms_one (ms_ret (m_if (m_cmpT (r_eq hu) (m_call D__law_take hg hr (by rfl) (m_cons (m_var (pv 0)) (m_cons m_int m_nil))) m_int (nm _ (by decide) (by decide))) (m_var (pv 1)) (m_op r_sub m_int (m_var (pv 1)))))))
theorem fn_law {c_NoText : Addr} (X_NoText : Cls P w K mg base "NoText" ["line", "column"] 1 c_NoText) (G : Glo mg) {f : Addr} {fd : FuncData} (F : Fun K "law" "law" s_law f fd) (D__law_bag : Def P w K mg base "_law_bag" 1 1 (f__law_bag)) (D__law_number : Def P w K mg base "_law_number" 1 3 (f__law_number)) (D__law_word : Def P w K mg base "_law_word" 1 3 (f__law_word)) (D__law_any : Def P w K mg base "_law_any" 2 7 (f__law_any c_NoText 3)) (D__law_some : Def P w K mg base "_law_some" 2 2 (f__law_some)) (D_is_deed : Def P w K mg base "is_deed" 1 2 (f_is_deed)) (D_is_fraction : Def P w K mg base "is_fraction" 1 2 (f_is_fraction)) (D_is_name : Def P w K mg base "is_name" 1 1 (f_is_name)) (D_is_integer : Def P w K mg base "is_integer" 1 1 (f_is_integer)) (D__law_is_deed : Def P w K mg base "_law_is_deed" 1 2 (f__law_is_deed)) (D__law_is_fraction : Def P w K mg base "_law_is_fraction" 1 2 (f__law_is_fraction)) (D__law_is_name : Def P w K mg base "_law_is_name" 1 1 (f__law_is_name)) (D__law_is_int : Def P w K mg base "_law_is_int" 1 1 (f__law_is_int)) (D_are_deeds : Def P w K mg base "are_deeds" 1 3 (f_are_deeds)) (D__law_alike : Def P w K mg base "_law_alike" 2 1 (f__law_alike)) (D__law_common : Def P w K mg base "_law_common" 2 1 (f__law_common)) (D_reduced : Def P w K mg base "reduced" 2 1 (f_reduced)) : FnG P w K mg base CX0 8 f fd ["_law_script"] (spM K 1 (f_law c_NoText)) := by
  refine def_ok (k := 7) F sc_law fun cdv A outer s H E hg hr => ?_
  have nd := sc_law.nd
  have hu := units66 hr
  exact (ms_cons (ms_set (i := 1) nd rfl (.inl rfl) (m_call D__law_bag hg hr (by rfl) (m_cons (m_var (pv 0)) m_nil)))
    (ms_cons (ms_for PassesOwn.never rfl (m_range1 (by rfl) G.z_range (m_cons m_int m_nil)) (mg_name (i := 2) nd rfl (.inl rfl)) (ms_cons (ms_set (i := 3) nd rfl (.inl rfl) (m_call D__law_some hg hr (by rfl) (m_cons (m_var (pv 1)) (m_cons (m_new (f_lst (m_cons (m_call D__law_any hg hr (by rfl) (m_cons (m_var (pv 1)) (m_cons m_int m_nil))) (m_cons (m_call D__law_word hg hr (by rfl) (m_cons (m_var (pv 1)) m_nil)) (m_cons (m_tup (m_cons (m_call D__law_number hg hr (by rfl) (m_cons (m_var (pv 1)) m_nil)) (m_cons (m_call D__law_number hg hr (by rfl) (m_cons (m_var (pv 1)) m_nil)) m_nil))) m_nil))))) m_nil))))
    (ms_cons (ms_set (i := 4) nd rfl (.inl rfl) (m_new (f_lst (m_cons (m_call D_is_integer hg hr (by rfl) (m_cons (m_var (pv 3)) m_nil)) (m_cons (m_call D_is_name hg hr (by rfl) (m_cons (m_var (pv 3)) m_nil)) (m_cons (m_call D_is_fraction hg hr (by rfl) (m_cons (m_var (pv 3)) m_nil)) (m_cons (m_call D_is_deed hg hr (by rfl) (m_cons (m_var (pv 3)) m_nil)) m_nil)))))))
    (ms_cons (ms_set (i := 5) nd rfl (.inl rfl) (m_new (f_lst (m_cons (m_call D__law_is_int hg hr (by rfl) (m_cons (m_var (pv 3)) m_nil)) (m_cons (m_call D__law_is_name hg hr (by rfl) (m_cons (m_var (pv 3)) m_nil)) (m_cons (m_call D__law_is_fraction hg hr (by rfl) (m_cons (m_var (pv 3)) m_nil)) (m_cons (m_call D__law_is_deed hg hr (by rfl) (m_cons (m_var (pv 3)) m_nil)) m_nil)))))))
    (ms_cons (ms_set (i := 6) nd rfl (.inl rfl) (m_call D__law_some hg hr (by rfl) (m_cons (m_var (pv 1)) (m_cons (m_new (f_lst (m_cons (m_var (pv 3)) (m_cons (m_tup (m_cons (m_var (pv 3)) m_nil)) (m_cons (m_tup (m_cons (m_tup (m_cons m_str (m_cons m_str m_nil))) (m_cons (m_var (pv 3)) m_nil))) (m_cons (m_new (f_lst (m_cons (m_var (pv 3)) m_nil))) (m_cons (m_tup (m_cons (m_var (pv 3)) (m_cons (m_tup (m_cons m_str (m_cons m_str m_nil))) m_nil))) m_nil))))))) m_nil))))
    (ms_cons (ms_set (i := 7) nd rfl (.inl rfl) (m_and (m_callB c_isi (by rfl) G.z_isinstance (by decide +kernel) (m_cons (m_var (pv 6)) (m_cons (m_bltn (by rfl) G.z_tuple (by decide +kernel) (show RelV (.ty "tuple") (.type "tuple") from rfl)) m_nil))) (m_bone (m_cmp (r_eq hu) (m_new (f_lc (own := [("_law_one", 11)]) rfl nd (m_it (m_var (pv 6))) (blkOk_by (N := ["_law_script", "_law_bag_here", "_law_turn", "_law_thing", "_law_told", "_law_due", "_law_rows", "_law_is_due", "_law_num", "_law_den", "_law_common_here", "_law_one"]) (sc := defScope s_law) (by decide +kernel)) (fun _ _ _ _ _ => (mg_name (i := 11) nd rfl (.inl rfl))) (fun _ _ _ _ _ => (mts_one (m_notT (m_val (m_call D__law_is_deed hg hr (by rfl) (m_cons (m_var (pv 11)) m_nil)))))) (fun _ _ _ _ _ => (m_var (pv 11))))) (m_new (f_lst m_nil)) (nm _ (by decide) (by decide))))))
    (ms_cons (ms_if (m_notT (m_val (m_call D__law_alike hg hr (by rfl) (m_cons (m_op r_add (m_var (pv 4)) (m_new (f_lst (m_cons (m_call D_are_deeds hg hr (by rfl) (m_cons (m_var (pv 6)) m_nil)) m_nil)))) (m_cons (m_op r_add (m_var (pv 5)) (m_new (f_lst (m_cons (m_var (pv 7)) m_nil)))) m_nil))))) (ms_one (ms_ret m_bl)) ms_nil)
    (ms_cons (ms_par (i := 8) (j := 9) rfl nd rfl rfl (by decide) rfl rfl (m_cons (m_call D__law_number hg hr (by rfl) (m_cons (m_var (pv 1)) m_nil)) (m_cons (m_call D__law_number hg hr (by rfl) (m_cons (m_var (pv 1)) m_nil)) m_nil)) (by rfl))
    (ms_cons (ms_set (i := 9) nd rfl (.inl rfl) (m_if (m_cmpT (r_ne hu) (m_var (pv 9)) m_int (nm _ (by decide) (by decide))) (m_var (pv 9)) (m_un r_neg m_int)))
    (ms_cons (ms_set (i := 10) nd rfl (.inl rfl) (m_op r_mul (m_call D__law_common hg hr (by rfl) (m_cons (m_callB c_abs (by rfl) G.z_abs (by decide +kernel) (m_cons (m_var (pv 8)) m_nil)) (m_cons (m_callB c_abs (by rfl) G.z_abs (by decide +kernel) (m_cons (m_var (pv 9)) m_nil)) m_nil))) (m_if (m_cmpT r_gt (m_var (pv 9)) m_int (nm _ (by decide) (by decide))) m_int (m_un r_neg m_int))))
    (ms_one (ms_if (m_notT (m_val (m_call D__law_alike hg hr (by rfl) (m_cons (m_call D_reduced hg hr (by rfl) (m_cons (m_var (pv 8)) (m_cons (m_var (pv 9)) m_nil))) (m_cons (m_tup (m_cons (m_op r_div (m_callTy c_int (by rfl) G.z_int (by decide +kernel) (m_cons (m_var (pv 8)) m_nil)) (m_var (pv 10))) (m_cons (m_op r_div (m_callTy c_int (by rfl) G.z_int (by decide +kernel) (m_cons (m_var (pv 9)) m_nil)) (m_var (pv 10))) m_nil))) m_nil))))) (ms_one (ms_ret m_bl)) ms_nil))))))))))))
    (ms_one (ms_ret m_bl))))
end
end K01

/-! MiW: what mirrors answer, step by step (plain; for simp). -/
namespace Mi
open PySem PySem.Spec PyProof.Rows L2
/-- there is an answer, and it is so -/
def Out {α : Type} (o : Option α) (Q : α → Prop) : Prop := ∃ z, o = some z ∧ Q z
/-- m answers without an error, so -/
def OkE {α : Type} (m : M α) (env : MEnv) (st : Sto) (Q : α → Sto → Prop) : Prop := ∃ a s, m env st = some (.ok a s) ∧ Q a s
abbrev QN := MEnv → Sto → Prop
abbrev QV := PV → Sto → Prop
/-- the ends of a statement: on, with a value, out of the loop, to its next turn; no error -/
def Rs (N : QN) (R : QV) (B C : QN) : SRes → Prop
  | .next e s => N e s
  | .ret v s => R v s
  | .brk e s => B e s
  | .cont e s => C e s
  | .exc _ _ _ => False
def OkS (m : MS) (env : MEnv) (st : Sto) (N : QN) (R : QV) (B C : QN) : Prop := ∃ r, m env st = some r ∧ Rs N R B C r
/-- a def answers so -/
def OkF (φ : FnM) (xs : List PV) (st : Sto) (Q : PV → Sto → Prop) : Prop := ∃ v s, φ xs st = some (.ok v s) ∧ Q v s
section
variable {α β : Type}
theorem ex_ok {a : α} {s : Sto} {Q : α → Sto → Prop} : (∃ b t, (some (Res.ok a s) : Option (Res α)) = some (.ok b t) ∧ Q b t) ↔ Q a s :=
  Iff.intro (fun ⟨b, t, e, q⟩ => by cases e; exact q) (fun q => ⟨a, s, rfl, q⟩)
theorem ex_none {Q : α → Sto → Prop} : (∃ b t, (none : Option (Res α)) = some (.ok b t) ∧ Q b t) ↔ False := Iff.intro (fun ⟨b, t, e, q⟩ => by cases e) False.elim
theorem ex_exc {x : PX} {s : Sto} {Q : α → Sto → Prop} : (∃ b t, (some (Res.exc x s) : Option (Res α)) = some (.ok b t) ∧ Q b t) ↔ False := Iff.intro (fun ⟨b, t, e, q⟩ => by cases e) False.elim
theorem out_some {z : α} {Q : α → Prop} : Out (some z) Q ↔ Q z := Iff.intro (fun ⟨_, e, q⟩ => by cases e; exact q) (fun q => ⟨z, rfl, q⟩)
theorem out_none {Q : α → Prop} : Out (none : Option α) Q ↔ False := Iff.intro (fun ⟨_, e, _⟩ => by cases e) False.elim
theorem out_map {o : Option α} {f : α → β} {Q : β → Prop} : Out (o.map f) Q ↔ Out o fun z => Q (f z) := by
  cases o with
  | none => simp only [Option.map_none, out_none]
  | some z => simp only [Option.map_some, out_some]
theorem out_ite {c : Prop} [Decidable c] {a b : Option α} {Q : α → Prop} : Out (if c then a else b) Q ↔ if c then Out a Q else Out b Q := by
  by_cases h : c
  · rw [if_pos h, if_pos h]
  · rw [if_neg h, if_neg h]
theorem out_iff1 {c : Prop} [Decidable c] {a : Option α} {Q : α → Prop} : Out (if c then a else none) Q ↔ c ∧ Out a Q := by
  by_cases h : c
  · rw [if_pos h]; exact Iff.intro (fun q => ⟨h, q⟩) (fun q => q.2)
  · rw [if_neg h, out_none]; exact Iff.intro False.elim (fun q => h q.1)
theorem ok_bind {m : M α} {f : α → M β} {env : MEnv} {st : Sto} {Q : β → Sto → Prop} : OkE (M.bind m f) env st Q ↔ OkE m env st fun a s => OkE (f a) env s Q := by
  unfold OkE M.bind
  cases e : m env st with
  | none => simp only [ex_none]
  | some r => cases r with
    | exc x s => simp only [ex_exc]
    | ok a s => simp only [ex_ok]
theorem ok_iff {α : Type} {m : M α} {env : MEnv} {st : Sto} {Q R : α → Sto → Prop} (h : ∀ a s, Q a s ↔ R a s) : OkE m env st Q ↔ OkE m env st R :=
  Iff.intro (fun ⟨a, s, e, q⟩ => ⟨a, s, e, (h a s).mp q⟩) (fun ⟨a, s, e, q⟩ => ⟨a, s, e, (h a s).mpr q⟩)
theorem ok_bind' {m : M α} {f : α → M β} {env : MEnv} {st : Sto} {Q : β → Sto → Prop} {R : α → Sto → Prop} (h : ∀ a s, OkE (f a) env s Q ↔ R a s) : OkE (M.bind m f) env st Q ↔ OkE m env st R := ok_bind.trans (ok_iff h)
theorem ok_map {o : Option β} {g : β → α} {s : Sto} {Q : α → Sto → Prop} : (∃ a s', (o.map fun z => Res.ok (g z) s) = some (.ok a s') ∧ Q a s') ↔ Out o fun z => Q (g z) s := by
  cases o with
  | none => simp only [Option.map_none, out_none, ex_none]
  | some z => simp only [Option.map_some, out_some, ex_ok]
theorem ok_pure {a : α} {env : MEnv} {st : Sto} {Q : α → Sto → Prop} : OkE (M.pure a) env st Q ↔ Q a st := ex_ok
theorem ok_if1 {c : Prop} [Decidable c] {a : α} {s : Sto} {Q : α → Sto → Prop} : (∃ b t, (if c then some (Res.ok a s) else none) = some (.ok b t) ∧ Q b t) ↔ c ∧ Q a s := by
  by_cases h : c
  · simp only [h, if_true, ex_ok, true_and]
  · simp only [h, if_false, ex_none, false_and]
end
section
variable {env : MEnv} {st : Sto} {Q : PV → Sto → Prop} {QB : Bool → Sto → Prop} {QL : List PV → Sto → Prop} {QS : SRes → Prop}
theorem ok_var {i : Nat} : OkE (mVar i) env st Q ↔ Out (env[i]?) fun o => Out o fun v => Q v st := by
  unfold OkE mVar
  cases e : env[i]? with
  | none => simp only [ex_none, out_none]
  | some o => cases o with
    | none => simp only [ex_none, out_none, out_some]
    | some v => simp only [ex_ok, out_some]
theorem ok_c {x : PV} : OkE (mC x) env st Q ↔ Q x st := ex_ok
theorem ok_nil : OkE mNil env st QL ↔ QL [] st := ex_ok
theorem ok_cons {m : M PV} {r : M (List PV)} : OkE (mCons m r) env st QL ↔ OkE m env st fun x s => OkE r env s fun xs s => QL (x :: xs) s :=
  ok_bind' fun _ _ => ok_bind' fun _ _ => ok_pure
theorem ok_tup {m : M (List PV)} : OkE (mTup m) env st Q ↔ OkE m env st fun xs s => xs.length ≤ sizeLine ∧ Q (.tup xs) s := ok_bind' fun _ _ => ok_if1
theorem ok_lst {m : M (List PV)} : OkE (mLst m) env st QL ↔ OkE m env st fun xs s => xs.length ≤ sizeLine ∧ QL xs s := ok_bind' fun _ _ => ok_if1
theorem ok_new {m : M (List PV)} : OkE (mNew m) env st Q ↔ OkE m env st fun xs s => Q (.lst xs) s := ok_bind' fun _ _ => ok_pure
theorem ok_tst {m : M PV} : OkE (mTst m) env st QB ↔ OkE m env st fun x s => ∃ b, x = PV.bl b ∧ QB b s := by
  refine ok_bind' fun a s => ?_
  cases a with
  | bl b => exact ex_ok.trans (Iff.intro (fun q => ⟨b, rfl, q⟩) fun ⟨c, e, q⟩ => by cases e; exact q)
  | _ => exact ex_none.trans (Iff.intro False.elim fun ⟨c, e, _⟩ => by cases e)
theorem ok_ite {α : Type} {c : Prop} [Decidable c] {a b : M α} {Q : α → Sto → Prop} : OkE (if c then a else b) env st Q ↔ if c then OkE a env st Q else OkE b env st Q := by
  by_cases h : c
  · rw [if_pos h, if_pos h]
  · rw [if_neg h, if_neg h]
theorem ite_congr2 {c : Bool} {a b a' b' : Prop} (h : a ↔ a') (k : b ↔ b') : (if c then a else b) ↔ (if c then a' else b') := by
  cases c
  · exact k
  · exact h
theorem ok_andT {a b : M Bool} : OkE (mAndT a b) env st QB ↔ OkE a env st fun c s => if c then OkE b env s QB else QB false s := ok_bind' fun _ _ => ok_ite.trans (ite_congr2 Iff.rfl ok_pure)
theorem ok_orT {a b : M Bool} : OkE (mOrT a b) env st QB ↔ OkE a env st fun c s => if c then QB true s else OkE b env s QB := ok_bind' fun _ _ => ok_ite.trans (ite_congr2 ok_pure Iff.rfl)
theorem ok_notT {a : M Bool} : OkE (mNotT a) env st QB ↔ OkE a env st fun c s => QB (!c) s := ok_bind' fun _ _ => ok_pure
theorem ok_and {a b : M PV} : OkE (mAnd a b) env st Q ↔ OkE (mTst a) env st fun c s => if c then OkE b env s Q else Q (.bl false) s := ok_bind' fun _ _ => ok_ite.trans (ite_congr2 Iff.rfl ok_pure)
theorem ok_or {a b : M PV} : OkE (mOr a b) env st Q ↔ OkE (mTst a) env st fun c s => if c then Q (.bl true) s else OkE b env s Q := ok_bind' fun _ _ => ok_ite.trans (ite_congr2 ok_pure Iff.rfl)
theorem ok_not {a : M PV} : OkE (mNot a) env st Q ↔ OkE (mTst a) env st fun c s => Q (.bl (!c)) s := ok_bind' fun _ _ => ok_pure
theorem ok_if {c : M Bool} {a b : M PV} : OkE (mIf c a b) env st Q ↔ OkE c env st fun c s => if c then OkE a env s Q else OkE b env s Q := ok_bind' fun _ _ => ok_ite
theorem ok_op {o : O2} {a b : M PV} : OkE (mOp o a b) env st Q ↔ OkE a env st fun x s => OkE b env s fun y s => Out (o x y s) fun z => Q z s := ok_bind' fun _ _ => ok_bind' fun _ _ => ok_map (g := id)
theorem ok_un {o : O1} {a : M PV} : OkE (mUn o a) env st Q ↔ OkE a env st fun x s => Out (o x s) fun z => Q z s := ok_bind' fun _ _ => ok_map (g := id)
theorem ok_cl {o : OL} {a : M (List PV)} : OkE (mCl o a) env st Q ↔ OkE a env st fun xs s => Out (o xs s) fun z => Q z s := ok_bind' fun _ _ => ok_map (g := id)
theorem ok_clF {o : OF} {a : M (List PV)} : OkE (mClF o a) env st QL ↔ OkE a env st fun xs s => Out (o xs s) fun z => QL z s := ok_bind' fun _ _ => ok_map (g := id)
theorem ok_call {φ : FnM} {a : M (List PV)} : OkE (mCall0 φ a) env st Q ↔ OkE a env st fun xs s => OkF φ xs s Q := by
  refine ok_bind' fun xs s => ?_
  unfold OkE OkF
  cases e : φ xs s with
  | none => simp only [e, ex_none]
  | some r => cases r with
    | ok v t => simp only [e, ex_ok]
    | exc x t => simp only [e, ex_none, ex_exc]
theorem ok_mk {C : Addr} {fs : List Str} {m : M (List PV)} : OkE (mMk C fs m) env st Q ↔ OkE m env st fun xs s => xs.length = fs.length ∧ Q (.exc C (fs.zip xs).reverse) s := ok_bind' fun _ _ => ok_if1
theorem ok_noPart {QO : Option Int → Sto → Prop} : OkE mNoPart env st QO ↔ QO none st := ex_ok
theorem ok_part {m : M PV} {QO : Option Int → Sto → Prop} : OkE (mPart m) env st QO ↔ OkE m env st fun x s => ∃ i, x = PV.int i ∧ QO (some i) s := by
  refine ok_bind' fun a s => ?_
  cases a with
  | int b => exact ex_ok.trans (Iff.intro (fun q => ⟨b, rfl, q⟩) fun ⟨c, e, q⟩ => by cases e; exact q)
  | _ => exact ex_none.trans (Iff.intro False.elim fun ⟨c, e, _⟩ => by cases e)
theorem ok_cut {m : M PV} {a b : MPart} : OkE (mCut m a b) env st Q ↔ OkE m env st fun x s => OkE a env s fun lo s => OkE b env s fun hi s => Out (oCut x lo hi s) fun z => Q z s :=
  ok_bind' fun _ _ => ok_bind' fun _ _ => ok_bind' fun _ _ => ok_map (g := id)
theorem ok_mt {T : String} {o : OMt} {m : M PV} {a : M (List PV)} : OkE (mMt T o m a) env st Q ↔ OkE m env st fun x s => rcv T x s = true ∧ OkE a env s fun xs s => Out (o x xs s) fun r => Q r.1 r.2 := by
  refine ok_bind' fun x s => ?_
  by_cases hr : rcv T x s = true
  · refine Iff.trans (b := OkE (M.bind a (fun xs => fun _ st => (o x xs st).map fun r => .ok r.1 r.2)) env s Q) ?_ ?_
    · unfold OkE
      simp only [hr, if_true]
    · refine Iff.trans (ok_bind' (R := fun xs s => Out (o x xs s) fun r => Q r.1 r.2) fun xs s => ?_) ?_
      · unfold OkE
        cases e : o x xs s with
        | none => simp only [e, Option.map_none, out_none, ex_none]
        | some z => simp only [e, Option.map_some, out_some, ex_ok]
      · simp only [hr, true_and]
  · unfold OkE
    simp only [hr, if_false, ex_none, false_and, Bool.false_eq_true]
theorem ok_chain {o o' : O2} {ma mb mc : M PV} : OkE (mChain o o' ma mb mc) env st Q ↔ OkE ma env st fun x s => OkE mb env s fun y s => Out (o x y s) fun z => (∃ b, z = PV.bl b ∧ if b then OkE mc env s fun w s => Out (o' y w s) fun r => Q r s else Q (.bl false) s) := by
  refine ok_bind' fun x s => ok_bind' fun y s => ?_
  cases e : o x y s with
  | none => unfold OkE; simp only [e, out_none, ex_none]
  | some z =>
    rw [out_some]
    cases z with
    | bl b =>
      cases b with
      | true =>
        refine Iff.trans (b := OkE (M.bind mc (fun z => fun _ st => (o' y z st).map fun r => .ok r st)) env s Q) ?_ ?_
        · unfold OkE
          simp only [e]
        · refine Iff.trans (ok_bind' (R := fun w s => Out (o' y w s) fun r => Q r s) fun w s => ok_map (g := id)) ?_
          exact Iff.intro (fun q => ⟨true, rfl, q⟩) fun ⟨c, e, q⟩ => by cases e; exact q
      | false =>
        unfold OkE
        simp only [e, ex_ok]
        exact Iff.intro (fun q => ⟨false, rfl, q⟩) fun ⟨c, e, q⟩ => by cases e; exact q
    | _ =>
      unfold OkE
      simp only [e, ex_none]
      exact Iff.intro False.elim fun ⟨c, e, _⟩ => by cases e
/-! ### statements -/
variable {N B C : QN} {R : QV}
theorem sx_some {r : SRes} : (∃ r', (some r : Option SRes) = some r' ∧ Rs N R B C r') ↔ Rs N R B C r := Iff.intro (fun ⟨_, e, q⟩ => by cases e; exact q) fun q => ⟨r, rfl, q⟩
theorem sx_none : (∃ r', (none : Option SRes) = some r' ∧ Rs N R B C r') ↔ False := Iff.intro (fun ⟨_, e, _⟩ => by cases e) False.elim
theorem sx_map {α : Type} {o : Option α} {f : α → SRes} : (∃ r', o.map f = some r' ∧ Rs N R B C r') ↔ Out o fun z => Rs N R B C (f z) := by
  cases o with
  | none => simp only [Option.map_none, out_none, sx_none]
  | some z => simp only [Option.map_some, out_some, sx_some]
theorem os_bind {α : Type} {m : M α} {f : α → MS} {P : α → Sto → Prop} (h : ∀ a s, OkS (f a) env s N R B C ↔ P a s) : OkS (M.bindS m f) env st N R B C ↔ OkE m env st P := by
  refine Iff.trans (b := OkE m env st fun a s => OkS (f a) env s N R B C) ?_ (ok_iff h)
  unfold OkS M.bindS OkE
  cases e : m env st with
  | none => simp only [sx_none, ex_none]
  | some r => cases r with
    | exc x s =>
      simp only [ex_exc]
      exact Iff.intro (fun ⟨r, e, q⟩ => by cases e; exact q) False.elim
    | ok a s => simp only [ex_ok]
theorem os_seq {a b : MS} : OkS (mSeq a b) env st N R B C ↔ OkS a env st (fun e s => OkS b e s N R B C) R B C := by
  unfold OkS mSeq
  cases e : a env st with
  | none => simp only [sx_none]
  | some r =>
    cases r with
    | next e1 s => exact Iff.trans Iff.rfl (Iff.symm (sx_some (r := .next e1 s)))
    | ret v s => exact Iff.trans (sx_some (r := .ret v s)) (Iff.symm (sx_some (r := .ret v s)))
    | brk e1 s => exact Iff.trans (sx_some (r := .brk e1 s)) (Iff.symm (sx_some (r := .brk e1 s)))
    | cont e1 s => exact Iff.trans (sx_some (r := .cont e1 s)) (Iff.symm (sx_some (r := .cont e1 s)))
    | exc x e1 s => exact Iff.trans (sx_some (r := .exc x e1 s)) (Iff.symm (sx_some (r := .exc x e1 s)))
theorem os_skip : OkS mSkip env st N R B C ↔ N env st := sx_some
theorem os_brk : OkS mBrk env st N R B C ↔ B env st := sx_some
theorem os_cont : OkS mCont env st N R B C ↔ C env st := sx_some
theorem os_retN : OkS mRetN env st N R B C ↔ R .non st := sx_some
theorem os_drop {m : M PV} : OkS (mDrop m) env st N R B C ↔ OkE m env st fun _ s => N env s := os_bind fun _ _ => sx_some
theorem os_ret {m : M PV} : OkS (mRet m) env st N R B C ↔ OkE m env st R := os_bind fun _ _ => sx_some
theorem os_retA {m : M (List PV)} : OkS (mRetA m) env st N R B C ↔ OkE m env st fun xs s => R (.ref s.length) (s ++ [.lst xs]) := os_bind fun _ _ => sx_some
theorem os_set {i : Nat} {m : M PV} : OkS (mSet i m) env st N R B C ↔ OkE m env st fun x s => N (env.set i (some x)) s := os_bind fun _ _ => sx_some
theorem os_setA {i : Nat} {m : M (List PV)} : OkS (mSetA i m) env st N R B C ↔ OkE m env st fun xs s => N (env.set i (some (.ref s.length))) (s ++ [.lst xs]) := os_bind fun _ _ => sx_some
theorem os_ite {c : Prop} [Decidable c] {a b : MS} : OkS (if c then a else b) env st N R B C ↔ if c then OkS a env st N R B C else OkS b env st N R B C := by
  by_cases h : c
  · rw [if_pos h, if_pos h]
  · rw [if_neg h, if_neg h]
theorem os_if {c : M Bool} {a b : MS} : OkS (mIfS c a b) env st N R B C ↔ OkE c env st fun c s => if c then OkS a env s N R B C else OkS b env s N R B C := os_bind fun _ _ => os_ite
theorem os_asg {t : Tg} {m : M PV} : OkS (mAsg t m) env st N R B C ↔ OkE m env st fun x s => Out (tgSet t x s env) fun e => N e s := os_bind fun _ _ => sx_map
theorem os_par {i j : Nat} {m : M (List PV)} : OkS (mPar i j m) env st N R B C ↔ OkE m env st fun xs s => ∃ x y, xs = [x, y] ∧ N ((env.set i (some x)).set j (some y)) s := by
  refine os_bind fun xs s => ?_
  match xs with
  | [x, y] => exact sx_some.trans (Iff.intro (fun q => ⟨x, y, rfl, q⟩) fun ⟨_, _, e, q⟩ => by cases e; exact q)
  | [] => exact sx_none.trans (Iff.intro False.elim fun ⟨_, _, e, _⟩ => by cases e)
  | [x] => exact sx_none.trans (Iff.intro False.elim fun ⟨_, _, e, _⟩ => by cases e)
  | x :: y :: z :: r => exact sx_none.trans (Iff.intro False.elim fun ⟨_, _, e, _⟩ => by cases e)
theorem os_aug {o : O2} {i : Nat} {m : M PV} : OkS (mAug o i m) env st N R B C ↔ OkE (mVar i) env st fun x s => OkE m env s fun y s => Out (o x y s) fun z => N (env.set i (some z)) s := by
  refine os_bind fun x s => os_bind fun y s => ?_
  unfold OkS
  cases e : o x y s with
  | none => simp only [e, sx_none, out_none]
  | some z =>
    simp only [e, out_some]
    exact sx_some
theorem os_put {me mo mi : M PV} : OkS (mPut me mo mi) env st N R B C ↔ OkE me env st fun y s => OkE mo env s fun x s => OkE mi env s fun k s => Out (oPut x k y s) fun s => N env s :=
  os_bind fun _ _ => os_bind fun _ _ => os_bind fun _ _ => sx_map
theorem os_augP {op : O2} {mo mi me : M PV} : OkS (mAugP op mo mi me) env st N R B C ↔ OkE mo env st fun x s => OkE mi env s fun k s => Out (oIxN x k s) fun v => OkE me env s fun y s => Out (op v y s) fun z => Out (oPut x k z s) fun s => N env s := by
  refine os_bind fun x s => os_bind fun k s => ?_
  unfold OkS
  cases e : oIxN x k s with
  | none => simp only [e, sx_none, out_none]
  | some v =>
    simp only [e, out_some]
    refine os_bind fun y s => ?_
    unfold OkS
    cases e : op v y s with
    | none => simp only [e, sx_none, out_none]
    | some z =>
      simp only [e, out_some]
      exact sx_map
theorem os_for {tg : Tg} {mi : M MIt} {b : MS} : OkS (mFor tg mi b) env st N R B C ↔ OkE mi env st fun it s => OkS (forL tg it b it.items) env s N R B C := os_bind fun _ _ => Iff.rfl
theorem ok_it {m : M PV} {Q : MIt → Sto → Prop} : OkE (mIt m) env st Q ↔ OkE m env st fun x s => Out (mItOf x s) fun it => Q it s := ok_bind' fun _ _ => ok_map (g := id)
theorem ok_range1 {m : M (List PV)} {Q : MIt → Sto → Prop} : OkE (mRange1 m) env st Q ↔ OkE m env st fun xs s => ∃ j, xs = [.int j] ∧ (-(2 ^ 62) ≤ j ∧ j ≤ (sizeLine : Nat)) ∧ Q ⟨intsF 0 j.toNat, none⟩ s := by
  refine ok_bind' fun xs s => ?_
  match xs with
  | [.int j] =>
    refine Iff.trans ok_if1 (Iff.intro (fun q => ⟨j, rfl, q⟩) fun ⟨_, e, q⟩ => by cases e; exact q)
  | [] => exact ex_none.trans (Iff.intro False.elim fun ⟨_, e, _⟩ => by cases e)
  | .non :: r | .bl _ :: r | .str _ :: r | .tup _ :: r | .lst _ :: r | .dic _ :: r | .rol _ :: r | .ref _ :: r | .opq _ :: r | .exc _ _ :: r => exact ex_none.trans (Iff.intro False.elim fun ⟨_, e, _⟩ => by cases e)
  | .int _ :: _ :: _ => exact ex_none.trans (Iff.intro False.elim fun ⟨_, e, _⟩ => by cases e)
theorem ok_range2 {m : M (List PV)} {Q : MIt → Sto → Prop} : OkE (mRange2 m) env st Q ↔ OkE m env st fun xs s => ∃ i j, xs = [.int i, .int j] ∧ (-(2 ^ 62) ≤ i ∧ i < 2 ^ 62 ∧ -(2 ^ 62) ≤ j ∧ j < 2 ^ 62 ∧ (j - i).toNat ≤ sizeLine) ∧ Q ⟨intsF i (j - i).toNat, none⟩ s := by
  refine ok_bind' fun xs s => ?_
  by_cases h : ∃ i j, xs = [.int i, .int j]
  · obtain ⟨i, j, rfl⟩ := h
    exact Iff.trans ok_if1 (Iff.intro (fun q => ⟨i, j, rfl, q⟩) fun ⟨_, _, e, q⟩ => by cases e; exact q)
  · refine Iff.intro (fun q => ?_) fun ⟨i, j, e, _⟩ => absurd ⟨i, j, e⟩ h
    obtain ⟨a, t, e, _⟩ := q
    exfalso
    revert e
    show (match xs with
      | [.int i, .int j] => _
      | _ => none) = _ → _
    split
    · rename_i i j
      exact absurd ⟨i, j, rfl⟩ h
    · intro e; cases e
/-- a comprehension -/
theorem ok_lc {tg : Tg} {mi : M MIt} {vs : List Nat} {c : M Bool} {el : M PV} : OkE (mLc tg mi vs c el) env st QL ↔ OkE mi env st fun it s => Out (compL tg it c el it.items (wipeM env vs) s) fun r => QL r.1 r.2 := by
  refine ok_bind' fun it s => ?_
  unfold OkE
  cases e : compL tg it c el it.items (wipeM env vs) s with
  | none => simp only [e, Option.map_none, ex_none, out_none]
  | some r => simp only [e, Option.map_some, ex_ok, out_some]
theorem ok_yes : OkE mYes env st QB ↔ QB true st := ex_ok
/-- a loop over what is not changed meanwhile, by an invariant -/
theorem for_inv {i : Nat} {b : MS} (I : Nat → QN) : ∀ (items all : List PV) (k : Nat) (env : MEnv) (st : Sto),
    (∀ j x env st, items[j]? = some x → I (k + j) env st → OkS b (env.set i (some x)) st (I (k + j + 1)) R N (I (k + j + 1))) → (∀ env st, I (k + items.length) env st → N env st) → I k env st → OkS (forL (.nm i) ⟨all, none⟩ b items) env st N R B C
  | [], all, k, env, st, _, hn, h0 => by
    unfold OkS forL
    have hc : (MIt.mk all none).chk st := True.intro
    rw [if_pos hc]
    exact sx_some.mpr (hn env st h0)
  | x :: xs, all, k, env, st, hb, hn, h0 => by
    have hc : (MIt.mk all none).chk st := True.intro
    obtain ⟨r, e, q⟩ := hb 0 x env st rfl h0
    have e2 : b (env.set i (some x)) st = some r := e
    have next : ∀ e1 s, I (k + 1) e1 s → OkS (forL (.nm i) ⟨all, none⟩ b xs) e1 s N R B C := fun e1 s h => for_inv I xs all (k + 1) e1 s (fun j y env st g g2 => by
      have := hb (j + 1) y env st (by simpa using g) (by rw [show k + (j + 1) = k + 1 + j by omega]; exact g2)
      rw [show k + (j + 1) + 1 = k + 1 + j + 1 by omega] at this
      exact this) (fun env st g => hn env st (by rw [List.length_cons, show k + (xs.length + 1) = k + 1 + xs.length by omega]; exact g)) h
    unfold OkS forL
    rw [if_pos hc]
    simp only [tgSet, e2]
    cases r with
    | next e1 s => exact next e1 s q
    | cont e1 s => exact next e1 s q
    | brk e1 s => exact sx_some.mpr q
    | ret v s => exact sx_some.mpr q
    | exc x e1 s => exact q.elim
/-- a comprehension over what is not changed meanwhile, by an invariant -/
theorem comp_inv {i : Nat} {c : M Bool} {el : M PV} {env : MEnv} (I : Sto → Prop) (G : PV → Prop) : ∀ (items all : List PV) (st : Sto),
    (∀ x ∈ items, ∀ st, I st → OkE c (env.set i (some x)) st fun b s => if b then OkE el (env.set i (some x)) s fun y s => G y ∧ I s else I s) → I st →
    Out (compL (.nm i) ⟨all, none⟩ c el items env st) fun r => (∀ y ∈ r.1, G y) ∧ r.1.length ≤ items.length ∧ I r.2
  | [], all, st, _, h0 => by
    have hc : (MIt.mk all none).chk st := True.intro
    unfold compL
    rw [if_pos hc, out_some]
    exact ⟨fun _ h => by simp at h, Nat.le_refl _, h0⟩
  | x :: xs, all, st, hb, h0 => by
    have hc : (MIt.mk all none).chk st := True.intro
    obtain ⟨b, s, e, q⟩ := hb x List.mem_cons_self st h0
    have next : ∀ s, I s → _ := fun s h => comp_inv I G xs all s (fun y hy => hb y (List.mem_cons_of_mem _ hy)) h
    unfold compL
    rw [if_pos hc]
    simp only [tgSet, e]
    cases b with
    | true =>
      obtain ⟨y, s2, e2, g, q2⟩ := q
      simp only [e2]
      rw [out_map]
      obtain ⟨r, e3, g3, l3, i3⟩ := next s2 q2
      refine ⟨r, e3, fun z hz => ?_, by simpa using l3, i3⟩
      rcases List.mem_cons.mp hz with rfl | hz
      · exact g
      · exact g3 z hz
    | false =>
      obtain ⟨r, e3, g3, l3, i3⟩ := next s q
      exact ⟨r, e3, g3, Nat.le_succ_of_le l3, i3⟩
/-- a comprehension that changes nothing: what is let by, mapped -/
theorem comp_map {i : Nat} {c : M Bool} {el : M PV} {env : MEnv} {st : Sto} {p : PV → Bool} {g : PV → PV} : ∀ (items all : List PV),
    (∀ x ∈ items, c (env.set i (some x)) st = some (.ok (p x) st) ∧ (p x = true → el (env.set i (some x)) st = some (.ok (g x) st))) →
    compL (.nm i) ⟨all, none⟩ c el items env st = some ((items.filter p).map g, st)
  | [], all, _ => by
    have hc : (MIt.mk all none).chk st := True.intro
    unfold compL
    rw [if_pos hc]
    rfl
  | x :: xs, all, hb => by
    have hc : (MIt.mk all none).chk st := True.intro
    have next := comp_map (i := i) (c := c) (el := el) (env := env) (st := st) (p := p) (g := g) xs all fun y hy => hb y (List.mem_cons_of_mem _ hy)
    obtain ⟨e1, e2⟩ := hb x List.mem_cons_self
    unfold compL
    rw [if_pos hc]
    simp only [tgSet, e1]
    cases hp : p x with
    | true =>
      simp only [e2 hp, next, Option.map_some, List.filter_cons, hp, if_true, List.map_cons]
    | false =>
      simp only [next, List.filter_cons, hp, Bool.false_eq_true, if_false]
end
/-! ### operations -/
section
variable {Q : PV → Prop} {i j : Int} {st : Sto}
theorem out_oI {C : Int → Int → Prop} {g : Int → Int → PV} : Out (oI C g (.int i) (.int j) st) Q ↔ C i j ∧ Q (g i j) := by
  unfold oI Out
  by_cases h : C i j <;> simp [h]
theorem out_add : Out (oAdd (.int i) (.int j) st) Q ↔ Q (.int (i + j)) := by simp [Out, oAdd]
theorem out_sub : Out (oSub (.int i) (.int j) st) Q ↔ Q (.int (i - j)) := by unfold oSub; rw [out_oI]; simp
theorem out_mul (h : (-(2 ^ 64) < i ∧ i < 2 ^ 64) ∨ (-(2 ^ 64) < j ∧ j < 2 ^ 64)) : Out (oMul (.int i) (.int j) st) Q ↔ Q (.int (i * j)) := by unfold oMul; rw [out_oI]; exact ⟨fun q => q.2, fun q => ⟨.inl h, q⟩⟩
theorem out_div (h : j ≠ 0) (h2 : j.natAbs.log2 < 9000) : Out (oDiv (.int i) (.int j) st) Q ↔ Q (.int (i.fdiv j)) := by unfold oDiv; rw [out_oI]; exact ⟨fun q => q.2, fun q => ⟨⟨h, h2⟩, q⟩⟩
theorem out_mod (h : j ≠ 0) : Out (oMod (.int i) (.int j) st) Q ↔ Q (.int (i.fmod j)) := by unfold oMod; rw [out_oI]; exact ⟨fun q => q.2, fun q => ⟨h, q⟩⟩
theorem out_pow (h : 0 ≤ j ∧ j ≤ 1000000 ∧ i.natAbs < 2 ^ 64) : Out (oPow (.int i) (.int j) st) Q ↔ Q (.int (i ^ j.toNat)) := by unfold oPow; rw [out_oI]; exact ⟨fun q => q.2, fun q => ⟨h, q⟩⟩
theorem out_neg : Out (oNeg (.int i) st) Q ↔ Q (.int (-i)) := by simp [Out, oNeg]
theorem out_le : Out (oLe (.int i) (.int j) st) Q ↔ Q (.bl (decide (i ≤ j))) := by unfold oLe; rw [out_oI]; simp
theorem out_gt : Out (oGt (.int i) (.int j) st) Q ↔ Q (.bl (decide (j < i))) := by unfold oGt; rw [out_oI]; simp
theorem out_ge : Out (oGe (.int i) (.int j) st) Q ↔ Q (.bl (decide (j ≤ i))) := by unfold oGe; rw [out_oI]; simp
theorem out_lt : Out (oLt (.int i) (.int j) st) Q ↔ Q (.bl (decide (i < j))) := by simp [Out, oLt]
theorem out_eqI : Out (oEq (.int i) (.int j) st) Q ↔ Q (.bl (decide (i = j))) := by
  have e : oEq (.int i) (.int j) st = some (.bl (decide (i = j))) := by
    simp [oEq, oEqB, unlike, asS, asL, dataV, dataP, deep64, PyData.depth, PyData.eqv]
    try (by_cases h : i = j <;> simp [h])
  rw [e, out_some]
theorem out_neI : Out (oNe (.int i) (.int j) st) Q ↔ Q (.bl (!decide (i = j))) := by
  have e : oNe (.int i) (.int j) st = some (.bl (!decide (i = j))) := by
    simp [oNe, oEqB, unlike, asS, asL, dataV, dataP, deep64, PyData.depth, PyData.eqv]
    try (by_cases h : i = j <;> simp [h])
  rw [e, out_some]
theorem out_int : Out (oInt [.int i] st) Q ↔ Q (.int i) := by simp [Out, oInt]
theorem out_abs : Out (oAbs [.int i] st) Q ↔ Q (.int (if i < 0 then -i else i)) := by simp [Out, oAbs]
theorem out_gcd : Out (oGcd [.int i, .int j] st) Q ↔ Q (.int ((Nat.gcd i.natAbs j.natAbs : Nat) : Int)) := by simp [Out, oGcd]
end
/-! ### defs -/
theorem of_defN {n nN : Nat} {b : MS} {xs : List PV} {st : Sto} {Q : PV → Sto → Prop} (hl : xs.length = n) (h : OkS b (xs.map some ++ List.replicate (nN - xs.length) none) st (fun _ s => Q .non s) Q (fun _ _ => False) (fun _ _ => False)) : OkF (defN n nN b) xs st Q := by
  obtain ⟨r, e, q⟩ := h
  unfold OkF defN onlyOk defP
  rw [if_pos hl, e]
  cases r with
  | ret v s => exact ⟨v, s, rfl, q⟩
  | next _ s => exact ⟨_, s, rfl, q⟩
  | brk _ _ => exact q.elim
  | cont _ _ => exact q.elim
  | exc _ _ _ => exact q.elim
theorem of_defT {n nN : Nat} {b : MS} {xs : List PV} {st : Sto} {Q : PV → Sto → Prop} (h : OkF (defN n nN b) xs st fun v s => Closed st s ∧ Out (frz st.length s v) fun v' => Q v' (s.take st.length)) : OkF (defT n nN b) xs st Q := by
  obtain ⟨v, s, e, hc, v', ef, q⟩ := h
  refine ⟨v', s.take st.length, ?_, q⟩
  unfold defT
  rw [e]
  unfold cut
  simp only [if_pos hc, ef]
  rfl
theorem OkF.imp {φ : FnM} {xs : List PV} {st : Sto} {Q Q' : PV → Sto → Prop} (h : OkF φ xs st Q) (k : ∀ v s, Q v s → Q' v s) : OkF φ xs st Q' :=
  let ⟨v, s, e, q⟩ := h
  ⟨v, s, e, k v s q⟩
theorem OkE.imp {α : Type} {m : M α} {env : MEnv} {st : Sto} {Q Q' : α → Sto → Prop} (h : OkE m env st Q) (k : ∀ v s, Q v s → Q' v s) : OkE m env st Q' :=
  let ⟨v, s, e, q⟩ := h
  ⟨v, s, e, k v s q⟩
end Mi

/-! MiB: the bag that laws draw from (plain). -/
namespace Mi
open PySem PySem.Spec PyProof.Rows L2
section
variable {Q : PV → Prop} {QS : Sto → Prop} {x y z w v : PV} {r : List PV} {rest st : Sto} {i : Int}
theorem atI_0 : atI (x :: r) 0 = some x := by
  unfold atI ixN
  have h : (0 : Int) < ((r.length : Int) + 1) := by omega
  simp [h]
theorem atI_1 : atI (x :: y :: r) 1 = some y := by
  unfold atI ixN
  have h : (1 : Int) < ((r.length : Int) + 1 + 1) := by omega
  simp [h]
theorem atI_2 : atI (x :: y :: z :: r) 2 = some z := by
  unfold atI ixN
  have h : (2 : Int) < ((r.length : Int) + 1 + 1 + 1) := by omega
  simp [h]
theorem atI_3 : atI (x :: y :: z :: w :: r) 3 = some w := by
  unfold atI ixN
  have h : (3 : Int) < ((r.length : Int) + 1 + 1 + 1 + 1) := by omega
  simp [h]
theorem ix_r {xs : List PV} : oIx (.ref 0) (.int i) (.lst xs :: rest) = atI xs i := rfl
theorem ix_l {xs : List PV} : oIx (.lst xs) (.int i) st = atI xs i := rfl
theorem ix_t {xs : List PV} : oIx (.tup xs) (.int i) st = atI xs i := rfl
theorem put_0 : oPut (.ref 0) (.int 0) v (.lst (x :: r) :: rest) = some (.lst (v :: r) :: rest) := by
  unfold oPut ixN
  have h : (0 : Int) < ((r.length : Int) + 1) := by omega
  simp [h]
theorem put_1 : oPut (.ref 0) (.int 1) v (.lst (x :: y :: r) :: rest) = some (.lst (x :: v :: r) :: rest) := by
  unfold oPut ixN
  have h : (1 : Int) < ((r.length : Int) + 1 + 1) := by omega
  simp [h]
theorem put_2 : oPut (.ref 0) (.int 2) v (.lst (x :: y :: z :: r) :: rest) = some (.lst (x :: y :: v :: r) :: rest) := by
  unfold oPut ixN
  have h : (2 : Int) < ((r.length : Int) + 1 + 1 + 1) := by omega
  simp [h]
theorem ixn_2 : oIxN (.ref 0) (.int 2) (.lst (x :: y :: z :: r) :: rest) = some z := rfl
theorem cut_l {xs : List PV} {lo hi : Option Int} : oCut (.lst xs) lo hi st = some (.lst (cutP xs lo hi)) := rfl
theorem cut_map {f : Int → PV} {xs : List Int} {lo hi : Option Int} : ∃ ys : List Int, cutP (xs.map f) lo hi = ys.map f ∧ (∀ y ∈ ys, y ∈ xs) ∧ ys.length ≤ xs.length := by
  refine ⟨(xs.drop (HT.sIx (xs.map f).length 0 lo)).take (HT.sIx (xs.map f).length (xs.map f).length hi - HT.sIx (xs.map f).length 0 lo), ?_, fun y hy => ?_, ?_⟩
  · unfold cutP
    rw [List.map_take, List.map_drop]
  · exact List.mem_of_mem_drop (List.mem_of_mem_take hy)
  · rw [List.length_take, List.length_drop]
    omega
theorem add_l {xs ys : List PV} : oAdd (.lst xs) (.lst ys) st = if xs.length + ys.length ≤ sizeLine then some (.lst (xs ++ ys)) else none := rfl
theorem small_line {n : Nat} (h : n ≤ 1000) : n ≤ sizeLine := Nat.le_trans h (by decide)
end
theorem fmod_pos {a b : Int} (h : 0 < b) : 0 ≤ a.fmod b ∧ a.fmod b < b := ⟨Int.fmod_nonneg_of_pos a h, Int.fmod_lt_of_pos a h⟩
theorem fdiv_pos {a b : Int} (h : 0 ≤ a) (h2 : 0 < b) : 0 ≤ a.fdiv b := Int.fdiv_nonneg h (Int.le_of_lt h2)
/-- the bag that numbers are drawn from -/
def BagO (o : MO) : Prop := ∃ (a b c : Int) (cells : List Int), o = .lst [.int a, .int b, .int c, .lst (cells.map .int)] ∧ 0 ≤ a ∧ 0 ≤ b ∧ b < 2147483647 ∧ (∀ x ∈ cells, 0 ≤ x) ∧ cells.length ≤ 63
/-- the def that draws a number -/
noncomputable def bTake2 : MS := (mSeq (mIfS (mTst (mOp oGt (mOp oIx (mVar 0) (mC (.int 0))) (mC (.int 0)))) (mSeq (mSet 4 (mOp oMod (mCl oInt (mCons (mOp oIx (mVar 0) (mC (.int 0))) mNil)) (mVar 1)))
    (mSeq (mPut (mOp oDiv (mCl oInt (mCons (mOp oIx (mVar 0) (mC (.int 0))) mNil)) (mVar 1)) (mVar 0) (mC (.int 0)))
    (mRet (mVar 4)))) mSkip)
    (mSeq (mSet 5 (mOp oMod (mCl oInt (mCons (mOp oMul (mOp oAdd (mOp oIx (mVar 0) (mC (.int 1))) (mC (.int 1))) (mC (.int 39373))) mNil)) (mC (.int 1000000007))))
    (mSeq (mSet 6 (mOp oMod (mCl oInt (mCons (mOp oMul (mOp oMod (mCl oInt (mCons (mOp oMul (mVar 5) (mVar 5)) mNil)) (mC (.int 998244353))) (mC (.int 30011))) mNil)) (mC (.int 998244353))))
    (mRet (mOp oMod (mCl oInt (mCons (mOp oDiv (mVar 6) (mC (.int 7))) mNil)) (mVar 1))))))
noncomputable def gTake : FnM := defN 2 7 (mSeq (mIfS (mTst (mOp oEq (mOp oIx (mVar 0) (mC (.int 0))) (mC (.int 0)))) (mSeq (mSet 2 (mOp oIx (mOp oAdd (mCut (mOp oIx (mVar 0) (mC (.int 3))) (mPart (mOp oIx (mVar 0) (mC (.int 2)))) mNoPart) (mNew (mLst (mCons (mC (.int 0)) mNil)))) (mC (.int 0))))
    (mSeq (mAugP (oI (fun _ _ => True) fun i j => .int (i + j)) (mVar 0) (mC (.int 2)) (mC (.int 1)))
    (mSeq (mIfS (mTst (mOp oGe (mVar 2) (mOp oPow (mC (.int 10)) (mC (.int 18))))) (mPut (mVar 2) (mVar 0) (mC (.int 0))) mSkip)
    (mSeq (mSet 3 (mOp oAdd (mOp oAdd (mOp oMul (mOp oIx (mVar 0) (mC (.int 1))) (mC (.int 48271))) (mOp oMod (mCl oInt (mCons (mVar 2) mNil)) (mC (.int 2147483647)))) (mOp oMul (mC (.int 7919)) (mOp oIx (mVar 0) (mC (.int 2))))))
    (mPut (mOp oMod (mCl oInt (mCons (mVar 3) mNil)) (mC (.int 2147483647))) (mVar 0) (mC (.int 1))))))) mSkip) bTake2)
def MulOk (i j : Int) : Prop := (-(2 ^ 64) < i ∧ i < 2 ^ 64) ∨ (-(2 ^ 64) < j ∧ j < 2 ^ 64) ∨ CMulW i j
def LogOk (j : Int) : Prop := j.natAbs.log2 < 9000
def PowOk (i j : Int) : Prop := 0 ≤ j ∧ j ≤ 1000000 ∧ i.natAbs < 2 ^ 64
theorem out_mulC {Q : PV → Prop} {i j : Int} {st : Sto} : Out (oMul (.int i) (.int j) st) Q ↔ MulOk i j ∧ Q (.int (i * j)) := by
  unfold oMul
  rw [out_oI]
  have e : (CMul i j ∨ CMulW i j) ↔ MulOk i j := or_assoc
  rw [e]
theorem out_divC {Q : PV → Prop} {i j : Int} {st : Sto} : Out (oDiv (.int i) (.int j) st) Q ↔ j ≠ 0 ∧ LogOk j ∧ Q (.int (i.fdiv j)) := by
  unfold oDiv
  rw [out_oI]
  exact and_assoc
theorem out_modC {Q : PV → Prop} {i j : Int} {st : Sto} : Out (oMod (.int i) (.int j) st) Q ↔ j ≠ 0 ∧ Q (.int (i.fmod j)) := by
  unfold oMod
  rw [out_oI]
theorem out_powC {Q : PV → Prop} {i j : Int} {st : Sto} : Out (oPow (.int i) (.int j) st) Q ↔ PowOk i j ∧ Q (.int (i ^ j.toNat)) := by
  unfold oPow
  rw [out_oI]
  rfl
theorem logOk_lt {j : Int} {k : Nat} (h : j.natAbs < 2 ^ (k + 1)) (hk : k < 9000) : LogOk j := by
  unfold LogOk
  have : j.natAbs.log2 < k + 1 := by
    rcases Nat.eq_zero_or_pos j.natAbs with h0 | h0
    · rw [h0]; simp
    · exact (Nat.log2_lt (by omega)).mpr h
  omega
theorem mulOk_l {i j : Int} (h : 0 ≤ i) (h2 : i < 2000000000000000000) : MulOk i j := .inl ⟨by omega, by omega⟩
theorem mulOk_r {i j : Int} (h : 0 ≤ j) (h2 : j < 2000000000000000000) : MulOk i j := .inr (.inl ⟨by omega, by omega⟩)
theorem take2_ok {rest : Sto} {a b c n : Int} {cells : List Int} {x2 x3 : Option PV} (h0 : 0 < n) (h1 : LogOk n) (ha : 0 ≤ a) (hb : 0 ≤ b) (hb2 : b < 2147483647) (hcs : ∀ x ∈ cells, 0 ≤ x) (hl : cells.length ≤ 63) {N B C : QN} :
    OkS bTake2 [some (.ref 0), some (.int n), x2, x3, none, none, none] (.lst [.int a, .int b, .int c, .lst (cells.map .int)] :: rest) N (fun v s => ∃ i B', v = .int i ∧ s = B' :: rest ∧ BagO B' ∧ 0 ≤ i ∧ i < n) B C := by
  have hn : n ≠ 0 := by omega
  simp only [bTake2, os_seq, os_skip, os_brk, os_cont, os_retN, os_drop, os_ret, os_retA, os_set, os_setA, os_if, os_asg, os_par, os_aug, os_put, os_augP, os_for, ok_var, ok_c, ok_nil, ok_cons, ok_tup, ok_lst, ok_new, ok_tst, ok_andT, ok_orT, ok_notT, ok_and, ok_or, ok_not, ok_if, ok_op, ok_un, ok_cl, ok_clF, ok_call, ok_mk, ok_noPart, ok_part, ok_cut, ok_mt, ok_chain, ok_it, ok_range1, ok_range2, ok_lc, ok_yes, out_some, out_none, out_add, out_sub, out_neg, out_le, out_gt, out_ge, out_lt, out_eqI, out_neI, out_int, out_abs, out_gcd, List.map_cons, List.map_nil, List.length_cons, List.length_nil, List.replicate, List.cons_append, List.nil_append, List.append_nil, List.getElem?_cons_zero, List.getElem?_cons_succ, List.set_cons_zero, List.set_cons_succ, PV.bl.injEq, PV.int.injEq, PV.str.injEq, exists_eq_left', exists_eq_left, and_true, true_and, if_true, if_false, Bool.false_eq_true, Bool.true_eq_false, decide_eq_true_eq, Nat.sub_self, Nat.reduceAdd, Nat.reduceSub, Nat.reduceLeDiff, List.cons.injEq, ix_r, ix_l, atI_0, atI_1, atI_2, atI_3, put_0, put_1, put_2, ixn_2, cut_l, out_oI, out_mulC, out_divC, out_modC, out_powC]
  split
  · refine ⟨hn, hn, h1, _, _, rfl, rfl, ⟨_, b, c, cells, rfl, fdiv_pos ha h0, hb, hb2, hcs, hl⟩, (fmod_pos h0).1, (fmod_pos h0).2⟩
  · have m1 := fmod_pos (a := (b + 1) * 39373) (b := 1000000007) (by decide)
    generalize ((b + 1) * 39373).fmod 1000000007 = k1 at m1 ⊢
    have m2 := fmod_pos (a := k1 * k1) (b := 998244353) (by decide)
    generalize (k1 * k1).fmod 998244353 = k2 at m2 ⊢
    refine ⟨mulOk_r (by decide) (by decide), by decide, mulOk_l m1.1 (by omega), by decide, mulOk_l m2.1 (by omega), by decide, by decide, logOk_lt (k := 5) (by decide) (by decide), hn, _, _, rfl, rfl, ⟨a, b, c, cells, rfl, ha, hb, hb2, hcs, hl⟩, (fmod_pos h0).1, (fmod_pos h0).2⟩
theorem first_of {ys : List Int} (h : ∀ y ∈ ys, 0 ≤ y) : ∃ v : Int, 0 ≤ v ∧ ∀ st, oIx (.lst (ys.map .int ++ [.int 0])) (.int 0) st = some (.int v) := by
  cases ys with
  | nil => exact ⟨0, by omega, fun _ => by rw [ix_l]; exact atI_0⟩
  | cons y ys => exact ⟨y, h y List.mem_cons_self, fun _ => by rw [ix_l]; exact atI_0⟩
theorem take_ok {B : MO} {rest : Sto} {n : Int} (hB : BagO B) (h0 : 0 < n) (h1 : LogOk n) : OkF gTake [.ref 0, .int n] (B :: rest) fun v s => ∃ i B', v = .int i ∧ s = B' :: rest ∧ BagO B' ∧ 0 ≤ i ∧ i < n := by
  obtain ⟨a, b, c, cells, rfl, ha, hb, hb2, hcs, hl⟩ := hB
  refine of_defN rfl ?_
  simp only [os_seq, os_skip, os_brk, os_cont, os_retN, os_drop, os_ret, os_retA, os_set, os_setA, os_if, os_asg, os_par, os_aug, os_put, os_augP, os_for, ok_var, ok_c, ok_nil, ok_cons, ok_tup, ok_lst, ok_new, ok_tst, ok_andT, ok_orT, ok_notT, ok_and, ok_or, ok_not, ok_if, ok_op, ok_un, ok_cl, ok_clF, ok_call, ok_mk, ok_noPart, ok_part, ok_cut, ok_mt, ok_chain, ok_it, ok_range1, ok_range2, ok_lc, ok_yes, out_some, out_none, out_add, out_sub, out_neg, out_le, out_gt, out_ge, out_lt, out_eqI, out_neI, out_int, out_abs, out_gcd, List.map_cons, List.map_nil, List.length_cons, List.length_nil, List.replicate, List.cons_append, List.nil_append, List.append_nil, List.getElem?_cons_zero, List.getElem?_cons_succ, List.set_cons_zero, List.set_cons_succ, PV.bl.injEq, PV.int.injEq, PV.str.injEq, exists_eq_left', exists_eq_left, and_true, true_and, if_true, if_false, Bool.false_eq_true, Bool.true_eq_false, decide_eq_true_eq, Nat.sub_self, Nat.reduceAdd, Nat.reduceSub, Nat.reduceLeDiff, List.cons.injEq, ix_r, atI_0, atI_1, atI_2, atI_3, ixn_2, put_2, cut_l, out_oI, add_l, out_iff1]
  split
  · obtain ⟨ys, e, hm, hy⟩ := cut_map (f := .int) (xs := cells) (lo := some c) (hi := none)
    rw [e]
    obtain ⟨v, hv, ev⟩ := first_of fun y h => hcs y (hm y h)
    refine ⟨small_line (by decide), small_line (by rw [List.length_map]; simp; omega), ?_⟩
    rw [ev, out_some]
    simp only [out_powC]
    refine ⟨⟨by decide, by decide, by decide⟩, ?_⟩
    simp only [os_seq, os_skip, os_brk, os_cont, os_retN, os_drop, os_ret, os_retA, os_set, os_setA, os_if, os_asg, os_par, os_aug, os_put, os_augP, os_for, ok_var, ok_c, ok_nil, ok_cons, ok_tup, ok_lst, ok_new, ok_tst, ok_andT, ok_orT, ok_notT, ok_and, ok_or, ok_not, ok_if, ok_op, ok_un, ok_cl, ok_clF, ok_call, ok_mk, ok_noPart, ok_part, ok_cut, ok_mt, ok_chain, ok_it, ok_range1, ok_range2, ok_lc, ok_yes, out_some, out_none, out_add, out_sub, out_neg, out_le, out_gt, out_ge, out_lt, out_eqI, out_neI, out_int, out_abs, out_gcd, List.map_cons, List.map_nil, List.length_cons, List.length_nil, List.replicate, List.cons_append, List.nil_append, List.append_nil, List.getElem?_cons_zero, List.getElem?_cons_succ, List.set_cons_zero, List.set_cons_succ, PV.bl.injEq, PV.int.injEq, PV.str.injEq, exists_eq_left', exists_eq_left, and_true, true_and, if_true, if_false, Bool.false_eq_true, Bool.true_eq_false, decide_eq_true_eq, Nat.sub_self, Nat.reduceAdd, Nat.reduceSub, Nat.reduceLeDiff, List.cons.injEq, ix_r, atI_0, atI_1, atI_2, put_0, put_1, out_mulC, out_modC]
    have m1 : ∀ z : Int, 0 ≤ z.fmod 2147483647 ∧ z.fmod 2147483647 < 2147483647 := fun z => fmod_pos (by decide)
    split
    · exact ⟨mulOk_r (by decide) (by decide), by decide, mulOk_l (by decide) (by decide), by decide, take2_ok h0 h1 hv (m1 _).1 (m1 _).2 hcs hl⟩
    · exact ⟨mulOk_r (by decide) (by decide), by decide, mulOk_l (by decide) (by decide), by decide, take2_ok h0 h1 ha (m1 _).1 (m1 _).2 hcs hl⟩
  · exact take2_ok h0 h1 ha hb hb2 hcs hl
end Mi

/-! MiC: one of some; the bag itself; alike (plain). -/
namespace Mi
open PySem PySem.Spec PyProof.Rows L2
/-- the def that draws one of some things -/
noncomputable def gSome : FnM := defN 2 2 (mRet (mOp oIx (mVar 1) (mCall0 gTake (mCons (mVar 0) (mCons (mCl oLen (mCons (mVar 1) mNil)) mNil)))))
theorem atI_mem {α : Type} {xs : List α} {i : Int} (h0 : 0 ≤ i) (h1 : i < xs.length) : ∃ x ∈ xs, atI xs i = some x := by
  have h : i.toNat < xs.length := by omega
  refine ⟨xs[i.toNat], List.getElem_mem h, ?_⟩
  unfold atI ixN
  simp [h0, h1, h]
theorem logOk_small {n : Nat} (h : n < 2 ^ 64) : LogOk (n : Int) := logOk_lt (k := 63) (by simpa using h) (by decide)
theorem some_ok {B : MO} {rest : Sto} {xs : List PV} (hB : BagO B) (h0 : xs ≠ []) (h1 : xs.length < 2 ^ 64) : OkF gSome [.ref 0, .lst xs] (B :: rest) fun v s => ∃ B', v ∈ xs ∧ s = B' :: rest ∧ BagO B' := by
  refine of_defN rfl ?_
  have hl : 0 < xs.length := List.length_pos_iff.mpr h0
  have el : ∀ s, oLen [.lst xs] s = some (.int xs.length) := fun _ => rfl
  simp only [os_seq, os_skip, os_brk, os_cont, os_retN, os_drop, os_ret, os_retA, os_set, os_setA, os_if, os_asg, os_par, os_aug, os_put, os_augP, os_for, ok_var, ok_c, ok_nil, ok_cons, ok_tup, ok_lst, ok_new, ok_tst, ok_andT, ok_orT, ok_notT, ok_and, ok_or, ok_not, ok_if, ok_op, ok_un, ok_cl, ok_clF, ok_call, ok_mk, ok_noPart, ok_part, ok_cut, ok_mt, ok_chain, ok_it, ok_range1, ok_range2, ok_lc, ok_yes, out_some, out_none, out_add, out_sub, out_neg, out_le, out_gt, out_ge, out_lt, out_eqI, out_neI, out_int, out_abs, out_gcd, List.map_cons, List.map_nil, List.length_cons, List.length_nil, List.replicate, List.cons_append, List.nil_append, List.append_nil, List.getElem?_cons_zero, List.getElem?_cons_succ, List.set_cons_zero, List.set_cons_succ, PV.bl.injEq, PV.int.injEq, PV.str.injEq, exists_eq_left', exists_eq_left, and_true, true_and, if_true, if_false, Bool.false_eq_true, Bool.true_eq_false, decide_eq_true_eq, Nat.sub_self, Nat.reduceAdd, Nat.reduceSub, Nat.reduceLeDiff, List.cons.injEq, el]
  refine (take_ok hB (by omega) (logOk_small h1)).imp fun v s h => ?_
  obtain ⟨i, B', rfl, rfl, hB', g0, g1⟩ := h
  obtain ⟨x, hx, e⟩ := atI_mem (xs := xs) g0 g1
  rw [ix_l, e, out_some]
  exact ⟨B', hx, rfl, hB'⟩
theorem some_str {B : MO} {rest : Sto} {z : Str} (hB : BagO B) (h0 : 0 < z.length) (h1 : z.length < 2 ^ 64) : OkF gSome [.ref 0, .str z] (B :: rest) fun v s => ∃ B' c, v = .str ⟨#[c]⟩ ∧ s = B' :: rest ∧ BagO B' := by
  refine of_defN rfl ?_
  have el : ∀ s, oLen [.str z] s = some (.int z.length) := fun _ => rfl
  simp only [os_seq, os_skip, os_brk, os_cont, os_retN, os_drop, os_ret, os_retA, os_set, os_setA, os_if, os_asg, os_par, os_aug, os_put, os_augP, os_for, ok_var, ok_c, ok_nil, ok_cons, ok_tup, ok_lst, ok_new, ok_tst, ok_andT, ok_orT, ok_notT, ok_and, ok_or, ok_not, ok_if, ok_op, ok_un, ok_cl, ok_clF, ok_call, ok_mk, ok_noPart, ok_part, ok_cut, ok_mt, ok_chain, ok_it, ok_range1, ok_range2, ok_lc, ok_yes, out_some, out_none, out_add, out_sub, out_neg, out_le, out_gt, out_ge, out_lt, out_eqI, out_neI, out_int, out_abs, out_gcd, List.map_cons, List.map_nil, List.length_cons, List.length_nil, List.replicate, List.cons_append, List.nil_append, List.append_nil, List.getElem?_cons_zero, List.getElem?_cons_succ, List.set_cons_zero, List.set_cons_succ, PV.bl.injEq, PV.int.injEq, PV.str.injEq, exists_eq_left', exists_eq_left, and_true, true_and, if_true, if_false, Bool.false_eq_true, Bool.true_eq_false, decide_eq_true_eq, Nat.sub_self, Nat.reduceAdd, Nat.reduceSub, Nat.reduceLeDiff, List.cons.injEq, el]
  refine (take_ok hB (by omega) (logOk_small h1)).imp fun v s h => ?_
  obtain ⟨i, B', rfl, rfl, hB', g0, g1⟩ := h
  obtain ⟨x, hx, e⟩ := atI_mem (xs := z.cps.toList) g0 (by simpa [Str.length] using g1)
  have e2 : oIx (.str z) (.int i) (B' :: rest) = some (.str ⟨#[x]⟩) := by
    show (atI z.cps.toList i).map _ = _
    rw [e]
    rfl
  rw [e2, out_some]
  exact ⟨B', x, rfl, rfl, hB'⟩
def absP : PV → PV
  | .int i => .int (if i < 0 then -i else i)
  | x => x
/-- the def that makes the bag of a script -/
noncomputable def gBag : FnM := defN 1 2 (mRetA (mLst (mCons (mC (.int 0)) (mCons (mC (.int 1234567891)) (mCons (mC (.int 0)) (mCons (mNew (mLc (.nm 1) (mIt (mCut (mVar 0) mNoPart (mPart (mC (.int 63))))) [1] mYes (mCl oAbs (mCons (mVar 1) mNil)))) mNil))))))
theorem bag_ok {ns : List Int} (h : ns.length ≤ 63) : OkF gBag [.rol (ns.map .int)] [] fun v s => ∃ B, v = .ref 0 ∧ s = [B] ∧ BagO B := by
  refine of_defN rfl ?_
  have ec : ∀ lo hi s, oCut (.rol (ns.map .int)) lo hi s = some (.lst (cutP (ns.map .int) lo hi)) := fun _ _ _ => rfl
  have ei : ∀ xs s, mItOf (.lst xs) s = some ⟨xs, none⟩ := fun _ _ => rfl
  simp only [os_seq, os_skip, os_brk, os_cont, os_retN, os_drop, os_ret, os_retA, os_set, os_setA, os_if, os_asg, os_par, os_aug, os_put, os_augP, os_for, ok_var, ok_c, ok_nil, ok_cons, ok_tup, ok_lst, ok_new, ok_tst, ok_andT, ok_orT, ok_notT, ok_and, ok_or, ok_not, ok_if, ok_op, ok_un, ok_cl, ok_clF, ok_call, ok_mk, ok_noPart, ok_part, ok_cut, ok_mt, ok_chain, ok_it, ok_range1, ok_range2, ok_lc, ok_yes, out_some, out_none, out_add, out_sub, out_neg, out_le, out_gt, out_ge, out_lt, out_eqI, out_neI, out_int, out_abs, out_gcd, List.map_cons, List.map_nil, List.length_cons, List.length_nil, List.replicate, List.cons_append, List.nil_append, List.append_nil, List.getElem?_cons_zero, List.getElem?_cons_succ, List.set_cons_zero, List.set_cons_succ, PV.bl.injEq, PV.int.injEq, PV.str.injEq, exists_eq_left', exists_eq_left, and_true, true_and, if_true, if_false, Bool.false_eq_true, Bool.true_eq_false, decide_eq_true_eq, Nat.sub_self, Nat.reduceAdd, Nat.reduceSub, Nat.reduceLeDiff, List.cons.injEq, ec, ei, wipeM]
  obtain ⟨ys, e, hm, hy⟩ := cut_map (f := .int) (xs := ns) (lo := none) (hi := some 63)
  rw [e]
  have hc : compL (.nm 1) ⟨ys.map .int, none⟩ mYes (mCl oAbs (mCons (mVar 1) mNil)) (ys.map .int) [some (.rol (ns.map .int)), none] [] = some (((ys.map .int).filter fun _ => true).map absP, []) := by
    refine comp_map (p := fun _ => true) (g := absP) _ _ fun x hx => ⟨rfl, fun _ => ?_⟩
    obtain ⟨i, _, rfl⟩ := List.mem_map.mp hx
    rfl
  have hf : ∀ l : List PV, l.filter (fun _ => true) = l := fun l => by simp
  rw [hc, out_some, hf]
  refine ⟨small_line (by simp), _, rfl, rfl, 0, 1234567891, 0, ys.map fun i => if i < 0 then -i else i, ?_, by decide, by decide, by decide, fun x hx => ?_, by rw [List.length_map]; omega⟩
  · rw [List.map_map, List.map_map]
    rfl
  · obtain ⟨i, _, rfl⟩ := List.mem_map.mp hx
    split <;> omega
/-- the def that says whether two values are alike -/
noncomputable def gAlike : FnM := defN 2 2 (mRet (mAnd (mOp oEq (mVar 0) (mVar 1)) (mOp oEq (mCl oRepr (mCons (mVar 0) mNil)) (mCl oRepr (mCons (mVar 1) mNil)))))
theorem alike_ok {x y : PV} {d : PyData} {st : Sto} (hx : dataV st x = some d) (hy : dataV st y = some d) (hu : unlike st x y = false) (hp : d.plain = true) (hs : shows d = true) : OkF gAlike [x, y] st fun v s => v = .bl true ∧ s = st := by
  have h64 : deep64 d = true := by
    simp only [shows, Bool.and_eq_true] at hs
    exact hs.1.2
  have e1 : oEq x y st = some (.bl true) := by
    unfold oEq oEqB
    simp only [hu, hx, hy, h64, Bool.and_true, if_true, Bool.false_eq_true, if_false, Option.map_some, PySem.SeqAt.eqv_refl_plain d hp]
  have e2 : oRepr [x] st = some (.str d.shown) := by simp only [oRepr, hx, hs, if_true]
  have e3 : oRepr [y] st = some (.str d.shown) := by simp only [oRepr, hy, hs, if_true]
  have e4 : oEq (.str d.shown) (.str d.shown) st = some (.bl true) := by
    simp [oEq, oEqB, unlike, asS, asL, dataV, dataP, deep64, PyData.depth, PyData.eqv]
  refine of_defN rfl ?_
  simp only [os_seq, os_skip, os_brk, os_cont, os_retN, os_drop, os_ret, os_retA, os_set, os_setA, os_if, os_asg, os_par, os_aug, os_put, os_augP, os_for, ok_var, ok_c, ok_nil, ok_cons, ok_tup, ok_lst, ok_new, ok_tst, ok_andT, ok_orT, ok_notT, ok_and, ok_or, ok_not, ok_if, ok_op, ok_un, ok_cl, ok_clF, ok_call, ok_mk, ok_noPart, ok_part, ok_cut, ok_mt, ok_chain, ok_it, ok_range1, ok_range2, ok_lc, ok_yes, out_some, out_none, out_add, out_sub, out_neg, out_le, out_gt, out_ge, out_lt, out_eqI, out_neI, out_int, out_abs, out_gcd, List.map_cons, List.map_nil, List.length_cons, List.length_nil, List.replicate, List.cons_append, List.nil_append, List.append_nil, List.getElem?_cons_zero, List.getElem?_cons_succ, List.set_cons_zero, List.set_cons_succ, PV.bl.injEq, PV.int.injEq, PV.str.injEq, exists_eq_left', exists_eq_left, and_true, true_and, if_true, if_false, Bool.false_eq_true, Bool.true_eq_false, decide_eq_true_eq, Nat.sub_self, Nat.reduceAdd, Nat.reduceSub, Nat.reduceLeDiff, List.cons.injEq, e1, e2, e3, e4]
end Mi

namespace K01
open PySem PySem.Spec PyProof.Rows L2 Mi
theorem OkF.eq {φ : FnM} {xs : List PV} {st s : Sto} {a : PV} (h : OkF φ xs st fun v t => v = a ∧ t = s) : φ xs st = some (.ok a s) := by
  obtain ⟨v, t, e, rfl, rfl⟩ := h
  exact e
theorem okf_of {φ : FnM} {xs : List PV} {st s : Sto} {a : PV} {Q : PV → Sto → Prop} (h : φ xs st = some (.ok a s)) : OkF φ xs st Q ↔ Q a s := by
  unfold OkF
  rw [h]
  exact ex_ok
theorem comp_eq {i : Nat} {c : M Bool} {el : M PV} {env : MEnv} {st : Sto} {p : PV → Bool} {g : PV → PV} {items all : List PV} (hc : ∀ x ∈ items, OkE c (env.set i (some x)) st fun b s => b = p x ∧ s = st)
    (he : ∀ x ∈ items, p x = true → OkE el (env.set i (some x)) st fun a s => a = g x ∧ s = st) : compL (.nm i) ⟨all, none⟩ c el items env st = some ((items.filter p).map g, st) := by
  refine comp_map items all fun x hx => ⟨?_, fun hp => ?_⟩
  · obtain ⟨b, s, e, rfl, rfl⟩ := hc x hx
    exact e
  · obtain ⟨b, s, e, rfl, rfl⟩ := he x hx hp
    exact e
theorem filter_all (xs : List PV) : xs.filter (fun _ => true) = xs := by simp
/-! ### what the forms are -/
def isK (T : String) : PV → Bool
  | .bl _ => T == "bool" || T == "int"
  | .int _ => T == "int"
  | .str _ => T == "str"
  | .tup _ => T == "tuple"
  | .lst _ => T == "list"
  | .dic _ => T == "dict"
  | _ => false
mutual
def fit : PV → Prop
  | .tup xs => fitL xs ∧ xs.length ≤ 1000
  | .int i => i.natAbs < 2 ^ 150
  | .lst xs => PV.pureL xs = true
  | .dic ps => PV.pureD ps = true
  | .exc _ fs => PV.pureF fs = true
  | .ref _ => False
  | .opq _ => False
  | .rol _ => False
  | .non => True
  | .bl _ => True
  | .str _ => True
def fitL : List PV → Prop
  | [] => True
  | x :: xs => fit x ∧ fitL xs
end
theorem fitL_mem : ∀ {xs : List PV} {x : PV}, fitL xs → x ∈ xs → fit x
  | y :: ys, x, h, hx => by
    simp only [fitL] at h
    rcases List.mem_cons.mp hx with rfl | hx
    · exact h.1
    · exact fitL_mem h.2 hx
theorem fitL_of : ∀ {xs : List PV}, (∀ x ∈ xs, fit x) → fitL xs
  | [], _ => by simp [fitL]
  | y :: ys, h => by
    simp only [fitL]
    exact ⟨h y List.mem_cons_self, fitL_of fun x hx => h x (List.mem_cons_of_mem _ hx)⟩
mutual
theorem fit_pure : ∀ x : PV, fit x → x.pure = true
  | .tup xs, h => by
    simp only [fit] at h
    simp only [PV.pure]
    exact fitL_pure xs h.1
  | .int i, _ => rfl
  | .lst xs, h => by simpa only [fit, PV.pure] using h
  | .dic ps, h => by simpa only [fit, PV.pure] using h
  | .exc C fs, h => by simpa only [fit, PV.pure] using h
  | .ref _, h => by simp [fit] at h
  | .opq _, h => by simp [fit] at h
  | .rol _, h => by simp [fit] at h
  | .non, _ => rfl
  | .bl _, _ => rfl
  | .str _, _ => rfl
theorem fitL_pure : ∀ xs : List PV, fitL xs → PV.pureL xs = true
  | [], _ => rfl
  | x :: xs, h => by
    simp only [fitL] at h
    simp only [PV.pureL, fit_pure x h.1, fitL_pure xs h.2, Bool.and_self]
end
theorem isi_ok {x : PV} {st : Sto} (h : fit x) : ∀ T ∈ kinds, oIsi [x, .opq (.ty T)] st = some (.bl (isK T x)) := by
  intro T hT
  simp only [kinds, List.mem_cons, List.not_mem_nil, or_false] at hT
  rcases hT with rfl | rfl | rfl | rfl | rfl | rfl <;> cases x <;> first | rfl | (simp [fit] at h)
def kInt (x : PV) : Bool := isK "int" x && !isK "bool" x
def letters : Str := "abcdefghijklmnopqrstuvwxyz"
def inL : PV → Bool
  | .str a => !(Builtin.Str.occurrences letters a 0 letters.length 1).isEmpty
  | _ => false
def kName : PV → Bool
  | .str z => decide (1 ≤ z.length) && decide (z.length ≤ 12) && (Mi.signs z).all inL
  | _ => false
def kFrac : PV → Bool
  | .tup [.int i, .int j] => decide (0 < j) && decide (Nat.gcd i.natAbs j.natAbs = 1)
  | _ => false
def kDeed : PV → Bool
  | .tup [a, b] => kName a && kName b
  | _ => false
def kDeeds : PV → Bool
  | .tup xs => xs.all kDeed
  | _ => false
theorem isi_int {x : PV} {st : Sto} (h : fit x) : oIsi [x, .opq (.ty "int")] st = some (.bl (isK "int" x)) := isi_ok h _ (by decide)
theorem isi_bool {x : PV} {st : Sto} (h : fit x) : oIsi [x, .opq (.ty "bool")] st = some (.bl (isK "bool" x)) := isi_ok h _ (by decide)
theorem isi_str {x : PV} {st : Sto} (h : fit x) : oIsi [x, .opq (.ty "str")] st = some (.bl (isK "str" x)) := isi_ok h _ (by decide)
theorem isi_tuple {x : PV} {st : Sto} (h : fit x) : oIsi [x, .opq (.ty "tuple")] st = some (.bl (isK "tuple" x)) := isi_ok h _ (by decide)
theorem is_integer_eq {x : PV} {st : Sto} (h : fit x) : f_is_integer [x] st = some (.ok (.bl (kInt x)) st) := by
  refine OkF.eq (of_defN rfl ?_)
  simp only [b_is_integer, os_seq, os_skip, os_brk, os_cont, os_retN, os_drop, os_ret, os_retA, os_set, os_setA, os_if, os_asg, os_par, os_aug, os_put, os_augP, os_for, ok_var, ok_c, ok_nil, ok_cons, ok_tup, ok_lst, ok_new, ok_tst, ok_andT, ok_orT, ok_notT, ok_and, ok_or, ok_not, ok_if, ok_op, ok_un, ok_cl, ok_clF, ok_call, ok_mk, ok_noPart, ok_part, ok_cut, ok_mt, ok_chain, ok_it, ok_range1, ok_range2, ok_lc, ok_yes, out_some, out_none, out_add, out_sub, out_neg, out_le, out_gt, out_ge, out_lt, out_eqI, out_neI, out_int, out_abs, out_gcd, List.map_cons, List.map_nil, List.length_cons, List.length_nil, List.replicate, List.cons_append, List.nil_append, List.append_nil, List.getElem?_cons_zero, List.getElem?_cons_succ, List.set_cons_zero, List.set_cons_succ, PV.bl.injEq, PV.int.injEq, PV.str.injEq, exists_eq_left', exists_eq_left, and_true, true_and, if_true, if_false, Bool.false_eq_true, Bool.true_eq_false, decide_eq_true_eq, Nat.sub_self, Nat.reduceAdd, Nat.reduceSub, Nat.reduceLeDiff, List.cons.injEq, isi_int h, isi_bool h, kInt]
  cases isK "int" x <;> simp
theorem law_is_int_eq {x : PV} {st : Sto} (h : fit x) : f__law_is_int [x] st = some (.ok (.bl (kInt x)) st) := is_integer_eq h
theorem str_of {x : PV} (h : isK "str" x = true) : ∃ z, x = .str z := by
  cases x <;> first | exact ⟨_, rfl⟩ | (simp [isK] at h)
theorem tup_of {x : PV} (h : isK "tuple" x = true) : ∃ z, x = .tup z := by
  cases x <;> first | exact ⟨_, rfl⟩ | (simp [isK] at h)
theorem signs_str {z : Str} {x : PV} (h : x ∈ Mi.signs z) : ∃ c, x = .str ⟨#[c]⟩ := by
  obtain ⟨c, _, rfl⟩ := List.mem_map.mp h
  exact ⟨c, rfl⟩
theorem bools_map (f : PV → Bool) : ∀ xs : List PV, bools (xs.map fun x => .bl (f x)) = some (xs.map f)
  | [] => rfl
  | x :: xs => by
    simp only [List.map_cons, bools, bools_map f xs]
theorem all_map {f : PV → Bool} {xs : List PV} {st : Sto} : oAll [.lst (xs.map fun x => .bl (f x))] st = some (.bl (xs.all f)) := by
  show (match bools (xs.map fun x => .bl (f x)) with | some bs => some (PV.bl (bs.all id)) | none => none) = _
  rw [bools_map]
  simp only [List.all_map]
  rfl
theorem eq_nil {ys : List PV} {st : Sto} : oEq (.lst ys) (.lst []) st = some (.bl ys.isEmpty) := by
  cases ys with
  | nil => rfl
  | cons y ys => rfl
theorem filter_none {p : PV → Bool} : ∀ xs : List PV, (xs.filter fun x => !p x).isEmpty = xs.all p
  | [] => rfl
  | x :: xs => by
    rw [List.filter_cons, List.all_cons]
    cases p x with
    | true => simpa using filter_none xs
    | false => rfl
theorem len_str {z : Str} {st : Sto} : oLen [.str z] st = some (.int z.length) := rfl
theorem len_tup {xs : List PV} {st : Sto} : oLen [.tup xs] st = some (.int xs.length) := rfl
theorem it_str {z : Str} {st : Sto} : mItOf (.str z) st = some ⟨Mi.signs z, none⟩ := rfl
theorem it_tup {z : List PV} {st : Sto} : mItOf (.tup z) st = some ⟨z, none⟩ := rfl
theorem is_name_eq {x : PV} {st : Sto} (h : fit x) : f_is_name [x] st = some (.ok (.bl (kName x)) st) := by
  refine OkF.eq (of_defN rfl ?_)
  simp only [b_is_name, os_seq, os_skip, os_brk, os_cont, os_retN, os_drop, os_ret, os_retA, os_set, os_setA, os_if, os_asg, os_par, os_aug, os_put, os_augP, os_for, ok_var, ok_c, ok_nil, ok_cons, ok_tup, ok_lst, ok_new, ok_tst, ok_andT, ok_orT, ok_notT, ok_and, ok_or, ok_not, ok_if, ok_op, ok_un, ok_cl, ok_clF, ok_call, ok_mk, ok_noPart, ok_part, ok_cut, ok_mt, ok_chain, ok_it, ok_range1, ok_range2, ok_lc, ok_yes, out_some, out_none, out_add, out_sub, out_neg, out_le, out_gt, out_ge, out_lt, out_eqI, out_neI, out_int, out_abs, out_gcd, List.map_cons, List.map_nil, List.length_cons, List.length_nil, List.replicate, List.cons_append, List.nil_append, List.append_nil, List.getElem?_cons_zero, List.getElem?_cons_succ, List.set_cons_zero, List.set_cons_succ, PV.bl.injEq, PV.int.injEq, PV.str.injEq, exists_eq_left', exists_eq_left, and_true, true_and, if_true, if_false, Bool.false_eq_true, Bool.true_eq_false, decide_eq_true_eq, Nat.sub_self, Nat.reduceAdd, Nat.reduceSub, Nat.reduceLeDiff, List.cons.injEq, isi_str h]
  cases hs : isK "str" x with
  | false =>
    simp only [Bool.false_eq_true, if_false, and_true]
    cases x <;> first | rfl | (simp [isK] at hs)
  | true =>
    obtain ⟨z, rfl⟩ := str_of hs
    simp only [if_true, len_str, out_some, out_le, it_str, wipeM, List.set_cons_succ, List.set_cons_zero, kName]
    rw [comp_eq (p := fun _ => true) (g := fun x => .bl (inL x)) (fun x hx => ⟨true, st, rfl, rfl, rfl⟩) (fun x hx _ => by
      obtain ⟨c, rfl⟩ := signs_str hx
      exact ⟨_, _, rfl, rfl, rfl⟩)]
    simp only [filter_all, os_seq, os_skip, os_brk, os_cont, os_retN, os_drop, os_ret, os_retA, os_set, os_setA, os_if, os_asg, os_par, os_aug, os_put, os_augP, os_for, ok_var, ok_c, ok_nil, ok_cons, ok_tup, ok_lst, ok_new, ok_tst, ok_andT, ok_orT, ok_notT, ok_and, ok_or, ok_not, ok_if, ok_op, ok_un, ok_cl, ok_clF, ok_call, ok_mk, ok_noPart, ok_part, ok_cut, ok_mt, ok_chain, ok_it, ok_range1, ok_range2, ok_lc, ok_yes, out_some, out_none, out_add, out_sub, out_neg, out_le, out_gt, out_ge, out_lt, out_eqI, out_neI, out_int, out_abs, out_gcd, List.map_cons, List.map_nil, List.length_cons, List.length_nil, List.replicate, List.cons_append, List.nil_append, List.append_nil, List.getElem?_cons_zero, List.getElem?_cons_succ, List.set_cons_zero, List.set_cons_succ, PV.bl.injEq, PV.int.injEq, PV.str.injEq, exists_eq_left', exists_eq_left, and_true, true_and, if_true, if_false, Bool.false_eq_true, Bool.true_eq_false, decide_eq_true_eq, Nat.sub_self, Nat.reduceAdd, Nat.reduceSub, Nat.reduceLeDiff, List.cons.injEq, all_map]
    by_cases h1 : (1 : Int) ≤ z.length <;> by_cases h2 : (z.length : Int) ≤ 12
    · have h1' : 1 ≤ z.length := by omega
      have h2' : z.length ≤ 12 := by omega
      simp [h1, h2, h1', h2']
    · have h2' : ¬ z.length ≤ 12 := by omega
      simp [h1, h2, h2']
    · have h1' : ¬ 1 ≤ z.length := by omega
      simp [h1, h1']
    · have h1' : ¬ 1 ≤ z.length := by omega
      simp [h1, h1']
theorem bl_eq {a b : Bool} (h : a = b) : PV.bl a = PV.bl b := by rw [h]
theorem law_is_name_eq {x : PV} {st : Sto} (h : fit x) : f__law_is_name [x] st = some (.ok (.bl (kName x)) st) := by
  refine OkF.eq (of_defN rfl ?_)
  simp only [b__law_is_name, os_seq, os_skip, os_brk, os_cont, os_retN, os_drop, os_ret, os_retA, os_set, os_setA, os_if, os_asg, os_par, os_aug, os_put, os_augP, os_for, ok_var, ok_c, ok_nil, ok_cons, ok_tup, ok_lst, ok_new, ok_tst, ok_andT, ok_orT, ok_notT, ok_and, ok_or, ok_not, ok_if, ok_op, ok_un, ok_cl, ok_clF, ok_call, ok_mk, ok_noPart, ok_part, ok_cut, ok_mt, ok_chain, ok_it, ok_range1, ok_range2, ok_lc, ok_yes, out_some, out_none, out_add, out_sub, out_neg, out_le, out_gt, out_ge, out_lt, out_eqI, out_neI, out_int, out_abs, out_gcd, List.map_cons, List.map_nil, List.length_cons, List.length_nil, List.replicate, List.cons_append, List.nil_append, List.append_nil, List.getElem?_cons_zero, List.getElem?_cons_succ, List.set_cons_zero, List.set_cons_succ, PV.bl.injEq, PV.int.injEq, PV.str.injEq, exists_eq_left', exists_eq_left, and_true, true_and, if_true, if_false, Bool.false_eq_true, Bool.true_eq_false, decide_eq_true_eq, Nat.sub_self, Nat.reduceAdd, Nat.reduceSub, Nat.reduceLeDiff, List.cons.injEq, isi_str h]
  cases hs : isK "str" x with
  | false =>
    simp only [Bool.not_false, if_true, and_true]
    cases x <;> first | rfl | (simp [isK] at hs)
  | true =>
    obtain ⟨z, rfl⟩ := str_of hs
    simp only [os_seq, os_skip, os_brk, os_cont, os_retN, os_drop, os_ret, os_retA, os_set, os_setA, os_if, os_asg, os_par, os_aug, os_put, os_augP, os_for, ok_var, ok_c, ok_nil, ok_cons, ok_tup, ok_lst, ok_new, ok_tst, ok_andT, ok_orT, ok_notT, ok_and, ok_or, ok_not, ok_if, ok_op, ok_un, ok_cl, ok_clF, ok_call, ok_mk, ok_noPart, ok_part, ok_cut, ok_mt, ok_chain, ok_it, ok_range1, ok_range2, ok_lc, ok_yes, out_some, out_none, out_add, out_sub, out_neg, out_le, out_gt, out_ge, out_lt, out_eqI, out_neI, out_int, out_abs, out_gcd, List.map_cons, List.map_nil, List.length_cons, List.length_nil, List.replicate, List.cons_append, List.nil_append, List.append_nil, List.getElem?_cons_zero, List.getElem?_cons_succ, List.set_cons_zero, List.set_cons_succ, PV.bl.injEq, PV.int.injEq, PV.str.injEq, exists_eq_left', exists_eq_left, and_true, true_and, if_true, if_false, Bool.false_eq_true, Bool.true_eq_false, decide_eq_true_eq, Nat.sub_self, Nat.reduceAdd, Nat.reduceSub, Nat.reduceLeDiff, List.cons.injEq, Bool.not_true, if_false, Bool.false_eq_true, len_str, it_str, wipeM]
    have e := comp_eq (i := 1) (c := mTst (mOp oNotIn (mVar 1) (mC (.str letters)))) (el := mVar 1) (env := [some (.str z), none]) (st := st) (p := fun x => !inL x) (g := id) (items := Mi.signs z) (all := Mi.signs z)
      (fun x hx => by
        obtain ⟨c, rfl⟩ := signs_str hx
        exact ⟨_, _, rfl, rfl, rfl⟩) (fun x hx _ => ⟨_, _, rfl, rfl, rfl⟩)
    have e' : compL (.nm 1) ⟨Mi.signs z, none⟩ (mTst (mOp oNotIn (mVar 1) (mC (.str "abcdefghijklmnopqrstuvwxyz")))) (mVar 1) (Mi.signs z) [some (.str z), none] st = some (((Mi.signs z).filter fun x => !inL x).map id, st) := e
    rw [e']
    simp only [out_some, List.map_id, eq_nil, filter_none, kName]
    by_cases h1 : (1 : Int) ≤ z.length <;> by_cases h2 : (z.length : Int) ≤ 12
    · have h1' : 1 ≤ z.length := by omega
      have h2' : z.length ≤ 12 := by omega
      simp [h1, h2, h1', h2', sizeLine_eq]
    · have h2' : ¬ z.length ≤ 12 := by omega
      simp [h1, h2, h2']
    · have h1' : ¬ 1 ≤ z.length := by omega
      simp [h1, h1']
    · have h1' : ¬ 1 ≤ z.length := by omega
      simp [h1, h1']
theorem is_deed_eq {x : PV} {st : Sto} (h : fit x) : f_is_deed [x] st = some (.ok (.bl (kDeed x)) st) := by
  refine OkF.eq (of_defN rfl ?_)
  simp only [b_is_deed, os_seq, os_skip, os_brk, os_cont, os_retN, os_drop, os_ret, os_retA, os_set, os_setA, os_if, os_asg, os_par, os_aug, os_put, os_augP, os_for, ok_var, ok_c, ok_nil, ok_cons, ok_tup, ok_lst, ok_new, ok_tst, ok_andT, ok_orT, ok_notT, ok_and, ok_or, ok_not, ok_if, ok_op, ok_un, ok_cl, ok_clF, ok_call, ok_mk, ok_noPart, ok_part, ok_cut, ok_mt, ok_chain, ok_it, ok_range1, ok_range2, ok_lc, ok_yes, out_some, out_none, out_add, out_sub, out_neg, out_le, out_gt, out_ge, out_lt, out_eqI, out_neI, out_int, out_abs, out_gcd, List.map_cons, List.map_nil, List.length_cons, List.length_nil, List.replicate, List.cons_append, List.nil_append, List.append_nil, List.getElem?_cons_zero, List.getElem?_cons_succ, List.set_cons_zero, List.set_cons_succ, PV.bl.injEq, PV.int.injEq, PV.str.injEq, exists_eq_left', exists_eq_left, and_true, true_and, if_true, if_false, Bool.false_eq_true, Bool.true_eq_false, decide_eq_true_eq, Nat.sub_self, Nat.reduceAdd, Nat.reduceSub, Nat.reduceLeDiff, List.cons.injEq, isi_tuple h]
  cases hs : isK "tuple" x with
  | false =>
    simp only [Bool.false_eq_true, if_false, and_true]
    cases x <;> first | rfl | (simp [isK] at hs)
  | true =>
    obtain ⟨xs, rfl⟩ := tup_of hs
    simp only [fit] at h
    simp only [os_seq, os_skip, os_brk, os_cont, os_retN, os_drop, os_ret, os_retA, os_set, os_setA, os_if, os_asg, os_par, os_aug, os_put, os_augP, os_for, ok_var, ok_c, ok_nil, ok_cons, ok_tup, ok_lst, ok_new, ok_tst, ok_andT, ok_orT, ok_notT, ok_and, ok_or, ok_not, ok_if, ok_op, ok_un, ok_cl, ok_clF, ok_call, ok_mk, ok_noPart, ok_part, ok_cut, ok_mt, ok_chain, ok_it, ok_range1, ok_range2, ok_lc, ok_yes, out_some, out_none, out_add, out_sub, out_neg, out_le, out_gt, out_ge, out_lt, out_eqI, out_neI, out_int, out_abs, out_gcd, List.map_cons, List.map_nil, List.length_cons, List.length_nil, List.replicate, List.cons_append, List.nil_append, List.append_nil, List.getElem?_cons_zero, List.getElem?_cons_succ, List.set_cons_zero, List.set_cons_succ, PV.bl.injEq, PV.int.injEq, PV.str.injEq, exists_eq_left', exists_eq_left, and_true, true_and, if_true, if_false, Bool.false_eq_true, Bool.true_eq_false, decide_eq_true_eq, Nat.sub_self, Nat.reduceAdd, Nat.reduceSub, Nat.reduceLeDiff, List.cons.injEq, if_true, len_tup, it_tup, wipeM]
    have e := comp_eq (i := 1) (c := mYes) (el := mCall0 f_is_name (mCons (mVar 1) mNil)) (env := [some (.tup xs), none]) (st := st) (p := fun _ => true) (g := fun x => .bl (kName x)) (items := xs) (all := xs)
      (fun x hx => ⟨true, st, rfl, rfl, rfl⟩) (fun x hx _ => by
        simp only [os_seq, os_skip, os_brk, os_cont, os_retN, os_drop, os_ret, os_retA, os_set, os_setA, os_if, os_asg, os_par, os_aug, os_put, os_augP, os_for, ok_var, ok_c, ok_nil, ok_cons, ok_tup, ok_lst, ok_new, ok_tst, ok_andT, ok_orT, ok_notT, ok_and, ok_or, ok_not, ok_if, ok_op, ok_un, ok_cl, ok_clF, ok_call, ok_mk, ok_noPart, ok_part, ok_cut, ok_mt, ok_chain, ok_it, ok_range1, ok_range2, ok_lc, ok_yes, out_some, out_none, out_add, out_sub, out_neg, out_le, out_gt, out_ge, out_lt, out_eqI, out_neI, out_int, out_abs, out_gcd, List.map_cons, List.map_nil, List.length_cons, List.length_nil, List.replicate, List.cons_append, List.nil_append, List.append_nil, List.getElem?_cons_zero, List.getElem?_cons_succ, List.set_cons_zero, List.set_cons_succ, PV.bl.injEq, PV.int.injEq, PV.str.injEq, exists_eq_left', exists_eq_left, and_true, true_and, if_true, if_false, Bool.false_eq_true, Bool.true_eq_false, decide_eq_true_eq, Nat.sub_self, Nat.reduceAdd, Nat.reduceSub, Nat.reduceLeDiff, List.cons.injEq]
        rw [okf_of (is_name_eq (fitL_mem h.1 hx))]
        exact ⟨rfl, rfl⟩)
    rw [e]
    simp only [os_seq, os_skip, os_brk, os_cont, os_retN, os_drop, os_ret, os_retA, os_set, os_setA, os_if, os_asg, os_par, os_aug, os_put, os_augP, os_for, ok_var, ok_c, ok_nil, ok_cons, ok_tup, ok_lst, ok_new, ok_tst, ok_andT, ok_orT, ok_notT, ok_and, ok_or, ok_not, ok_if, ok_op, ok_un, ok_cl, ok_clF, ok_call, ok_mk, ok_noPart, ok_part, ok_cut, ok_mt, ok_chain, ok_it, ok_range1, ok_range2, ok_lc, ok_yes, out_some, out_none, out_add, out_sub, out_neg, out_le, out_gt, out_ge, out_lt, out_eqI, out_neI, out_int, out_abs, out_gcd, filter_all, all_map]
    by_cases hl : (xs.length : Int) = 2
    · match xs, hl with
      | [a, b], _ => simp [kDeed]
    · simp only [hl, decide_false, Bool.false_eq_true, if_false, and_true]
      match xs, hl with
      | [], _ => rfl
      | [a], _ => rfl
      | a :: b :: c :: r, _ => rfl
      | [a, b], hl => exact absurd rfl hl
theorem law_is_deed_eq {x : PV} {st : Sto} (h : fit x) : f__law_is_deed [x] st = some (.ok (.bl (kDeed x)) st) := by
  refine OkF.eq (of_defN rfl ?_)
  simp only [b__law_is_deed, os_seq, os_skip, os_brk, os_cont, os_retN, os_drop, os_ret, os_retA, os_set, os_setA, os_if, os_asg, os_par, os_aug, os_put, os_augP, os_for, ok_var, ok_c, ok_nil, ok_cons, ok_tup, ok_lst, ok_new, ok_tst, ok_andT, ok_orT, ok_notT, ok_and, ok_or, ok_not, ok_if, ok_op, ok_un, ok_cl, ok_clF, ok_call, ok_mk, ok_noPart, ok_part, ok_cut, ok_mt, ok_chain, ok_it, ok_range1, ok_range2, ok_lc, ok_yes, out_some, out_none, out_add, out_sub, out_neg, out_le, out_gt, out_ge, out_lt, out_eqI, out_neI, out_int, out_abs, out_gcd, List.map_cons, List.map_nil, List.length_cons, List.length_nil, List.replicate, List.cons_append, List.nil_append, List.append_nil, List.getElem?_cons_zero, List.getElem?_cons_succ, List.set_cons_zero, List.set_cons_succ, PV.bl.injEq, PV.int.injEq, PV.str.injEq, exists_eq_left', exists_eq_left, and_true, true_and, if_true, if_false, Bool.false_eq_true, Bool.true_eq_false, decide_eq_true_eq, Nat.sub_self, Nat.reduceAdd, Nat.reduceSub, Nat.reduceLeDiff, List.cons.injEq, isi_tuple h]
  cases hs : isK "tuple" x with
  | false =>
    simp only [Bool.false_eq_true, if_false, and_true]
    cases x <;> first | rfl | (simp [isK] at hs)
  | true =>
    obtain ⟨xs, rfl⟩ := tup_of hs
    simp only [fit] at h
    simp only [os_seq, os_skip, os_brk, os_cont, os_retN, os_drop, os_ret, os_retA, os_set, os_setA, os_if, os_asg, os_par, os_aug, os_put, os_augP, os_for, ok_var, ok_c, ok_nil, ok_cons, ok_tup, ok_lst, ok_new, ok_tst, ok_andT, ok_orT, ok_notT, ok_and, ok_or, ok_not, ok_if, ok_op, ok_un, ok_cl, ok_clF, ok_call, ok_mk, ok_noPart, ok_part, ok_cut, ok_mt, ok_chain, ok_it, ok_range1, ok_range2, ok_lc, ok_yes, out_some, out_none, out_add, out_sub, out_neg, out_le, out_gt, out_ge, out_lt, out_eqI, out_neI, out_int, out_abs, out_gcd, List.map_cons, List.map_nil, List.length_cons, List.length_nil, List.replicate, List.cons_append, List.nil_append, List.append_nil, List.getElem?_cons_zero, List.getElem?_cons_succ, List.set_cons_zero, List.set_cons_succ, PV.bl.injEq, PV.int.injEq, PV.str.injEq, exists_eq_left', exists_eq_left, and_true, true_and, if_true, if_false, Bool.false_eq_true, Bool.true_eq_false, decide_eq_true_eq, Nat.sub_self, Nat.reduceAdd, Nat.reduceSub, Nat.reduceLeDiff, List.cons.injEq, if_true, len_tup]
    by_cases hl : (xs.length : Int) = 2
    · match xs, hl, h with
      | [a, b], _, h =>
        simp only [fitL] at h
        simp only [hl, ix_t, atI_0, atI_1, os_seq, os_skip, os_brk, os_cont, os_retN, os_drop, os_ret, os_retA, os_set, os_setA, os_if, os_asg, os_par, os_aug, os_put, os_augP, os_for, ok_var, ok_c, ok_nil, ok_cons, ok_tup, ok_lst, ok_new, ok_tst, ok_andT, ok_orT, ok_notT, ok_and, ok_or, ok_not, ok_if, ok_op, ok_un, ok_cl, ok_clF, ok_call, ok_mk, ok_noPart, ok_part, ok_cut, ok_mt, ok_chain, ok_it, ok_range1, ok_range2, ok_lc, ok_yes, out_some, out_none, out_add, out_sub, out_neg, out_le, out_gt, out_ge, out_lt, out_eqI, out_neI, out_int, out_abs, out_gcd, okf_of (law_is_name_eq h.1.1), okf_of (law_is_name_eq h.1.2.1), kDeed]
        cases kName a <;> simp
    · simp only [hl, decide_false, Bool.false_eq_true, if_false, and_true]
      match xs, hl with
      | [], _ => rfl
      | [a], _ => rfl
      | a :: b :: c :: r, _ => rfl
      | [a, b], hl => exact absurd rfl hl
theorem are_deeds_eq {x : PV} {st : Sto} (h : fit x) : f_are_deeds [x] st = some (.ok (.bl (kDeeds x)) st) := by
  refine OkF.eq (of_defN rfl ?_)
  simp only [b_are_deeds, os_seq, os_skip, os_brk, os_cont, os_retN, os_drop, os_ret, os_retA, os_set, os_setA, os_if, os_asg, os_par, os_aug, os_put, os_augP, os_for, ok_var, ok_c, ok_nil, ok_cons, ok_tup, ok_lst, ok_new, ok_tst, ok_andT, ok_orT, ok_notT, ok_and, ok_or, ok_not, ok_if, ok_op, ok_un, ok_cl, ok_clF, ok_call, ok_mk, ok_noPart, ok_part, ok_cut, ok_mt, ok_chain, ok_it, ok_range1, ok_range2, ok_lc, ok_yes, out_some, out_none, out_add, out_sub, out_neg, out_le, out_gt, out_ge, out_lt, out_eqI, out_neI, out_int, out_abs, out_gcd, List.map_cons, List.map_nil, List.length_cons, List.length_nil, List.replicate, List.cons_append, List.nil_append, List.append_nil, List.getElem?_cons_zero, List.getElem?_cons_succ, List.set_cons_zero, List.set_cons_succ, PV.bl.injEq, PV.int.injEq, PV.str.injEq, exists_eq_left', exists_eq_left, and_true, true_and, if_true, if_false, Bool.false_eq_true, Bool.true_eq_false, decide_eq_true_eq, Nat.sub_self, Nat.reduceAdd, Nat.reduceSub, Nat.reduceLeDiff, List.cons.injEq, isi_tuple h]
  cases hs : isK "tuple" x with
  | false =>
    simp only [Bool.false_eq_true, if_false, and_true]
    cases x <;> first | rfl | (simp [isK] at hs)
  | true =>
    obtain ⟨xs, rfl⟩ := tup_of hs
    simp only [fit] at h
    simp only [os_seq, os_skip, os_brk, os_cont, os_retN, os_drop, os_ret, os_retA, os_set, os_setA, os_if, os_asg, os_par, os_aug, os_put, os_augP, os_for, ok_var, ok_c, ok_nil, ok_cons, ok_tup, ok_lst, ok_new, ok_tst, ok_andT, ok_orT, ok_notT, ok_and, ok_or, ok_not, ok_if, ok_op, ok_un, ok_cl, ok_clF, ok_call, ok_mk, ok_noPart, ok_part, ok_cut, ok_mt, ok_chain, ok_it, ok_range1, ok_range2, ok_lc, ok_yes, out_some, out_none, out_add, out_sub, out_neg, out_le, out_gt, out_ge, out_lt, out_eqI, out_neI, out_int, out_abs, out_gcd, List.map_cons, List.map_nil, List.length_cons, List.length_nil, List.replicate, List.cons_append, List.nil_append, List.append_nil, List.getElem?_cons_zero, List.getElem?_cons_succ, List.set_cons_zero, List.set_cons_succ, PV.bl.injEq, PV.int.injEq, PV.str.injEq, exists_eq_left', exists_eq_left, and_true, true_and, if_true, if_false, Bool.false_eq_true, Bool.true_eq_false, decide_eq_true_eq, Nat.sub_self, Nat.reduceAdd, Nat.reduceSub, Nat.reduceLeDiff, List.cons.injEq, if_true, it_tup, wipeM]
    have e := comp_eq (i := 1) (c := mYes) (el := mCall0 f_is_deed (mCons (mVar 1) mNil)) (env := [some (.tup xs), none]) (st := st) (p := fun _ => true) (g := fun x => .bl (kDeed x)) (items := xs) (all := xs)
      (fun x hx => ⟨true, st, rfl, rfl, rfl⟩) (fun x hx _ => by
        simp only [os_seq, os_skip, os_brk, os_cont, os_retN, os_drop, os_ret, os_retA, os_set, os_setA, os_if, os_asg, os_par, os_aug, os_put, os_augP, os_for, ok_var, ok_c, ok_nil, ok_cons, ok_tup, ok_lst, ok_new, ok_tst, ok_andT, ok_orT, ok_notT, ok_and, ok_or, ok_not, ok_if, ok_op, ok_un, ok_cl, ok_clF, ok_call, ok_mk, ok_noPart, ok_part, ok_cut, ok_mt, ok_chain, ok_it, ok_range1, ok_range2, ok_lc, ok_yes, out_some, out_none, out_add, out_sub, out_neg, out_le, out_gt, out_ge, out_lt, out_eqI, out_neI, out_int, out_abs, out_gcd, List.map_cons, List.map_nil, List.length_cons, List.length_nil, List.replicate, List.cons_append, List.nil_append, List.append_nil, List.getElem?_cons_zero, List.getElem?_cons_succ, List.set_cons_zero, List.set_cons_succ, PV.bl.injEq, PV.int.injEq, PV.str.injEq, exists_eq_left', exists_eq_left, and_true, true_and, if_true, if_false, Bool.false_eq_true, Bool.true_eq_false, decide_eq_true_eq, Nat.sub_self, Nat.reduceAdd, Nat.reduceSub, Nat.reduceLeDiff, List.cons.injEq]
        rw [okf_of (is_deed_eq (fitL_mem h.1 hx))]
        exact ⟨rfl, rfl⟩)
    rw [e]
    simp only [os_seq, os_skip, os_brk, os_cont, os_retN, os_drop, os_ret, os_retA, os_set, os_setA, os_if, os_asg, os_par, os_aug, os_put, os_augP, os_for, ok_var, ok_c, ok_nil, ok_cons, ok_tup, ok_lst, ok_new, ok_tst, ok_andT, ok_orT, ok_notT, ok_and, ok_or, ok_not, ok_if, ok_op, ok_un, ok_cl, ok_clF, ok_call, ok_mk, ok_noPart, ok_part, ok_cut, ok_mt, ok_chain, ok_it, ok_range1, ok_range2, ok_lc, ok_yes, out_some, out_none, out_add, out_sub, out_neg, out_le, out_gt, out_ge, out_lt, out_eqI, out_neI, out_int, out_abs, out_gcd, filter_all, all_map, kDeeds]
    exact ⟨trivial, trivial⟩
end K01

set_option exponentiation.threshold 500
namespace K01
open PySem PySem.Spec PyProof.Rows L2 Mi
theorem fmod_nat (a b : Nat) : ((a : Int)).fmod (b : Int) = ((a % b : Nat) : Int) := by
  rw [Int.fmod_eq_emod_of_nonneg _ (Int.natCast_nonneg b)]
  exact (Int.natCast_emod a b).symm
theorem step_half {a b : Nat} (hb : 0 < b) (h : b ≤ a) : 2 * (b * (a % b)) ≤ a * b := by
  have h1 : a % b < b := Nat.mod_lt _ hb
  have h2 : a % b + b ≤ a := by
    have e := Nat.div_add_mod a b
    have h3 : 1 ≤ a / b := (Nat.le_div_iff_mul_le hb).mpr (by omega)
    have h4 : b * 1 ≤ b * (a / b) := Nat.mul_le_mul_left b h3
    omega
  have h3 : 2 * (a % b) ≤ a := by omega
  calc 2 * (b * (a % b)) = b * (2 * (a % b)) := by rw [← Nat.mul_assoc, ← Nat.mul_assoc, Nat.mul_comm 2 b]
    _ ≤ b * a := Nat.mul_le_mul_left b h3
    _ = a * b := Nat.mul_comm _ _
theorem common_eq {a b : Nat} {st : Sto} (hb : b < 2 ^ 150) : f__law_common [.int a, .int b] st = some (.ok (.int ((Nat.gcd a b : Nat) : Int)) st) := by
  refine OkF.eq (of_defN rfl ?_)
  simp only [b__law_common, os_seq, os_skip, os_brk, os_cont, os_retN, os_drop, os_ret, os_retA, os_set, os_setA, os_if, os_asg, os_par, os_aug, os_put, os_augP, os_for, ok_var, ok_c, ok_nil, ok_cons, ok_tup, ok_lst, ok_new, ok_tst, ok_andT, ok_orT, ok_notT, ok_and, ok_or, ok_not, ok_if, ok_op, ok_un, ok_cl, ok_clF, ok_call, ok_mk, ok_noPart, ok_part, ok_cut, ok_mt, ok_chain, ok_it, ok_range1, ok_range2, ok_lc, ok_yes, out_some, out_none, out_add, out_sub, out_neg, out_le, out_gt, out_ge, out_lt, out_eqI, out_neI, out_int, out_abs, out_gcd, List.map_cons, List.map_nil, List.length_cons, List.length_nil, List.replicate, List.cons_append, List.nil_append, List.append_nil, List.getElem?_cons_zero, List.getElem?_cons_succ, List.set_cons_zero, List.set_cons_succ, PV.bl.injEq, PV.int.injEq, PV.str.injEq, exists_eq_left', exists_eq_left, and_true, true_and, if_true, if_false, Bool.false_eq_true, Bool.true_eq_false, decide_eq_true_eq, Nat.sub_self, Nat.reduceAdd, Nat.reduceSub, Nat.reduceLeDiff, List.cons.injEq]
  refine ⟨⟨by decide, by decide⟩, ?_⟩
  refine for_inv (fun k env s => ∃ (x y : Nat) (t : Option PV), env = [some (.int x), some (.int y), t] ∧ s = st ∧ Nat.gcd x y = Nat.gcd a b ∧ y < 2 ^ 150 ∧ (1 ≤ k → y < x ∧ x * y * 2 ^ (k - 1) < 2 ^ 300)) _ _ 0 _ _ (fun j z env s hj h => ?_) (fun env s h => ?_) ⟨a, b, none, rfl, rfl, rfl, hb, fun h => absurd h (by omega)⟩
  · obtain ⟨x, y, t, rfl, rfl, hg, hy, hm⟩ := h
    simp only [os_seq, os_skip, os_brk, os_cont, os_retN, os_drop, os_ret, os_retA, os_set, os_setA, os_if, os_asg, os_par, os_aug, os_put, os_augP, os_for, ok_var, ok_c, ok_nil, ok_cons, ok_tup, ok_lst, ok_new, ok_tst, ok_andT, ok_orT, ok_notT, ok_and, ok_or, ok_not, ok_if, ok_op, ok_un, ok_cl, ok_clF, ok_call, ok_mk, ok_noPart, ok_part, ok_cut, ok_mt, ok_chain, ok_it, ok_range1, ok_range2, ok_lc, ok_yes, out_some, out_none, out_add, out_sub, out_neg, out_le, out_gt, out_ge, out_lt, out_eqI, out_neI, out_int, out_abs, out_gcd, List.map_cons, List.map_nil, List.length_cons, List.length_nil, List.replicate, List.cons_append, List.nil_append, List.append_nil, List.getElem?_cons_zero, List.getElem?_cons_succ, List.set_cons_zero, List.set_cons_succ, PV.bl.injEq, PV.int.injEq, PV.str.injEq, exists_eq_left', exists_eq_left, and_true, true_and, if_true, if_false, Bool.false_eq_true, Bool.true_eq_false, decide_eq_true_eq, Nat.sub_self, Nat.reduceAdd, Nat.reduceSub, Nat.reduceLeDiff, List.cons.injEq]
    by_cases h0 : (y : Int) = 0
    · have h0' : y = 0 := by omega
      subst h0'
      simp only [Nat.gcd_zero_right] at hg
      simp [hg]
    · have h0' : 0 < y := by omega
      simp only [h0, decide_false, Bool.false_eq_true, if_false, out_modC]
      refine ⟨h0, ?_⟩
      refine ⟨_, _, ⟨rfl, rfl⟩, y, x % y, some z, ⟨rfl, by rw [fmod_nat], rfl⟩, ?_, Nat.lt_trans (Nat.mod_lt _ h0') hy, fun _ => ⟨Nat.mod_lt _ h0', ?_⟩⟩
      · rw [← hg, Nat.gcd_comm x y, Nat.gcd_rec y x, Nat.gcd_comm]
      · have hlt := Nat.mod_lt x h0'
        rcases Nat.eq_zero_or_pos j with hj0 | hj0
        · subst hj0
          have h1 : y * (x % y) ≤ 2 ^ 150 * (x % y) := Nat.mul_le_mul_right _ (Nat.le_of_lt hy)
          have h2 : 2 ^ 150 * (x % y) < 2 ^ 150 * 2 ^ 150 := (Nat.mul_lt_mul_left (by decide)).mpr (by omega)
          have h3 : (2 : Nat) ^ 150 * 2 ^ 150 = 2 ^ 300 := by rw [← Nat.pow_add]
          show y * (x % y) * 2 ^ 0 < 2 ^ 300
          rw [Nat.pow_zero, Nat.mul_one]
          omega
        · obtain ⟨h1, h2⟩ := hm (by omega)
          have h3 := step_half h0' (Nat.le_of_lt h1)
          have e1 : 0 + j + 1 - 1 = (0 + j - 1) + 1 := by omega
          rw [e1, Nat.pow_succ]
          have h4 : 2 * (y * (x % y)) * 2 ^ (0 + j - 1) ≤ x * y * 2 ^ (0 + j - 1) := Nat.mul_le_mul_right _ h3
          have h5 : y * (x % y) * (2 ^ (0 + j - 1) * 2) = 2 * (y * (x % y)) * 2 ^ (0 + j - 1) := by
            rw [← Nat.mul_assoc, Nat.mul_comm _ 2, ← Nat.mul_assoc]
          omega
  · obtain ⟨x, y, t, rfl, rfl, hg, hy, hm⟩ := h
    have hlen : (intsF 0 (Int.toNat 400)).length = 400 := intsF_len _ _
    rw [hlen] at hm
    obtain ⟨h1, h2⟩ := hm (by omega)
    have h0 : y = 0 := by
      rcases Nat.eq_zero_or_pos y with h | h
      · exact h
      · exfalso
        have h3 : 1 ≤ x * y := Nat.mul_pos (by omega) h
        have h4 : 1 * 2 ^ (0 + 400 - 1) ≤ x * y * 2 ^ (0 + 400 - 1) := Nat.mul_le_mul_right _ h3
        have h5 : (2 : Nat) ^ 300 < 1 * 2 ^ (0 + 400 - 1) := by
          rw [Nat.one_mul]
          exact Nat.pow_lt_pow_right (by decide) (by decide)
        omega
    subst h0
    simp only [Nat.gcd_zero_right] at hg
    simp [out_some, hg]
end K01

namespace K01
open PySem PySem.Spec PyProof.Rows L2 Mi
theorem kInt_inv {x : PV} (h : kInt x = true) : ∃ i, x = .int i := by
  cases x <;> first | exact ⟨_, rfl⟩ | (simp [kInt, isK] at h)
theorem abs_nat (i : Int) : (if i < 0 then -i else i) = ((i.natAbs : Nat) : Int) := by split <;> omega
theorem ne_len {xs : List PV} {st : Sto} {Q : PV → Prop} : Out (oNe (.int xs.length) (.int 2) st) Q ↔ Q (.bl (!decide (xs.length = 2))) := by
  rw [out_neI]
  have e : decide ((xs.length : Int) = 2) = decide (xs.length = 2) := by
    by_cases h : xs.length = 2
    · simp [h]
    · have h' : ¬ (xs.length : Int) = 2 := by omega
      simp [h, h']
  rw [e]
theorem kFrac_no {a b : PV} (h : ¬ (kInt a = true ∧ kInt b = true)) : kFrac (.tup [a, b]) = false := by
  cases a <;> first | rfl | (cases b <;> first | rfl | exact absurd ⟨rfl, rfl⟩ h)
theorem is_fraction_eq {x : PV} {st : Sto} (h : fit x) : f_is_fraction [x] st = some (.ok (.bl (kFrac x)) st) := by
  refine OkF.eq (of_defN rfl ?_)
  simp only [b_is_fraction, os_seq, os_skip, os_brk, os_cont, os_retN, os_drop, os_ret, os_retA, os_set, os_setA, os_if, os_asg, os_par, os_aug, os_put, os_augP, os_for, ok_var, ok_c, ok_nil, ok_cons, ok_tup, ok_lst, ok_new, ok_tst, ok_andT, ok_orT, ok_notT, ok_and, ok_or, ok_not, ok_if, ok_op, ok_un, ok_cl, ok_clF, ok_call, ok_mk, ok_noPart, ok_part, ok_cut, ok_mt, ok_chain, ok_it, ok_range1, ok_range2, ok_lc, ok_yes, out_some, out_none, out_add, out_sub, out_neg, out_le, out_gt, out_ge, out_lt, out_eqI, out_neI, out_int, out_abs, out_gcd, List.map_cons, List.map_nil, List.length_cons, List.length_nil, List.replicate, List.cons_append, List.nil_append, List.append_nil, List.getElem?_cons_zero, List.getElem?_cons_succ, List.set_cons_zero, List.set_cons_succ, PV.bl.injEq, PV.int.injEq, PV.str.injEq, exists_eq_left', exists_eq_left, and_true, true_and, if_true, if_false, Bool.false_eq_true, Bool.true_eq_false, decide_eq_true_eq, Nat.sub_self, Nat.reduceAdd, Nat.reduceSub, Nat.reduceLeDiff, List.cons.injEq, isi_tuple h]
  cases hs : isK "tuple" x with
  | false =>
    simp only [Bool.not_false, if_true, os_seq, os_skip, os_brk, os_cont, os_retN, os_drop, os_ret, os_retA, os_set, os_setA, os_if, os_asg, os_par, os_aug, os_put, os_augP, os_for, ok_var, ok_c, ok_nil, ok_cons, ok_tup, ok_lst, ok_new, ok_tst, ok_andT, ok_orT, ok_notT, ok_and, ok_or, ok_not, ok_if, ok_op, ok_un, ok_cl, ok_clF, ok_call, ok_mk, ok_noPart, ok_part, ok_cut, ok_mt, ok_chain, ok_it, ok_range1, ok_range2, ok_lc, ok_yes, out_some, out_none, out_add, out_sub, out_neg, out_le, out_gt, out_ge, out_lt, out_eqI, out_neI, out_int, out_abs, out_gcd, List.map_cons, List.map_nil, List.length_cons, List.length_nil, List.replicate, List.cons_append, List.nil_append, List.append_nil, List.getElem?_cons_zero, List.getElem?_cons_succ, List.set_cons_zero, List.set_cons_succ, PV.bl.injEq, PV.int.injEq, PV.str.injEq, exists_eq_left', exists_eq_left, and_true, true_and, if_true, if_false, Bool.false_eq_true, Bool.true_eq_false, decide_eq_true_eq, Nat.sub_self, Nat.reduceAdd, Nat.reduceSub, Nat.reduceLeDiff, List.cons.injEq]
    cases x <;> first | rfl | (simp [isK] at hs)
  | true =>
    obtain ⟨xs, rfl⟩ := tup_of hs
    simp only [fit] at h
    simp only [os_seq, os_skip, os_brk, os_cont, os_retN, os_drop, os_ret, os_retA, os_set, os_setA, os_if, os_asg, os_par, os_aug, os_put, os_augP, os_for, ok_var, ok_c, ok_nil, ok_cons, ok_tup, ok_lst, ok_new, ok_tst, ok_andT, ok_orT, ok_notT, ok_and, ok_or, ok_not, ok_if, ok_op, ok_un, ok_cl, ok_clF, ok_call, ok_mk, ok_noPart, ok_part, ok_cut, ok_mt, ok_chain, ok_it, ok_range1, ok_range2, ok_lc, ok_yes, out_some, out_none, out_add, out_sub, out_neg, out_le, out_gt, out_ge, out_lt, out_eqI, out_neI, out_int, out_abs, out_gcd, List.map_cons, List.map_nil, List.length_cons, List.length_nil, List.replicate, List.cons_append, List.nil_append, List.append_nil, List.getElem?_cons_zero, List.getElem?_cons_succ, List.set_cons_zero, List.set_cons_succ, PV.bl.injEq, PV.int.injEq, PV.str.injEq, exists_eq_left', exists_eq_left, and_true, true_and, if_true, if_false, Bool.false_eq_true, Bool.true_eq_false, decide_eq_true_eq, Nat.sub_self, Nat.reduceAdd, Nat.reduceSub, Nat.reduceLeDiff, List.cons.injEq, Bool.not_true, len_tup, it_tup, wipeM, ne_len]
    by_cases hl : xs.length = 2
    · simp only [hl, decide_true, Bool.not_true, Bool.false_eq_true, if_false]
      have e := comp_eq (i := 1) (c := mYes) (el := mCall0 f_is_integer (mCons (mVar 1) mNil)) (env := [some (.tup xs), none]) (st := st) (p := fun _ => true) (g := fun x => .bl (kInt x)) (items := xs) (all := xs)
        (fun x hx => ⟨true, st, rfl, rfl, rfl⟩) (fun x hx _ => by
          simp only [os_seq, os_skip, os_brk, os_cont, os_retN, os_drop, os_ret, os_retA, os_set, os_setA, os_if, os_asg, os_par, os_aug, os_put, os_augP, os_for, ok_var, ok_c, ok_nil, ok_cons, ok_tup, ok_lst, ok_new, ok_tst, ok_andT, ok_orT, ok_notT, ok_and, ok_or, ok_not, ok_if, ok_op, ok_un, ok_cl, ok_clF, ok_call, ok_mk, ok_noPart, ok_part, ok_cut, ok_mt, ok_chain, ok_it, ok_range1, ok_range2, ok_lc, ok_yes, out_some, out_none, out_add, out_sub, out_neg, out_le, out_gt, out_ge, out_lt, out_eqI, out_neI, out_int, out_abs, out_gcd, List.map_cons, List.map_nil, List.length_cons, List.length_nil, List.replicate, List.cons_append, List.nil_append, List.append_nil, List.getElem?_cons_zero, List.getElem?_cons_succ, List.set_cons_zero, List.set_cons_succ, PV.bl.injEq, PV.int.injEq, PV.str.injEq, exists_eq_left', exists_eq_left, and_true, true_and, if_true, if_false, Bool.false_eq_true, Bool.true_eq_false, decide_eq_true_eq, Nat.sub_self, Nat.reduceAdd, Nat.reduceSub, Nat.reduceLeDiff, List.cons.injEq]
          rw [okf_of (is_integer_eq (fitL_mem h.1 hx))]
          exact ⟨rfl, rfl⟩)
      rw [e]
      simp only [os_seq, os_skip, os_brk, os_cont, os_retN, os_drop, os_ret, os_retA, os_set, os_setA, os_if, os_asg, os_par, os_aug, os_put, os_augP, os_for, ok_var, ok_c, ok_nil, ok_cons, ok_tup, ok_lst, ok_new, ok_tst, ok_andT, ok_orT, ok_notT, ok_and, ok_or, ok_not, ok_if, ok_op, ok_un, ok_cl, ok_clF, ok_call, ok_mk, ok_noPart, ok_part, ok_cut, ok_mt, ok_chain, ok_it, ok_range1, ok_range2, ok_lc, ok_yes, out_some, out_none, out_add, out_sub, out_neg, out_le, out_gt, out_ge, out_lt, out_eqI, out_neI, out_int, out_abs, out_gcd, filter_all, all_map]
      match xs, hl with
      | [a, b], _ =>
        simp only [List.all_cons, List.all_nil, Bool.and_true]
        by_cases hab : kInt a = true ∧ kInt b = true
        · obtain ⟨i, rfl⟩ := kInt_inv hab.1
          obtain ⟨j, rfl⟩ := kInt_inv hab.2
          simp only [hab.1, hab.2, Bool.and_self, os_seq, os_skip, os_brk, os_cont, os_retN, os_drop, os_ret, os_retA, os_set, os_setA, os_if, os_asg, os_par, os_aug, os_put, os_augP, os_for, ok_var, ok_c, ok_nil, ok_cons, ok_tup, ok_lst, ok_new, ok_tst, ok_andT, ok_orT, ok_notT, ok_and, ok_or, ok_not, ok_if, ok_op, ok_un, ok_cl, ok_clF, ok_call, ok_mk, ok_noPart, ok_part, ok_cut, ok_mt, ok_chain, ok_it, ok_range1, ok_range2, ok_lc, ok_yes, out_some, out_none, out_add, out_sub, out_neg, out_le, out_gt, out_ge, out_lt, out_eqI, out_neI, out_int, out_abs, out_gcd, List.map_cons, List.map_nil, List.length_cons, List.length_nil, List.replicate, List.cons_append, List.nil_append, List.append_nil, List.getElem?_cons_zero, List.getElem?_cons_succ, List.set_cons_zero, List.set_cons_succ, PV.bl.injEq, PV.int.injEq, PV.str.injEq, exists_eq_left', exists_eq_left, and_true, true_and, if_true, if_false, Bool.false_eq_true, Bool.true_eq_false, decide_eq_true_eq, Nat.sub_self, Nat.reduceAdd, Nat.reduceSub, Nat.reduceLeDiff, List.cons.injEq, Bool.not_true, ix_t, atI_0, atI_1]
          by_cases h0 : 0 < j
          · simp [h0, kFrac]
            by_cases hg : Nat.gcd i.natAbs j.natAbs = 1
            · simp [hg]
            · have hg' : ¬ ((Nat.gcd i.natAbs j.natAbs : Nat) : Int) = 1 := by omega
              simp [hg, hg']
          · simp [h0, kFrac]
        · have h1 : (kInt a && kInt b) = false := by
            cases ha : kInt a <;> cases hb : kInt b <;> simp_all
          simp [h1, kFrac_no hab, os_seq, os_skip, os_brk, os_cont, os_retN, os_drop, os_ret, os_retA, os_set, os_setA, os_if, os_asg, os_par, os_aug, os_put, os_augP, os_for, ok_var, ok_c, ok_nil, ok_cons, ok_tup, ok_lst, ok_new, ok_tst, ok_andT, ok_orT, ok_notT, ok_and, ok_or, ok_not, ok_if, ok_op, ok_un, ok_cl, ok_clF, ok_call, ok_mk, ok_noPart, ok_part, ok_cut, ok_mt, ok_chain, ok_it, ok_range1, ok_range2, ok_lc, ok_yes, out_some, out_none, out_add, out_sub, out_neg, out_le, out_gt, out_ge, out_lt, out_eqI, out_neI, out_int, out_abs, out_gcd, List.map_cons, List.map_nil, List.length_cons, List.length_nil, List.replicate, List.cons_append, List.nil_append, List.append_nil, List.getElem?_cons_zero, List.getElem?_cons_succ, List.set_cons_zero, List.set_cons_succ, PV.bl.injEq, PV.int.injEq, PV.str.injEq, exists_eq_left', exists_eq_left, and_true, true_and, if_true, if_false, Bool.false_eq_true, Bool.true_eq_false, decide_eq_true_eq, Nat.sub_self, Nat.reduceAdd, Nat.reduceSub, Nat.reduceLeDiff, List.cons.injEq]
    · have hl' : ¬ (xs.length : Int) = 2 := by omega
      simp only [hl', decide_false, Bool.not_false, if_true, os_seq, os_skip, os_brk, os_cont, os_retN, os_drop, os_ret, os_retA, os_set, os_setA, os_if, os_asg, os_par, os_aug, os_put, os_augP, os_for, ok_var, ok_c, ok_nil, ok_cons, ok_tup, ok_lst, ok_new, ok_tst, ok_andT, ok_orT, ok_notT, ok_and, ok_or, ok_not, ok_if, ok_op, ok_un, ok_cl, ok_clF, ok_call, ok_mk, ok_noPart, ok_part, ok_cut, ok_mt, ok_chain, ok_it, ok_range1, ok_range2, ok_lc, ok_yes, out_some, out_none, out_add, out_sub, out_neg, out_le, out_gt, out_ge, out_lt, out_eqI, out_neI, out_int, out_abs, out_gcd, List.map_cons, List.map_nil, List.length_cons, List.length_nil, List.replicate, List.cons_append, List.nil_append, List.append_nil, List.getElem?_cons_zero, List.getElem?_cons_succ, List.set_cons_zero, List.set_cons_succ, PV.bl.injEq, PV.int.injEq, PV.str.injEq, exists_eq_left', exists_eq_left, and_true, true_and, if_true, if_false, Bool.false_eq_true, Bool.true_eq_false, decide_eq_true_eq, Nat.sub_self, Nat.reduceAdd, Nat.reduceSub, Nat.reduceLeDiff, List.cons.injEq]
      match xs, hl with
      | [], _ => rfl
      | [a], _ => cases a <;> rfl
      | a :: b :: c :: r, _ => cases a <;> cases b <;> rfl
      | [a, b], hl => exact absurd rfl hl
theorem law_is_fraction_eq {x : PV} {st : Sto} (h : fit x) : f__law_is_fraction [x] st = some (.ok (.bl (kFrac x)) st) := by
  refine OkF.eq (of_defN rfl ?_)
  simp only [b__law_is_fraction, os_seq, os_skip, os_brk, os_cont, os_retN, os_drop, os_ret, os_retA, os_set, os_setA, os_if, os_asg, os_par, os_aug, os_put, os_augP, os_for, ok_var, ok_c, ok_nil, ok_cons, ok_tup, ok_lst, ok_new, ok_tst, ok_andT, ok_orT, ok_notT, ok_and, ok_or, ok_not, ok_if, ok_op, ok_un, ok_cl, ok_clF, ok_call, ok_mk, ok_noPart, ok_part, ok_cut, ok_mt, ok_chain, ok_it, ok_range1, ok_range2, ok_lc, ok_yes, out_some, out_none, out_add, out_sub, out_neg, out_le, out_gt, out_ge, out_lt, out_eqI, out_neI, out_int, out_abs, out_gcd, List.map_cons, List.map_nil, List.length_cons, List.length_nil, List.replicate, List.cons_append, List.nil_append, List.append_nil, List.getElem?_cons_zero, List.getElem?_cons_succ, List.set_cons_zero, List.set_cons_succ, PV.bl.injEq, PV.int.injEq, PV.str.injEq, exists_eq_left', exists_eq_left, and_true, true_and, if_true, if_false, Bool.false_eq_true, Bool.true_eq_false, decide_eq_true_eq, Nat.sub_self, Nat.reduceAdd, Nat.reduceSub, Nat.reduceLeDiff, List.cons.injEq, isi_tuple h]
  cases hs : isK "tuple" x with
  | false =>
    simp only [Bool.not_false, if_true, os_seq, os_skip, os_brk, os_cont, os_retN, os_drop, os_ret, os_retA, os_set, os_setA, os_if, os_asg, os_par, os_aug, os_put, os_augP, os_for, ok_var, ok_c, ok_nil, ok_cons, ok_tup, ok_lst, ok_new, ok_tst, ok_andT, ok_orT, ok_notT, ok_and, ok_or, ok_not, ok_if, ok_op, ok_un, ok_cl, ok_clF, ok_call, ok_mk, ok_noPart, ok_part, ok_cut, ok_mt, ok_chain, ok_it, ok_range1, ok_range2, ok_lc, ok_yes, out_some, out_none, out_add, out_sub, out_neg, out_le, out_gt, out_ge, out_lt, out_eqI, out_neI, out_int, out_abs, out_gcd, List.map_cons, List.map_nil, List.length_cons, List.length_nil, List.replicate, List.cons_append, List.nil_append, List.append_nil, List.getElem?_cons_zero, List.getElem?_cons_succ, List.set_cons_zero, List.set_cons_succ, PV.bl.injEq, PV.int.injEq, PV.str.injEq, exists_eq_left', exists_eq_left, and_true, true_and, if_true, if_false, Bool.false_eq_true, Bool.true_eq_false, decide_eq_true_eq, Nat.sub_self, Nat.reduceAdd, Nat.reduceSub, Nat.reduceLeDiff, List.cons.injEq]
    cases x <;> first | rfl | (simp [isK] at hs)
  | true =>
    obtain ⟨xs, rfl⟩ := tup_of hs
    simp only [fit] at h
    simp only [os_seq, os_skip, os_brk, os_cont, os_retN, os_drop, os_ret, os_retA, os_set, os_setA, os_if, os_asg, os_par, os_aug, os_put, os_augP, os_for, ok_var, ok_c, ok_nil, ok_cons, ok_tup, ok_lst, ok_new, ok_tst, ok_andT, ok_orT, ok_notT, ok_and, ok_or, ok_not, ok_if, ok_op, ok_un, ok_cl, ok_clF, ok_call, ok_mk, ok_noPart, ok_part, ok_cut, ok_mt, ok_chain, ok_it, ok_range1, ok_range2, ok_lc, ok_yes, out_some, out_none, out_add, out_sub, out_neg, out_le, out_gt, out_ge, out_lt, out_eqI, out_neI, out_int, out_abs, out_gcd, List.map_cons, List.map_nil, List.length_cons, List.length_nil, List.replicate, List.cons_append, List.nil_append, List.append_nil, List.getElem?_cons_zero, List.getElem?_cons_succ, List.set_cons_zero, List.set_cons_succ, PV.bl.injEq, PV.int.injEq, PV.str.injEq, exists_eq_left', exists_eq_left, and_true, true_and, if_true, if_false, Bool.false_eq_true, Bool.true_eq_false, decide_eq_true_eq, Nat.sub_self, Nat.reduceAdd, Nat.reduceSub, Nat.reduceLeDiff, List.cons.injEq, Bool.not_true, len_tup, ne_len]
    by_cases hl : xs.length = 2
    · match xs, hl, h with
      | [a, b], hl, h =>
        simp only [fitL] at h
        simp only [hl, decide_true, Bool.not_true, Bool.false_eq_true, if_false, ix_t, atI_0, atI_1, os_seq, os_skip, os_brk, os_cont, os_retN, os_drop, os_ret, os_retA, os_set, os_setA, os_if, os_asg, os_par, os_aug, os_put, os_augP, os_for, ok_var, ok_c, ok_nil, ok_cons, ok_tup, ok_lst, ok_new, ok_tst, ok_andT, ok_orT, ok_notT, ok_and, ok_or, ok_not, ok_if, ok_op, ok_un, ok_cl, ok_clF, ok_call, ok_mk, ok_noPart, ok_part, ok_cut, ok_mt, ok_chain, ok_it, ok_range1, ok_range2, ok_lc, ok_yes, out_some, out_none, out_add, out_sub, out_neg, out_le, out_gt, out_ge, out_lt, out_eqI, out_neI, out_int, out_abs, out_gcd, List.map_cons, List.map_nil, List.length_cons, List.length_nil, List.replicate, List.cons_append, List.nil_append, List.append_nil, List.getElem?_cons_zero, List.getElem?_cons_succ, List.set_cons_zero, List.set_cons_succ, PV.bl.injEq, PV.int.injEq, PV.str.injEq, exists_eq_left', exists_eq_left, and_true, true_and, if_true, if_false, Bool.false_eq_true, Bool.true_eq_false, decide_eq_true_eq, Nat.sub_self, Nat.reduceAdd, Nat.reduceSub, Nat.reduceLeDiff, List.cons.injEq, okf_of (law_is_int_eq h.1.1), okf_of (law_is_int_eq h.1.2.1)]
        by_cases hab : kInt a = true ∧ kInt b = true
        · obtain ⟨i, rfl⟩ := kInt_inv hab.1
          obtain ⟨j, rfl⟩ := kInt_inv hab.2
          simp only [hab.1, hab.2, Bool.not_true, Bool.false_eq_true, if_false, os_seq, os_skip, os_brk, os_cont, os_retN, os_drop, os_ret, os_retA, os_set, os_setA, os_if, os_asg, os_par, os_aug, os_put, os_augP, os_for, ok_var, ok_c, ok_nil, ok_cons, ok_tup, ok_lst, ok_new, ok_tst, ok_andT, ok_orT, ok_notT, ok_and, ok_or, ok_not, ok_if, ok_op, ok_un, ok_cl, ok_clF, ok_call, ok_mk, ok_noPart, ok_part, ok_cut, ok_mt, ok_chain, ok_it, ok_range1, ok_range2, ok_lc, ok_yes, out_some, out_none, out_add, out_sub, out_neg, out_le, out_gt, out_ge, out_lt, out_eqI, out_neI, out_int, out_abs, out_gcd, List.map_cons, List.map_nil, List.length_cons, List.length_nil, List.replicate, List.cons_append, List.nil_append, List.append_nil, List.getElem?_cons_zero, List.getElem?_cons_succ, List.set_cons_zero, List.set_cons_succ, PV.bl.injEq, PV.int.injEq, PV.str.injEq, exists_eq_left', exists_eq_left, and_true, true_and, if_true, if_false, Bool.false_eq_true, Bool.true_eq_false, decide_eq_true_eq, Nat.sub_self, Nat.reduceAdd, Nat.reduceSub, Nat.reduceLeDiff, List.cons.injEq, abs_nat]
          by_cases h0 : 1 ≤ j
          · have hj : j = ((j.natAbs : Nat) : Int) := by omega
            have h0' : 0 < j := by omega
            have hb : j.natAbs < 2 ^ 150 := by
              have := h.1.2.1
              simpa only [fit] using this
            have e : f__law_common [.int (i.natAbs : Nat), .int j] st = some (.ok (.int ((Nat.gcd i.natAbs j.natAbs : Nat) : Int)) st) := by
              have e1 := common_eq (a := i.natAbs) (st := st) hb
              rw [← hj] at e1
              exact e1
            simp only [h0, decide_true, if_true, okf_of e, os_seq, os_skip, os_brk, os_cont, os_retN, os_drop, os_ret, os_retA, os_set, os_setA, os_if, os_asg, os_par, os_aug, os_put, os_augP, os_for, ok_var, ok_c, ok_nil, ok_cons, ok_tup, ok_lst, ok_new, ok_tst, ok_andT, ok_orT, ok_notT, ok_and, ok_or, ok_not, ok_if, ok_op, ok_un, ok_cl, ok_clF, ok_call, ok_mk, ok_noPart, ok_part, ok_cut, ok_mt, ok_chain, ok_it, ok_range1, ok_range2, ok_lc, ok_yes, out_some, out_none, out_add, out_sub, out_neg, out_le, out_gt, out_ge, out_lt, out_eqI, out_neI, out_int, out_abs, out_gcd, List.map_cons, List.map_nil, List.length_cons, List.length_nil, List.replicate, List.cons_append, List.nil_append, List.append_nil, List.getElem?_cons_zero, List.getElem?_cons_succ, List.set_cons_zero, List.set_cons_succ, PV.bl.injEq, PV.int.injEq, PV.str.injEq, exists_eq_left', exists_eq_left, and_true, true_and, if_true, if_false, Bool.false_eq_true, Bool.true_eq_false, decide_eq_true_eq, Nat.sub_self, Nat.reduceAdd, Nat.reduceSub, Nat.reduceLeDiff, List.cons.injEq]
            by_cases hg : Nat.gcd i.natAbs j.natAbs = 1
            · simp [hg, kFrac, h0', Int.natAbs_natCast]
            · have hg' : ¬ ((Nat.gcd i.natAbs j.natAbs : Nat) : Int) = 1 := by omega
              simp [hg, hg', kFrac]
          · have h0' : ¬ 0 < j := by omega
            simp [h0, kFrac, h0']
        · rw [kFrac_no hab]
          cases ha : kInt a <;> cases hb : kInt b <;> simp_all [os_seq, os_skip, os_brk, os_cont, os_retN, os_drop, os_ret, os_retA, os_set, os_setA, os_if, os_asg, os_par, os_aug, os_put, os_augP, os_for, ok_var, ok_c, ok_nil, ok_cons, ok_tup, ok_lst, ok_new, ok_tst, ok_andT, ok_orT, ok_notT, ok_and, ok_or, ok_not, ok_if, ok_op, ok_un, ok_cl, ok_clF, ok_call, ok_mk, ok_noPart, ok_part, ok_cut, ok_mt, ok_chain, ok_it, ok_range1, ok_range2, ok_lc, ok_yes, out_some, out_none, out_add, out_sub, out_neg, out_le, out_gt, out_ge, out_lt, out_eqI, out_neI, out_int, out_abs, out_gcd, List.map_cons, List.map_nil, List.length_cons, List.length_nil, List.replicate, List.cons_append, List.nil_append, List.append_nil, List.getElem?_cons_zero, List.getElem?_cons_succ, List.set_cons_zero, List.set_cons_succ, PV.bl.injEq, PV.int.injEq, PV.str.injEq, exists_eq_left', exists_eq_left, and_true, true_and, if_true, if_false, Bool.false_eq_true, Bool.true_eq_false, decide_eq_true_eq, Nat.sub_self, Nat.reduceAdd, Nat.reduceSub, Nat.reduceLeDiff, List.cons.injEq]
    · have hl' : ¬ (xs.length : Int) = 2 := by omega
      simp only [hl', decide_false, Bool.not_false, if_true, os_seq, os_skip, os_brk, os_cont, os_retN, os_drop, os_ret, os_retA, os_set, os_setA, os_if, os_asg, os_par, os_aug, os_put, os_augP, os_for, ok_var, ok_c, ok_nil, ok_cons, ok_tup, ok_lst, ok_new, ok_tst, ok_andT, ok_orT, ok_notT, ok_and, ok_or, ok_not, ok_if, ok_op, ok_un, ok_cl, ok_clF, ok_call, ok_mk, ok_noPart, ok_part, ok_cut, ok_mt, ok_chain, ok_it, ok_range1, ok_range2, ok_lc, ok_yes, out_some, out_none, out_add, out_sub, out_neg, out_le, out_gt, out_ge, out_lt, out_eqI, out_neI, out_int, out_abs, out_gcd, List.map_cons, List.map_nil, List.length_cons, List.length_nil, List.replicate, List.cons_append, List.nil_append, List.append_nil, List.getElem?_cons_zero, List.getElem?_cons_succ, List.set_cons_zero, List.set_cons_succ, PV.bl.injEq, PV.int.injEq, PV.str.injEq, exists_eq_left', exists_eq_left, and_true, true_and, if_true, if_false, Bool.false_eq_true, Bool.true_eq_false, decide_eq_true_eq, Nat.sub_self, Nat.reduceAdd, Nat.reduceSub, Nat.reduceLeDiff, List.cons.injEq]
      match xs, hl with
      | [], _ => rfl
      | [a], _ => cases a <;> rfl
      | a :: b :: c :: r, _ => cases a <;> cases b <;> rfl
      | [a, b], hl => exact absurd rfl hl
end K01

namespace K01
open PySem PySem.Spec PyProof.Rows L2 Mi
section
variable {B : MO} {rest : Sto}
theorem k_take {n : Int} (hB : BagO B) (h0 : 0 < n) (h1 : n < 2 ^ 60) : OkF f__law_take [.ref 0, .int n] (B :: rest) fun v s => ∃ i B', v = .int i ∧ s = B' :: rest ∧ BagO B' ∧ 0 ≤ i ∧ i < n :=
  take_ok hB h0 (logOk_lt (k := 59) (by omega) (by decide))
theorem k_some {xs : List PV} (hB : BagO B) (h0 : xs ≠ []) (h1 : xs.length < 2 ^ 60) : OkF f__law_some [.ref 0, .lst xs] (B :: rest) fun v s => ∃ B', v ∈ xs ∧ s = B' :: rest ∧ BagO B' := some_ok hB h0 (by omega)
theorem k_some_str {z : Str} (hB : BagO B) (h0 : 0 < z.length) (h1 : z.length < 2 ^ 60) : OkF f__law_some [.ref 0, .str z] (B :: rest) fun v s => ∃ B' c, v = .str ⟨#[c]⟩ ∧ s = B' :: rest ∧ BagO B' := some_str hB h0 (by omega)
theorem k_number (hB : BagO B) : OkF f__law_number [.ref 0] (B :: rest) fun v s => ∃ i B', v = .int i ∧ s = B' :: rest ∧ BagO B' ∧ i.natAbs < 2 ^ 110 := by
  refine of_defN rfl ?_
  simp only [b__law_number, os_seq, os_skip, os_brk, os_cont, os_retN, os_drop, os_ret, os_retA, os_set, os_setA, os_if, os_asg, os_par, os_aug, os_put, os_augP, os_for, ok_var, ok_c, ok_nil, ok_cons, ok_tup, ok_lst, ok_new, ok_tst, ok_andT, ok_orT, ok_notT, ok_and, ok_or, ok_not, ok_if, ok_op, ok_un, ok_cl, ok_clF, ok_call, ok_mk, ok_noPart, ok_part, ok_cut, ok_mt, ok_chain, ok_it, ok_range1, ok_range2, ok_lc, ok_yes, out_some, out_none, out_add, out_sub, out_neg, out_le, out_gt, out_ge, out_lt, out_eqI, out_neI, out_int, out_abs, out_gcd, List.map_cons, List.map_nil, List.length_cons, List.length_nil, List.replicate, List.cons_append, List.nil_append, List.append_nil, List.getElem?_cons_zero, List.getElem?_cons_succ, List.set_cons_zero, List.set_cons_succ, PV.bl.injEq, PV.int.injEq, PV.str.injEq, exists_eq_left', exists_eq_left, and_true, true_and, if_true, if_false, Bool.false_eq_true, Bool.true_eq_false, decide_eq_true_eq, Nat.sub_self, Nat.reduceAdd, Nat.reduceSub, Nat.reduceLeDiff, List.cons.injEq]
  refine (k_take hB (by decide) (by decide)).imp fun v s h => ?_
  obtain ⟨i1, B1, rfl, rfl, hB1, p1, q1⟩ := h
  refine (k_take hB1 (by decide) (by decide)).imp fun v s h => ?_
  obtain ⟨i2, B2, rfl, rfl, hB2, p2, q2⟩ := h
  simp only [os_seq, os_skip, os_brk, os_cont, os_retN, os_drop, os_ret, os_retA, os_set, os_setA, os_if, os_asg, os_par, os_aug, os_put, os_augP, os_for, ok_var, ok_c, ok_nil, ok_cons, ok_tup, ok_lst, ok_new, ok_tst, ok_andT, ok_orT, ok_notT, ok_and, ok_or, ok_not, ok_if, ok_op, ok_un, ok_cl, ok_clF, ok_call, ok_mk, ok_noPart, ok_part, ok_cut, ok_mt, ok_chain, ok_it, ok_range1, ok_range2, ok_lc, ok_yes, out_some, out_none, out_add, out_sub, out_neg, out_le, out_gt, out_ge, out_lt, out_eqI, out_neI, out_int, out_abs, out_gcd, out_mulC, out_powC]
  refine ⟨mulOk_l (by decide) (by decide), ⟨by decide, by decide, by decide⟩, ⟨by decide, by decide, by decide⟩, ?_⟩
  refine (k_take hB2 (by decide) (by decide)).imp fun v s h => ?_
  obtain ⟨i3, B3, rfl, rfl, hB3, p3, q3⟩ := h
  simp only [os_seq, os_skip, os_brk, os_cont, os_retN, os_drop, os_ret, os_retA, os_set, os_setA, os_if, os_asg, os_par, os_aug, os_put, os_augP, os_for, ok_var, ok_c, ok_nil, ok_cons, ok_tup, ok_lst, ok_new, ok_tst, ok_andT, ok_orT, ok_notT, ok_and, ok_or, ok_not, ok_if, ok_op, ok_un, ok_cl, ok_clF, ok_call, ok_mk, ok_noPart, ok_part, ok_cut, ok_mt, ok_chain, ok_it, ok_range1, ok_range2, ok_lc, ok_yes, out_some, out_none, out_add, out_sub, out_neg, out_le, out_gt, out_ge, out_lt, out_eqI, out_neI, out_int, out_abs, out_gcd, List.map_cons, List.map_nil, List.length_cons, List.length_nil, List.replicate, List.cons_append, List.nil_append, List.append_nil, List.getElem?_cons_zero, List.getElem?_cons_succ, List.set_cons_zero, List.set_cons_succ, PV.bl.injEq, PV.int.injEq, PV.str.injEq, exists_eq_left', exists_eq_left, and_true, true_and, if_true, if_false, Bool.false_eq_true, Bool.true_eq_false, decide_eq_true_eq, Nat.sub_self, Nat.reduceAdd, Nat.reduceSub, Nat.reduceLeDiff, List.cons.injEq]
  refine ⟨small_line (by decide), ?_⟩
  refine (k_some hB3 (by simp) (by simp)).imp fun v s h => ?_
  obtain ⟨B4, hv, rfl, hB4⟩ := h
  have hn : ∃ i, v = .int i ∧ 0 ≤ i ∧ i < 2 ^ 110 - 1 := by
    have e3 : i3 < 1000000 := q3
    simp only [List.mem_cons, List.not_mem_nil, or_false] at hv
    rcases hv with rfl | rfl | rfl | rfl | rfl
    · exact ⟨_, rfl, p1, by omega⟩
    · exact ⟨_, rfl, by omega, by omega⟩
    · have e : (10 : Int) ^ Int.toNat 30 = 1000000000000000000000000000000 := rfl
      exact ⟨_, rfl, by rw [e]; omega, by rw [e]; omega⟩
    · exact ⟨_, rfl, by omega, by omega⟩
    · exact ⟨_, rfl, by omega, by omega⟩
  obtain ⟨i, rfl, g0, g1⟩ := hn
  simp only [os_seq, os_skip, os_brk, os_cont, os_retN, os_drop, os_ret, os_retA, os_set, os_setA, os_if, os_asg, os_par, os_aug, os_put, os_augP, os_for, ok_var, ok_c, ok_nil, ok_cons, ok_tup, ok_lst, ok_new, ok_tst, ok_andT, ok_orT, ok_notT, ok_and, ok_or, ok_not, ok_if, ok_op, ok_un, ok_cl, ok_clF, ok_call, ok_mk, ok_noPart, ok_part, ok_cut, ok_mt, ok_chain, ok_it, ok_range1, ok_range2, ok_lc, ok_yes, out_some, out_none, out_add, out_sub, out_neg, out_le, out_gt, out_ge, out_lt, out_eqI, out_neI, out_int, out_abs, out_gcd, List.map_cons, List.map_nil, List.length_cons, List.length_nil, List.replicate, List.cons_append, List.nil_append, List.append_nil, List.getElem?_cons_zero, List.getElem?_cons_succ, List.set_cons_zero, List.set_cons_succ, PV.bl.injEq, PV.int.injEq, PV.str.injEq, exists_eq_left', exists_eq_left, and_true, true_and, if_true, if_false, Bool.false_eq_true, Bool.true_eq_false, decide_eq_true_eq, Nat.sub_self, Nat.reduceAdd, Nat.reduceSub, Nat.reduceLeDiff, List.cons.injEq]
  refine (k_take hB4 (by decide) (by decide)).imp fun v s h => ?_
  obtain ⟨i5, B5, rfl, rfl, hB5, p5, q5⟩ := h
  simp only [os_seq, os_skip, os_brk, os_cont, os_retN, os_drop, os_ret, os_retA, os_set, os_setA, os_if, os_asg, os_par, os_aug, os_put, os_augP, os_for, ok_var, ok_c, ok_nil, ok_cons, ok_tup, ok_lst, ok_new, ok_tst, ok_andT, ok_orT, ok_notT, ok_and, ok_or, ok_not, ok_if, ok_op, ok_un, ok_cl, ok_clF, ok_call, ok_mk, ok_noPart, ok_part, ok_cut, ok_mt, ok_chain, ok_it, ok_range1, ok_range2, ok_lc, ok_yes, out_some, out_none, out_add, out_sub, out_neg, out_le, out_gt, out_ge, out_lt, out_eqI, out_neI, out_int, out_abs, out_gcd, List.map_cons, List.map_nil, List.length_cons, List.length_nil, List.replicate, List.cons_append, List.nil_append, List.append_nil, List.getElem?_cons_zero, List.getElem?_cons_succ, List.set_cons_zero, List.set_cons_succ, PV.bl.injEq, PV.int.injEq, PV.str.injEq, exists_eq_left', exists_eq_left, and_true, true_and, if_true, if_false, Bool.false_eq_true, Bool.true_eq_false, decide_eq_true_eq, Nat.sub_self, Nat.reduceAdd, Nat.reduceSub, Nat.reduceLeDiff, List.cons.injEq]
  split
  · exact ⟨_, _, rfl, rfl, hB5, by omega⟩
  · exact ⟨_, _, rfl, rfl, hB5, by omega⟩
theorem k_word (hB : BagO B) : OkF f__law_word [.ref 0] (B :: rest) fun v s => ∃ z B', v = .str z ∧ s = B' :: rest ∧ BagO B' := by
  refine of_defN rfl ?_
  simp only [b__law_word, os_seq, os_skip, os_brk, os_cont, os_retN, os_drop, os_ret, os_retA, os_set, os_setA, os_if, os_asg, os_par, os_aug, os_put, os_augP, os_for, ok_var, ok_c, ok_nil, ok_cons, ok_tup, ok_lst, ok_new, ok_tst, ok_andT, ok_orT, ok_notT, ok_and, ok_or, ok_not, ok_if, ok_op, ok_un, ok_cl, ok_clF, ok_call, ok_mk, ok_noPart, ok_part, ok_cut, ok_mt, ok_chain, ok_it, ok_range1, ok_range2, ok_lc, ok_yes, out_some, out_none, out_add, out_sub, out_neg, out_le, out_gt, out_ge, out_lt, out_eqI, out_neI, out_int, out_abs, out_gcd, List.map_cons, List.map_nil, List.length_cons, List.length_nil, List.replicate, List.cons_append, List.nil_append, List.append_nil, List.getElem?_cons_zero, List.getElem?_cons_succ, List.set_cons_zero, List.set_cons_succ, PV.bl.injEq, PV.int.injEq, PV.str.injEq, exists_eq_left', exists_eq_left, and_true, true_and, if_true, if_false, Bool.false_eq_true, Bool.true_eq_false, decide_eq_true_eq, Nat.sub_self, Nat.reduceAdd, Nat.reduceSub, Nat.reduceLeDiff, List.cons.injEq, tgSet, tgSets]
  refine ⟨small_line (by decide), small_line (by decide), ?_⟩
  refine (k_some hB (by simp) (by simp)).imp fun v s h => ?_
  obtain ⟨B1, hv, rfl, hB1⟩ := h
  have hn : ∃ j : Int, v = .int j ∧ 0 ≤ j ∧ j ≤ 13 := by
    simp only [List.mem_cons, List.not_mem_nil, or_false] at hv
    rcases hv with rfl | rfl | rfl | rfl | rfl | rfl | rfl <;> exact ⟨_, rfl, by decide, by decide⟩
  obtain ⟨j, rfl, j0, j1⟩ := hn
  refine ⟨j, rfl, ⟨by omega, Int.le_trans j1 (by decide)⟩, ?_⟩
  refine for_inv (fun k env s => ∃ (z : Str) (t : Option PV) (B' : MO), env = [some (.ref 0), some (.str "abcmyz"), some (.str z), t, none, none] ∧ s = B' :: rest ∧ BagO B' ∧ z.length ≤ k) _ _ 0 _ _ (fun k x env s hk h => ?_) (fun env s h => ?_) ⟨"", none, B1, rfl, rfl, hB1, Nat.zero_le _⟩
  · obtain ⟨z, t, B', rfl, rfl, hB', hz⟩ := h
    simp only [os_seq, os_skip, os_brk, os_cont, os_retN, os_drop, os_ret, os_retA, os_set, os_setA, os_if, os_asg, os_par, os_aug, os_put, os_augP, os_for, ok_var, ok_c, ok_nil, ok_cons, ok_tup, ok_lst, ok_new, ok_tst, ok_andT, ok_orT, ok_notT, ok_and, ok_or, ok_not, ok_if, ok_op, ok_un, ok_cl, ok_clF, ok_call, ok_mk, ok_noPart, ok_part, ok_cut, ok_mt, ok_chain, ok_it, ok_range1, ok_range2, ok_lc, ok_yes, out_some, out_none, out_add, out_sub, out_neg, out_le, out_gt, out_ge, out_lt, out_eqI, out_neI, out_int, out_abs, out_gcd, List.map_cons, List.map_nil, List.length_cons, List.length_nil, List.replicate, List.cons_append, List.nil_append, List.append_nil, List.getElem?_cons_zero, List.getElem?_cons_succ, List.set_cons_zero, List.set_cons_succ, PV.bl.injEq, PV.int.injEq, PV.str.injEq, exists_eq_left', exists_eq_left, and_true, true_and, if_true, if_false, Bool.false_eq_true, Bool.true_eq_false, decide_eq_true_eq, Nat.sub_self, Nat.reduceAdd, Nat.reduceSub, Nat.reduceLeDiff, List.cons.injEq]
    refine (k_some_str hB' (by decide) (by decide)).imp fun v s h => ?_
    obtain ⟨B2, c, rfl, rfl, hB2⟩ := h
    have hk' : k < (intsF 0 j.toNat).length := (List.getElem?_eq_some_iff.mp hk).1
    rw [intsF_len] at hk'
    have e : oAdd (.str z) (.str ⟨#[c]⟩) (B2 :: rest) = some (.str (z ++ ⟨#[c]⟩)) := by
      show (if z.length + (⟨#[c]⟩ : Str).length ≤ sizeLine then some (PV.str (z ++ ⟨#[c]⟩)) else none) = _
      rw [if_pos (small_line (by show z.length + 1 ≤ 1000; omega))]
    rw [e, out_some]
    refine ⟨z ++ ⟨#[c]⟩, some x, B2, ⟨rfl, rfl⟩, rfl, hB2, ?_⟩
    rw [str_app_len]
    show z.length + 1 ≤ _
    omega
  · obtain ⟨z, t, B', rfl, rfl, hB', hz⟩ := h
    rw [intsF_len] at hz
    simp only [os_seq, os_skip, os_brk, os_cont, os_retN, os_drop, os_ret, os_retA, os_set, os_setA, os_if, os_asg, os_par, os_aug, os_put, os_augP, os_for, ok_var, ok_c, ok_nil, ok_cons, ok_tup, ok_lst, ok_new, ok_tst, ok_andT, ok_orT, ok_notT, ok_and, ok_or, ok_not, ok_if, ok_op, ok_un, ok_cl, ok_clF, ok_call, ok_mk, ok_noPart, ok_part, ok_cut, ok_mt, ok_chain, ok_it, ok_range1, ok_range2, ok_lc, ok_yes, out_some, out_none, out_add, out_sub, out_neg, out_le, out_gt, out_ge, out_lt, out_eqI, out_neI, out_int, out_abs, out_gcd, List.map_cons, List.map_nil, List.length_cons, List.length_nil, List.replicate, List.cons_append, List.nil_append, List.append_nil, List.getElem?_cons_zero, List.getElem?_cons_succ, List.set_cons_zero, List.set_cons_succ, PV.bl.injEq, PV.int.injEq, PV.str.injEq, exists_eq_left', exists_eq_left, and_true, true_and, if_true, if_false, Bool.false_eq_true, Bool.true_eq_false, decide_eq_true_eq, Nat.sub_self, Nat.reduceAdd, Nat.reduceSub, Nat.reduceLeDiff, List.cons.injEq, len_str]
    refine (k_take hB' (by omega) (by omega)).imp fun v s h => ?_
    obtain ⟨i2, B2, rfl, rfl, hB2, p2, q2⟩ := h
    simp only [os_seq, os_skip, os_brk, os_cont, os_retN, os_drop, os_ret, os_retA, os_set, os_setA, os_if, os_asg, os_par, os_aug, os_put, os_augP, os_for, ok_var, ok_c, ok_nil, ok_cons, ok_tup, ok_lst, ok_new, ok_tst, ok_andT, ok_orT, ok_notT, ok_and, ok_or, ok_not, ok_if, ok_op, ok_un, ok_cl, ok_clF, ok_call, ok_mk, ok_noPart, ok_part, ok_cut, ok_mt, ok_chain, ok_it, ok_range1, ok_range2, ok_lc, ok_yes, out_some, out_none, out_add, out_sub, out_neg, out_le, out_gt, out_ge, out_lt, out_eqI, out_neI, out_int, out_abs, out_gcd, List.map_cons, List.map_nil, List.length_cons, List.length_nil, List.replicate, List.cons_append, List.nil_append, List.append_nil, List.getElem?_cons_zero, List.getElem?_cons_succ, List.set_cons_zero, List.set_cons_succ, PV.bl.injEq, PV.int.injEq, PV.str.injEq, exists_eq_left', exists_eq_left, and_true, true_and, if_true, if_false, Bool.false_eq_true, Bool.true_eq_false, decide_eq_true_eq, Nat.sub_self, Nat.reduceAdd, Nat.reduceSub, Nat.reduceLeDiff, List.cons.injEq]
    refine ⟨small_line (by decide), ?_⟩
    refine (k_some hB2 (by simp) (by simp)).imp fun v s h => ?_
    obtain ⟨B3, hv, rfl, hB3⟩ := h
    have hn : ∃ y : Str, v = .str y ∧ y.length ≤ 1 := by
      simp only [List.mem_cons, List.not_mem_nil, or_false] at hv
      rcases hv with rfl | rfl | rfl | rfl | rfl | rfl | rfl | rfl | rfl | rfl | rfl <;> exact ⟨_, rfl, by decide⟩
    obtain ⟨y, rfl, hy⟩ := hn
    simp only [os_seq, os_skip, os_brk, os_cont, os_retN, os_drop, os_ret, os_retA, os_set, os_setA, os_if, os_asg, os_par, os_aug, os_put, os_augP, os_for, ok_var, ok_c, ok_nil, ok_cons, ok_tup, ok_lst, ok_new, ok_tst, ok_andT, ok_orT, ok_notT, ok_and, ok_or, ok_not, ok_if, ok_op, ok_un, ok_cl, ok_clF, ok_call, ok_mk, ok_noPart, ok_part, ok_cut, ok_mt, ok_chain, ok_it, ok_range1, ok_range2, ok_lc, ok_yes, out_some, out_none, out_add, out_sub, out_neg, out_le, out_gt, out_ge, out_lt, out_eqI, out_neI, out_int, out_abs, out_gcd, List.map_cons, List.map_nil, List.length_cons, List.length_nil, List.replicate, List.cons_append, List.nil_append, List.append_nil, List.getElem?_cons_zero, List.getElem?_cons_succ, List.set_cons_zero, List.set_cons_succ, PV.bl.injEq, PV.int.injEq, PV.str.injEq, exists_eq_left', exists_eq_left, and_true, true_and, if_true, if_false, Bool.false_eq_true, Bool.true_eq_false, decide_eq_true_eq, Nat.sub_self, Nat.reduceAdd, Nat.reduceSub, Nat.reduceLeDiff, List.cons.injEq]
    have ec : ∀ lo hi s, oCut (.str z) lo hi s = some (.str (cutS z lo hi)) := fun _ _ _ => rfl
    have el : ∀ lo hi, (cutS z lo hi).length ≤ z.length := cutS_length z
    have ea : ∀ (a b : Str) (s : Sto), a.length + b.length ≤ 1000 → oAdd (.str a) (.str b) s = some (.str (a ++ b)) := fun a b s h => by
      show (if a.length + b.length ≤ sizeLine then some (PV.str (a ++ b)) else none) = _
      rw [if_pos (small_line h)]
    have l1 := el none (some i2)
    have l2 := el (some i2) none
    rw [ec, out_some, ea _ _ _ (by omega), out_some, ec, out_some, ea _ _ _ (by rw [str_app_len]; omega), out_some]
    exact ⟨_, _, rfl, rfl, hB3⟩
end
end K01

namespace K01
open PySem PySem.Spec PyProof.Rows L2 Mi
section
variable {B : MO} {rest : Sto} {o : MO} {ys zs : List PV}
theorem sl {n : Nat} (h : n ≤ 1000) : (n ≤ sizeLine) ↔ True := iff_true_intro (small_line h)
theorem get_end : (B :: (rest ++ [o]))[rest.length + 1]? = some o := by simp
theorem rcv_end : rcv "list" (.ref (rest.length + 1)) (B :: (rest ++ [.lst ys])) = true := by
  simp [rcv, asS, asL, get_end]
theorem asL_end : asL (B :: (rest ++ [.lst ys])) (.ref (rest.length + 1)) = some ys := by
  simp [asL, get_end]
theorem set_end {o' : MO} : (B :: (rest ++ [o])).set (rest.length + 1) o' = B :: (rest ++ [o']) := by simp
theorem ext_end : oExtend (.ref (rest.length + 1)) [.lst zs] (B :: (rest ++ [.lst ys])) = if ys.length + zs.length ≤ sizeLine then some (.non, B :: (rest ++ [.lst (ys ++ zs)])) else none := by
  have h : asL (B :: (rest ++ [.lst ys])) (.lst zs) = some zs := rfl
  simp [oExtend, get_end, h]
theorem add_end : oAdd (.ref (rest.length + 1)) (.lst zs) (B :: (rest ++ [.lst ys])) = if ys.length + zs.length ≤ sizeLine then some (.lst (ys ++ zs)) else none := by
  have h : asL (B :: (rest ++ [.lst ys])) (.lst zs) = some zs := rfl
  simp [oAdd, asL_end, h]
theorem bag_pure (h : BagO B) : B.pure = true := by
  obtain ⟨a, b, c, cells, rfl, _⟩ := h
  have e : ∀ l : List Int, PV.pureL (l.map .int) = true := fun l => by
    induction l with
    | nil => rfl
    | cons x l ih => simp only [List.map_cons, PV.pureL, ih, PV.pure, Bool.and_self]
  simp only [MO.pure, PV.pureL, PV.pure, e, Bool.and_self]
theorem frz_fit {n : Nat} {s : Sto} {v : PV} (h : fit v) : frz n s v = some v := by
  have p := fit_pure v h
  cases v with
  | ref i => simp [fit] at h
  | _ => simp only [frz, p, if_true]
theorem fin_any {B' : MO} {s : Sto} {v : PV} (hv : fit v) (hs : s = B' :: (rest ++ [o])) (hB : BagO B') : Closed (B :: rest) s ∧ Out (frz (B :: rest).length s v) fun v' => ∃ B', fit v' ∧ s.take (B :: rest).length = B' :: rest ∧ BagO B' := by
  subst hs
  refine ⟨fun i hi => ?_, ?_⟩
  · cases i with
    | zero => exact .inr ⟨B', rfl, bag_pure hB⟩
    | succ i =>
      left
      simp only [List.getElem?_cons_succ]
      rw [List.getElem?_append_left (by simpa using hi)]
  · rw [frz_fit hv, out_some]
    exact ⟨B', hv, by simp, hB⟩
theorem any_end {menu : List PV} {R : QV} (hB : BagO B) (hm : fitL menu) (hl : menu.length ≤ 500) (hR : ∀ v B', fit v → BagO B' → R v (B' :: (rest ++ [.lst menu]))) :
    OkF f__law_word [.ref 0] (B :: (rest ++ [.lst menu])) fun x s => OkF f__law_word [.ref 0] s fun y s => OkF f__law_word [.ref 0] s fun z s => OkF f__law_word [.ref 0] s fun w s =>
      Out (oAdd (.ref (rest.length + 1)) (.lst [x, y, .tup [z, w]]) s) fun u => OkF f__law_some [.ref 0, u] s R := by
  refine (k_word hB).imp fun v s h => ?_
  obtain ⟨z1, B1, rfl, rfl, hB1⟩ := h
  refine (k_word hB1).imp fun v s h => ?_
  obtain ⟨z2, B2, rfl, rfl, hB2⟩ := h
  refine (k_word hB2).imp fun v s h => ?_
  obtain ⟨z3, B3, rfl, rfl, hB3⟩ := h
  refine (k_word hB3).imp fun v s h => ?_
  obtain ⟨z4, B4, rfl, rfl, hB4⟩ := h
  rw [add_end, if_pos (small_line (by simp; omega)), out_some]
  refine (k_some hB4 (by simp) (by simp; omega)).imp fun v s h => ?_
  obtain ⟨B5, hv, rfl, hB5⟩ := h
  refine hR _ _ ?_ hB5
  rcases List.mem_append.mp hv with hv | hv
  · exact fitL_mem hm hv
  · simp only [List.mem_cons, List.not_mem_nil, or_false] at hv
    rcases hv with rfl | rfl | rfl
    · simp [fit]
    · simp [fit]
    · simp [fit, fitL]
end
theorem OkS.impR {m : MS} {env : MEnv} {st : Sto} {N B C : QN} {R R' : QV} (h : OkS m env st N R B C) (k : ∀ v s, R v s → R' v s) : OkS m env st N R' B C := by
  obtain ⟨r, e, q⟩ := h
  refine ⟨r, e, ?_⟩
  cases r with
  | ret v s => exact k v s q
  | next e s => exact q
  | brk e s => exact q
  | cont e s => exact q
  | exc x e s => exact q
theorem k_any (c : Addr) : ∀ (d : Nat) {deep : Int} {B : MO} {rest : Sto}, BagO B → 0 ≤ deep → deep < d → OkF (f__law_any c d) [.ref 0, .int deep] (B :: rest) fun v s => ∃ B', fit v ∧ s = B' :: rest ∧ BagO B'
  | 0, deep, B, rest, _, h0, h1 => absurd h1 (by omega)
  | d + 1, deep, B, rest, hB, h0, h1 => by
    refine of_defT (of_defN rfl ?_)
    simp only [b__law_any, os_seq, os_skip, os_brk, os_cont, os_retN, os_drop, os_ret, os_retA, os_set, os_setA, os_if, os_asg, os_par, os_aug, os_put, os_augP, os_for, ok_var, ok_c, ok_nil, ok_cons, ok_tup, ok_lst, ok_new, ok_tst, ok_andT, ok_orT, ok_notT, ok_and, ok_or, ok_not, ok_if, ok_op, ok_un, ok_cl, ok_clF, ok_call, ok_mk, ok_noPart, ok_part, ok_cut, ok_mt, ok_chain, ok_it, ok_range1, ok_range2, ok_lc, ok_yes, out_some, out_none, out_add, out_sub, out_neg, out_le, out_gt, out_ge, out_lt, out_eqI, out_neI, out_int, out_abs, out_gcd, List.map_cons, List.map_nil, List.length_cons, List.length_nil, List.replicate, List.cons_append, List.nil_append, List.append_nil, List.getElem?_cons_zero, List.getElem?_cons_succ, List.set_cons_zero, List.set_cons_succ, PV.bl.injEq, PV.int.injEq, PV.str.injEq, exists_eq_left', exists_eq_left, and_true, true_and, if_true, if_false, Bool.false_eq_true, Bool.true_eq_false, decide_eq_true_eq, Nat.sub_self, Nat.reduceAdd, Nat.reduceSub, Nat.reduceLeDiff, List.cons.injEq, out_powC, rcv_end, ext_end, out_iff1, sl]
    refine ⟨⟨by decide, by decide, by decide⟩, ?_⟩
    generalize hm : ([PV.non, PV.bl true, PV.bl false, PV.int 0, PV.int 1, PV.int (-1), PV.int (10 ^ Int.toNat 39), _, _, _, _, _, _, _, _, _, _, _, _, _, _, _, _, _, _, _, _, _, _, _] : List PV) = menu
    have hfit : fitL menu ∧ menu.length ≤ 500 := by
      rw [← hm]
      refine ⟨?_, by simp⟩
      simp [fitL, fit, PV.pureL, PV.pureD, PV.pureF, PV.pure]
    split
    · rename_i hpos
      refine (k_take hB (by decide) (by decide)).imp fun v s h => ?_
      obtain ⟨i1, B1, rfl, rfl, hB1, p1, q1⟩ := h
      simp only [os_seq, os_skip, os_brk, os_cont, os_retN, os_drop, os_ret, os_retA, os_set, os_setA, os_if, os_asg, os_par, os_aug, os_put, os_augP, os_for, ok_var, ok_c, ok_nil, ok_cons, ok_tup, ok_lst, ok_new, ok_tst, ok_andT, ok_orT, ok_notT, ok_and, ok_or, ok_not, ok_if, ok_op, ok_un, ok_cl, ok_clF, ok_call, ok_mk, ok_noPart, ok_part, ok_cut, ok_mt, ok_chain, ok_it, ok_range1, ok_range2, ok_lc, ok_yes, out_some, out_none, out_add, out_sub, out_neg, out_le, out_gt, out_ge, out_lt, out_eqI, out_neI, out_int, out_abs, out_gcd, List.map_cons, List.map_nil, List.length_cons, List.length_nil, List.replicate, List.cons_append, List.nil_append, List.append_nil, List.getElem?_cons_zero, List.getElem?_cons_succ, List.set_cons_zero, List.set_cons_succ, PV.bl.injEq, PV.int.injEq, PV.str.injEq, exists_eq_left', exists_eq_left, and_true, true_and, if_true, if_false, Bool.false_eq_true, Bool.true_eq_false, decide_eq_true_eq, Nat.sub_self, Nat.reduceAdd, Nat.reduceSub, Nat.reduceLeDiff, List.cons.injEq]
      split
      · refine (k_take hB1 (by decide) (by decide)).imp fun v s h => ?_
        obtain ⟨i2, B2, rfl, rfl, hB2, p2, q2⟩ := h
        refine ⟨i2, rfl, ⟨by omega, by have := small_line (n := 4) (by decide); omega⟩, ?_⟩
        simp only [wipeM, List.set_cons_succ, List.set_cons_zero]
        obtain ⟨r, er, hy, hlen, B3, es, hB3⟩ := comp_inv (i := 3) (c := mYes) (el := mCall0 (f__law_any c d) (mCons (mVar 0) (mCons (mOp oSub (mVar 1) (mC (PV.int 1))) mNil)))
          (env := [some (.ref 0), some (.int deep), some (.ref (rest.length + 1)), none]) (fun s => ∃ B', s = B' :: (rest ++ [.lst menu]) ∧ BagO B') fit (intsF 0 i2.toNat) (intsF 0 i2.toNat) (B2 :: (rest ++ [.lst menu])) (fun x hx s hs => by
            obtain ⟨B', rfl, hB'⟩ := hs
            simp only [os_seq, os_skip, os_brk, os_cont, os_retN, os_drop, os_ret, os_retA, os_set, os_setA, os_if, os_asg, os_par, os_aug, os_put, os_augP, os_for, ok_var, ok_c, ok_nil, ok_cons, ok_tup, ok_lst, ok_new, ok_tst, ok_andT, ok_orT, ok_notT, ok_and, ok_or, ok_not, ok_if, ok_op, ok_un, ok_cl, ok_clF, ok_call, ok_mk, ok_noPart, ok_part, ok_cut, ok_mt, ok_chain, ok_it, ok_range1, ok_range2, ok_lc, ok_yes, out_some, out_none, out_add, out_sub, out_neg, out_le, out_gt, out_ge, out_lt, out_eqI, out_neI, out_int, out_abs, out_gcd, List.map_cons, List.map_nil, List.length_cons, List.length_nil, List.replicate, List.cons_append, List.nil_append, List.append_nil, List.getElem?_cons_zero, List.getElem?_cons_succ, List.set_cons_zero, List.set_cons_succ, PV.bl.injEq, PV.int.injEq, PV.str.injEq, exists_eq_left', exists_eq_left, and_true, true_and, if_true, if_false, Bool.false_eq_true, Bool.true_eq_false, decide_eq_true_eq, Nat.sub_self, Nat.reduceAdd, Nat.reduceSub, Nat.reduceLeDiff, List.cons.injEq]
            refine (k_any c d hB' (by omega) (by omega)).imp fun v s h => ?_
            obtain ⟨B4, hv, rfl, hB4⟩ := h
            exact ⟨hv, B4, rfl, hB4⟩) ⟨B2, rfl, hB2⟩
        rw [er, out_some]
        rw [intsF_len] at hlen
        have et : oTuple [.lst r.1] r.2 = some (.tup r.1) := rfl
        rw [et, out_some]
        refine fin_any (B' := B3) (o := .lst menu) ?_ es hB3
        simp only [fit]
        exact ⟨fitL_of hy, by omega⟩
      · exact any_end hB1 hfit.1 hfit.2 fun v B' hv hB' => fin_any hv rfl hB'
    · exact any_end hB hfit.1 hfit.2 fun v B' hv hB' => fin_any hv rfl hB'
end K01

namespace K01
open PySem PySem.Spec PyProof.Rows L2 Mi
def shr (n d : Int) : Int := if 0 < d then ((Nat.gcd n.natAbs d.natAbs : Nat) : Int) else -((Nat.gcd n.natAbs d.natAbs : Nat) : Int)
theorem shr_ok {n d : Int} (h : d ≠ 0) (hd : d.natAbs < 2 ^ 150) : shr n d ≠ 0 ∧ LogOk (shr n d) := by
  have h1 : 0 < Nat.gcd n.natAbs d.natAbs := Nat.gcd_pos_of_pos_right _ (by omega)
  have h2 : Nat.gcd n.natAbs d.natAbs ≤ d.natAbs := Nat.gcd_le_right _ (by omega)
  have e : (shr n d).natAbs = Nat.gcd n.natAbs d.natAbs := by
    unfold shr
    split <;> omega
  exact ⟨by omega, logOk_lt (k := 149) (by rw [e]; omega) (by decide)⟩
theorem reduced_eq {n d : Int} {st : Sto} (h : d ≠ 0) (hd : d.natAbs < 2 ^ 150) : f_reduced [.int n, .int d] st = some (.ok (.tup [.int (n.fdiv (shr n d)), .int (d.fdiv (shr n d))]) st) := by
  refine OkF.eq (of_defN rfl ?_)
  have hs := shr_ok (n := n) h hd
  simp only [b_reduced, os_seq, os_skip, os_brk, os_cont, os_retN, os_drop, os_ret, os_retA, os_set, os_setA, os_if, os_asg, os_par, os_aug, os_put, os_augP, os_for, ok_var, ok_c, ok_nil, ok_cons, ok_tup, ok_lst, ok_new, ok_tst, ok_andT, ok_orT, ok_notT, ok_and, ok_or, ok_not, ok_if, ok_op, ok_un, ok_cl, ok_clF, ok_call, ok_mk, ok_noPart, ok_part, ok_cut, ok_mt, ok_chain, ok_it, ok_range1, ok_range2, ok_lc, ok_yes, out_some, out_none, out_add, out_sub, out_neg, out_le, out_gt, out_ge, out_lt, out_eqI, out_neI, out_int, out_abs, out_gcd, List.map_cons, List.map_nil, List.length_cons, List.length_nil, List.replicate, List.cons_append, List.nil_append, List.append_nil, List.getElem?_cons_zero, List.getElem?_cons_succ, List.set_cons_zero, List.set_cons_succ, PV.bl.injEq, PV.int.injEq, PV.str.injEq, exists_eq_left', exists_eq_left, and_true, true_and, if_true, if_false, Bool.false_eq_true, Bool.true_eq_false, decide_eq_true_eq, Nat.sub_self, Nat.reduceAdd, Nat.reduceSub, Nat.reduceLeDiff, List.cons.injEq, out_divC, sl]
  split
  · rename_i h0
    have e : shr n d = ((Nat.gcd n.natAbs d.natAbs : Nat) : Int) := if_pos h0
    rw [e] at hs ⊢
    exact ⟨hs.1, hs.2, hs.1, hs.2, rfl⟩
  · rename_i h0
    have e : shr n d = -((Nat.gcd n.natAbs d.natAbs : Nat) : Int) := if_neg h0
    rw [e] at hs ⊢
    exact ⟨hs.1, hs.2, hs.1, hs.2, rfl⟩
theorem shr_dvd (n d : Int) : (∃ q, n = shr n d * q) ∧ ∃ q, d = shr n d * q := by
  have h1 : ((Nat.gcd n.natAbs d.natAbs : Nat) : Int) ∣ n := Int.ofNat_dvd_left.mpr (Nat.gcd_dvd_left _ _)
  have h2 : ((Nat.gcd n.natAbs d.natAbs : Nat) : Int) ∣ d := Int.ofNat_dvd_left.mpr (Nat.gcd_dvd_right _ _)
  unfold shr
  split
  · exact ⟨h1, h2⟩
  · exact ⟨Int.neg_dvd.mpr h1, Int.neg_dvd.mpr h2⟩
theorem fdiv_le {a b : Int} (hb : b ≠ 0) (h : ∃ q, a = b * q) : (a.fdiv b).natAbs ≤ a.natAbs := by
  obtain ⟨q, rfl⟩ := h
  rw [Int.mul_fdiv_cancel_left _ hb, Int.natAbs_mul]
  have : 1 ≤ b.natAbs := by omega
  calc q.natAbs = 1 * q.natAbs := (Nat.one_mul _).symm
    _ ≤ b.natAbs * q.natAbs := Nat.mul_le_mul_right _ this
theorem shows_pair {i j : Int} (hi : i.natAbs < 2 ^ 150) (hj : j.natAbs < 2 ^ 150) : shows (.tuple [.int i, .int j]) = true := by
  have l : ∀ k : Int, k.natAbs < 2 ^ 150 → k.natAbs.log2 < 1920 := fun k hk => by
    rcases Nat.eq_zero_or_pos k.natAbs with h0 | h0
    · rw [h0]; decide
    · have := (Nat.log2_lt (k := 150) (by omega)).mpr hk
      omega
  have h1 := PyProof.Rows.int_text_len_1921 (l i hi)
  have h2 := PyProof.Rows.int_text_len_1921 (l j hj)
  have e1 : PyData.showable (.tuple [.int i, .int j]) = true := by
    simp [PyData.showable, PyData.showableAll, l i hi, l j hj]
  have e2 : PyData.depth (.tuple [.int i, .int j]) ≤ 64 := by
    simp [PyData.depth, PyData.depthAll]
  have e3 : (PyData.shown (.tuple [.int i, .int j])).length ≤ sizeLine := by
    have h3 := tupleText_len_le [Str.ofString (toString i), Str.ofString (toString j)]
    simp only [List.map_cons, List.map_nil, List.sum_cons, List.sum_nil, List.length_cons, List.length_nil] at h3
    show (tupleText [Str.ofString (toString i), Str.ofString (toString j)]).length ≤ _
    have h4 : (5000 : Nat) ≤ sizeLine := by decide
    omega
  unfold shows
  simp only [e1, e2, e3, decide_true, Bool.and_self]
theorem bools_shows : ∀ a b c d e : Bool, shows (.list [.bool a, .bool b, .bool c, .bool d, .bool e]) = true := by decide
theorem k_alike {x y : PV} {d : PyData} {st : Sto} (hx : dataV st x = some d) (hy : dataV st y = some d) (hu : unlike st x y = false) (hp : d.plain = true) (hs : shows d = true) : f__law_alike [x, y] st = some (.ok (.bl true) st) := OkF.eq (alike_ok hx hy hu hp hs)
theorem add_4 {a b c d e : PV} {st : Sto} : oAdd (.lst [a, b, c, d]) (.lst [e]) st = some (.lst [a, b, c, d, e]) := by
  rw [add_l]
  rfl
theorem alike5 {a b c d e : Bool} {st : Sto} : f__law_alike [.lst [.bl a, .bl b, .bl c, .bl d, .bl e], .lst [.bl a, .bl b, .bl c, .bl d, .bl e]] st = some (.ok (.bl true) st) :=
  k_alike (d := .list [.bool a, .bool b, .bool c, .bool d, .bool e]) rfl rfl rfl rfl (bools_shows a b c d e)
theorem alike2 {i j : Int} {st : Sto} (hi : i.natAbs < 2 ^ 150) (hj : j.natAbs < 2 ^ 150) : f__law_alike [.tup [.int i, .int j], .tup [.int i, .int j]] st = some (.ok (.bl true) st) :=
  k_alike (d := .tuple [.int i, .int j]) rfl rfl rfl rfl (shows_pair hi hj)
theorem due_eq {rows : PV} {st : Sto} {a0 a1 a2 a3 a4 a5 a6 a7 a8 a9 a10 : Option PV} {ys : List PV} (h : fitL ys) :
    compL (.nm 11) ⟨ys, none⟩ (mNotT (mTst (mCall0 f__law_is_deed (mCons (mVar 11) mNil)))) (mVar 11) ys [a0, a1, a2, a3, a4, a5, a6, a7, a8, a9, a10, none] st = some ((ys.filter fun x => !kDeed x).map id, st) := by
  refine comp_eq (fun x hx => ?_) (fun x hx _ => ⟨_, _, rfl, rfl, rfl⟩)
  simp only [os_seq, os_skip, os_brk, os_cont, os_retN, os_drop, os_ret, os_retA, os_set, os_setA, os_if, os_asg, os_par, os_aug, os_put, os_augP, os_for, ok_var, ok_c, ok_nil, ok_cons, ok_tup, ok_lst, ok_new, ok_tst, ok_andT, ok_orT, ok_notT, ok_and, ok_or, ok_not, ok_if, ok_op, ok_un, ok_cl, ok_clF, ok_call, ok_mk, ok_noPart, ok_part, ok_cut, ok_mt, ok_chain, ok_it, ok_range1, ok_range2, ok_lc, ok_yes, out_some, out_none, out_add, out_sub, out_neg, out_le, out_gt, out_ge, out_lt, out_eqI, out_neI, out_int, out_abs, out_gcd, List.map_cons, List.map_nil, List.length_cons, List.length_nil, List.replicate, List.cons_append, List.nil_append, List.append_nil, List.getElem?_cons_zero, List.getElem?_cons_succ, List.set_cons_zero, List.set_cons_succ, PV.bl.injEq, PV.int.injEq, PV.str.injEq, exists_eq_left', exists_eq_left, and_true, true_and, if_true, if_false, Bool.false_eq_true, Bool.true_eq_false, decide_eq_true_eq, Nat.sub_self, Nat.reduceAdd, Nat.reduceSub, Nat.reduceLeDiff, List.cons.injEq]
  rw [okf_of (law_is_deed_eq (fitL_mem h hx))]
  exact ⟨_, rfl, rfl, rfl⟩
theorem mulOk_r' {i j : Int} (h : -1 ≤ j) (h2 : j ≤ 1) : MulOk i j := .inr (.inl ⟨by omega, by omega⟩)
theorem tail_ok {n d : Int} (hn : n.natAbs < 2 ^ 150) (hd : d ≠ 0) (hd2 : d.natAbs < 2 ^ 150) : (0 < d → ((Nat.gcd n.natAbs d.natAbs : Nat) : Int) * 1 = shr n d) ∧ (¬ 0 < d → ((Nat.gcd n.natAbs d.natAbs : Nat) : Int) * -1 = shr n d) ∧ shr n d ≠ 0 ∧ LogOk (shr n d) ∧ (n.fdiv (shr n d)).natAbs < 2 ^ 150 ∧ (d.fdiv (shr n d)).natAbs < 2 ^ 150 := by
  have hs := shr_ok (n := n) hd hd2
  have hv := shr_dvd n d
  refine ⟨fun h => ?_, fun h => ?_, hs.1, hs.2, Nat.lt_of_le_of_lt (fdiv_le hs.1 hv.1) hn, Nat.lt_of_le_of_lt (fdiv_le hs.1 hv.2) hd2⟩
  · rw [Int.mul_one, shr, if_pos h]
  · rw [Int.mul_neg, Int.mul_one, shr, if_neg h]
theorem law_eq (c : Addr) {ns : List Int} (h : ns.length ≤ 63) : OkF (f_law c) [.rol (ns.map .int)] [] fun v _ => v = .bl true := by
  refine of_defN rfl ?_
  simp only [b_law, os_seq, os_skip, os_brk, os_cont, os_retN, os_drop, os_ret, os_retA, os_set, os_setA, os_if, os_asg, os_par, os_aug, os_put, os_augP, os_for, ok_var, ok_c, ok_nil, ok_cons, ok_tup, ok_lst, ok_new, ok_tst, ok_andT, ok_orT, ok_notT, ok_and, ok_or, ok_not, ok_if, ok_op, ok_un, ok_cl, ok_clF, ok_call, ok_mk, ok_noPart, ok_part, ok_cut, ok_mt, ok_chain, ok_it, ok_range1, ok_range2, ok_lc, ok_yes, out_some, out_none, out_add, out_sub, out_neg, out_le, out_gt, out_ge, out_lt, out_eqI, out_neI, out_int, out_abs, out_gcd, List.map_cons, List.map_nil, List.length_cons, List.length_nil, List.replicate, List.cons_append, List.nil_append, List.append_nil, List.getElem?_cons_zero, List.getElem?_cons_succ, List.set_cons_zero, List.set_cons_succ, PV.bl.injEq, PV.int.injEq, PV.str.injEq, exists_eq_left', exists_eq_left, and_true, true_and, if_true, if_false, Bool.false_eq_true, Bool.true_eq_false, decide_eq_true_eq, Nat.sub_self, Nat.reduceAdd, Nat.reduceSub, Nat.reduceLeDiff, List.cons.injEq]
  refine (bag_ok h).imp fun v s h => ?_
  obtain ⟨B, rfl, rfl, hB⟩ := h
  refine ⟨⟨by decide, by decide⟩, ?_⟩
  refine for_inv (fun k env s => ∃ (B : MO) (a0 a2 a3 a4 a5 a6 a7 a8 a9 a10 a11 : Option PV), env = [a0, some (.ref 0), a2, a3, a4, a5, a6, a7, a8, a9, a10, a11] ∧ s = [B] ∧ BagO B) _ _ 0 _ _ (fun k x env s hk h => ?_) (fun env s h => ?_) ⟨B, _, _, _, _, _, _, _, _, _, _, _, rfl, rfl, hB⟩
  · obtain ⟨B, a0, a2, a3, a4, a5, a6, a7, a8, a9, a10, a11, rfl, rfl, hB⟩ := h
    simp only [os_seq, os_skip, os_brk, os_cont, os_retN, os_drop, os_ret, os_retA, os_set, os_setA, os_if, os_asg, os_par, os_aug, os_put, os_augP, os_for, ok_var, ok_c, ok_nil, ok_cons, ok_tup, ok_lst, ok_new, ok_tst, ok_andT, ok_orT, ok_notT, ok_and, ok_or, ok_not, ok_if, ok_op, ok_un, ok_cl, ok_clF, ok_call, ok_mk, ok_noPart, ok_part, ok_cut, ok_mt, ok_chain, ok_it, ok_range1, ok_range2, ok_lc, ok_yes, out_some, out_none, out_add, out_sub, out_neg, out_le, out_gt, out_ge, out_lt, out_eqI, out_neI, out_int, out_abs, out_gcd, List.map_cons, List.map_nil, List.length_cons, List.length_nil, List.replicate, List.cons_append, List.nil_append, List.append_nil, List.getElem?_cons_zero, List.getElem?_cons_succ, List.set_cons_zero, List.set_cons_succ, PV.bl.injEq, PV.int.injEq, PV.str.injEq, exists_eq_left', exists_eq_left, and_true, true_and, if_true, if_false, Bool.false_eq_true, Bool.true_eq_false, decide_eq_true_eq, Nat.sub_self, Nat.reduceAdd, Nat.reduceSub, Nat.reduceLeDiff, List.cons.injEq, sl]
    refine (k_any c 3 hB (by decide) (by decide)).imp fun v s h => ?_
    obtain ⟨B1, hv, rfl, hB1⟩ := h
    refine (k_word hB1).imp fun w s h => ?_
    obtain ⟨z, B2, rfl, rfl, hB2⟩ := h
    refine (k_number hB2).imp fun w s h => ?_
    obtain ⟨i1, B3, rfl, rfl, hB3, hi1⟩ := h
    refine (k_number hB3).imp fun w s h => ?_
    obtain ⟨i2, B4, rfl, rfl, hB4, hi2⟩ := h
    refine (k_some hB4 (by simp) (by simp)).imp fun t s h => ?_
    obtain ⟨B5, hmem, rfl, hB5⟩ := h
    have ht : fit t := by
      simp only [List.mem_cons, List.not_mem_nil, or_false] at hmem
      rcases hmem with rfl | rfl | rfl
      · exact hv
      · simp [fit]
      · simp only [fit, fitL, List.length_cons, List.length_nil]
        exact ⟨⟨by omega, by omega, trivial⟩, by omega⟩
    simp only [okf_of (is_integer_eq ht), okf_of (is_name_eq ht), okf_of (is_fraction_eq ht), okf_of (is_deed_eq ht), okf_of (law_is_int_eq ht), okf_of (law_is_name_eq ht), okf_of (law_is_fraction_eq ht), okf_of (law_is_deed_eq ht)]
    refine (k_some hB5 (by simp) (by simp)).imp fun r s h => ?_
    obtain ⟨B6, hmem2, rfl, hB6⟩ := h
    have hr : fit r := by
      simp only [List.mem_cons, List.not_mem_nil, or_false] at hmem2
      rcases hmem2 with rfl | rfl | rfl | rfl | rfl
      · exact ht
      · simp [fit, fitL, ht]
      · simp [fit, fitL, ht]
      · simp [fit, PV.pureL, fit_pure t ht]
      · simp [fit, fitL, ht]
    simp only [isi_tuple hr, out_some, PV.bl.injEq, exists_eq_left', okf_of (are_deeds_eq hr), add_4]
    have key : ∀ (e : Bool), e = kDeeds r → True := fun _ _ => trivial
    cases hk : isK "tuple" r with
    | false =>
      have e : kDeeds r = false := by
        cases r <;> first | rfl | (simp [isK] at hk)
      simp only [e, Bool.false_eq_true, if_false, okf_of alike5]
      try simp only [Bool.not_true, Bool.false_eq_true, if_false, PV.bl.injEq, exists_eq_left']
      refine (k_number hB6).imp fun w s h => ?_
      obtain ⟨n, B7, rfl, rfl, hB7, hn⟩ := h
      refine (k_number hB7).imp fun w s h => ?_
      obtain ⟨d, B8, rfl, rfl, hB8, hd⟩ := h
      refine ⟨_, _, ⟨rfl, rfl⟩, ?_⟩
      by_cases hd0 : d = 0
      · obtain ⟨q1, q2, q3, q4, q5, q6⟩ := tail_ok (n := n) (d := -4) (by omega) (by decide) (by decide)
        simp only [os_seq, os_skip, os_brk, os_cont, os_retN, os_drop, os_ret, os_retA, os_set, os_setA, os_if, os_asg, os_par, os_aug, os_put, os_augP, os_for, ok_var, ok_c, ok_nil, ok_cons, ok_tup, ok_lst, ok_new, ok_tst, ok_andT, ok_orT, ok_notT, ok_and, ok_or, ok_not, ok_if, ok_op, ok_un, ok_cl, ok_clF, ok_call, ok_mk, ok_noPart, ok_part, ok_cut, ok_mt, ok_chain, ok_it, ok_range1, ok_range2, ok_lc, ok_yes, out_some, out_none, out_add, out_sub, out_neg, out_le, out_gt, out_ge, out_lt, out_eqI, out_neI, out_int, out_abs, out_gcd, List.map_cons, List.map_nil, List.length_cons, List.length_nil, List.replicate, List.cons_append, List.nil_append, List.append_nil, List.getElem?_cons_zero, List.getElem?_cons_succ, List.set_cons_zero, List.set_cons_succ, PV.bl.injEq, PV.int.injEq, PV.str.injEq, exists_eq_left', exists_eq_left, and_true, true_and, if_true, if_false, Bool.false_eq_true, Bool.true_eq_false, decide_eq_true_eq, Nat.sub_self, Nat.reduceAdd, Nat.reduceSub, Nat.reduceLeDiff, List.cons.injEq, hd0, abs_nat, okf_of (common_eq (b := Int.natAbs (-4)) (by decide)), okf_of (reduced_eq (n := n) (d := -4) (by decide) (by decide)), out_mulC, out_divC, decide_true, Bool.not_true]
        split
        · rename_i h4
          exact absurd h4 (by decide)
        · rename_i h4
          rw [q2 h4]
          refine ⟨mulOk_r' (by decide) (by decide), q3, q4, q3, q4, ?_⟩
          simp only [okf_of (alike2 q5 q6), os_seq, os_skip, os_brk, os_cont, os_retN, os_drop, os_ret, os_retA, os_set, os_setA, os_if, os_asg, os_par, os_aug, os_put, os_augP, os_for, ok_var, ok_c, ok_nil, ok_cons, ok_tup, ok_lst, ok_new, ok_tst, ok_andT, ok_orT, ok_notT, ok_and, ok_or, ok_not, ok_if, ok_op, ok_un, ok_cl, ok_clF, ok_call, ok_mk, ok_noPart, ok_part, ok_cut, ok_mt, ok_chain, ok_it, ok_range1, ok_range2, ok_lc, ok_yes, out_some, out_none, out_add, out_sub, out_neg, out_le, out_gt, out_ge, out_lt, out_eqI, out_neI, out_int, out_abs, out_gcd, List.map_cons, List.map_nil, List.length_cons, List.length_nil, List.replicate, List.cons_append, List.nil_append, List.append_nil, List.getElem?_cons_zero, List.getElem?_cons_succ, List.set_cons_zero, List.set_cons_succ, PV.bl.injEq, PV.int.injEq, PV.str.injEq, exists_eq_left', exists_eq_left, and_true, true_and, if_true, if_false, Bool.false_eq_true, Bool.true_eq_false, decide_eq_true_eq, Nat.sub_self, Nat.reduceAdd, Nat.reduceSub, Nat.reduceLeDiff, List.cons.injEq, Bool.not_true]
          exact ⟨_, _, _, _, _, _, _, _, _, _, _, _, ⟨rfl, rfl, rfl, rfl, rfl, rfl, rfl, rfl, rfl, rfl, rfl⟩, rfl, hB8⟩
      · obtain ⟨q1, q2, q3, q4, q5, q6⟩ := tail_ok (n := n) (d := d) (by omega) hd0 (by omega)
        simp only [os_seq, os_skip, os_brk, os_cont, os_retN, os_drop, os_ret, os_retA, os_set, os_setA, os_if, os_asg, os_par, os_aug, os_put, os_augP, os_for, ok_var, ok_c, ok_nil, ok_cons, ok_tup, ok_lst, ok_new, ok_tst, ok_andT, ok_orT, ok_notT, ok_and, ok_or, ok_not, ok_if, ok_op, ok_un, ok_cl, ok_clF, ok_call, ok_mk, ok_noPart, ok_part, ok_cut, ok_mt, ok_chain, ok_it, ok_range1, ok_range2, ok_lc, ok_yes, out_some, out_none, out_add, out_sub, out_neg, out_le, out_gt, out_ge, out_lt, out_eqI, out_neI, out_int, out_abs, out_gcd, List.map_cons, List.map_nil, List.length_cons, List.length_nil, List.replicate, List.cons_append, List.nil_append, List.append_nil, List.getElem?_cons_zero, List.getElem?_cons_succ, List.set_cons_zero, List.set_cons_succ, PV.bl.injEq, PV.int.injEq, PV.str.injEq, exists_eq_left', exists_eq_left, and_true, true_and, if_true, if_false, Bool.false_eq_true, Bool.true_eq_false, decide_eq_true_eq, Nat.sub_self, Nat.reduceAdd, Nat.reduceSub, Nat.reduceLeDiff, List.cons.injEq, hd0, abs_nat, okf_of (common_eq (b := d.natAbs) (by omega)), okf_of (reduced_eq (n := n) (d := d) hd0 (by omega)), out_mulC, out_divC, decide_false, Bool.not_false]
        split
        · rename_i h4
          rw [q1 h4]
          refine ⟨mulOk_r' (by decide) (by decide), q3, q4, q3, q4, ?_⟩
          simp only [okf_of (alike2 q5 q6), os_seq, os_skip, os_brk, os_cont, os_retN, os_drop, os_ret, os_retA, os_set, os_setA, os_if, os_asg, os_par, os_aug, os_put, os_augP, os_for, ok_var, ok_c, ok_nil, ok_cons, ok_tup, ok_lst, ok_new, ok_tst, ok_andT, ok_orT, ok_notT, ok_and, ok_or, ok_not, ok_if, ok_op, ok_un, ok_cl, ok_clF, ok_call, ok_mk, ok_noPart, ok_part, ok_cut, ok_mt, ok_chain, ok_it, ok_range1, ok_range2, ok_lc, ok_yes, out_some, out_none, out_add, out_sub, out_neg, out_le, out_gt, out_ge, out_lt, out_eqI, out_neI, out_int, out_abs, out_gcd, List.map_cons, List.map_nil, List.length_cons, List.length_nil, List.replicate, List.cons_append, List.nil_append, List.append_nil, List.getElem?_cons_zero, List.getElem?_cons_succ, List.set_cons_zero, List.set_cons_succ, PV.bl.injEq, PV.int.injEq, PV.str.injEq, exists_eq_left', exists_eq_left, and_true, true_and, if_true, if_false, Bool.false_eq_true, Bool.true_eq_false, decide_eq_true_eq, Nat.sub_self, Nat.reduceAdd, Nat.reduceSub, Nat.reduceLeDiff, List.cons.injEq, Bool.not_true]
          exact ⟨_, _, _, _, _, _, _, _, _, _, _, _, ⟨rfl, rfl, rfl, rfl, rfl, rfl, rfl, rfl, rfl, rfl, rfl⟩, rfl, hB8⟩
        · rename_i h4
          rw [q2 h4]
          refine ⟨mulOk_r' (by decide) (by decide), q3, q4, q3, q4, ?_⟩
          simp only [okf_of (alike2 q5 q6), os_seq, os_skip, os_brk, os_cont, os_retN, os_drop, os_ret, os_retA, os_set, os_setA, os_if, os_asg, os_par, os_aug, os_put, os_augP, os_for, ok_var, ok_c, ok_nil, ok_cons, ok_tup, ok_lst, ok_new, ok_tst, ok_andT, ok_orT, ok_notT, ok_and, ok_or, ok_not, ok_if, ok_op, ok_un, ok_cl, ok_clF, ok_call, ok_mk, ok_noPart, ok_part, ok_cut, ok_mt, ok_chain, ok_it, ok_range1, ok_range2, ok_lc, ok_yes, out_some, out_none, out_add, out_sub, out_neg, out_le, out_gt, out_ge, out_lt, out_eqI, out_neI, out_int, out_abs, out_gcd, List.map_cons, List.map_nil, List.length_cons, List.length_nil, List.replicate, List.cons_append, List.nil_append, List.append_nil, List.getElem?_cons_zero, List.getElem?_cons_succ, List.set_cons_zero, List.set_cons_succ, PV.bl.injEq, PV.int.injEq, PV.str.injEq, exists_eq_left', exists_eq_left, and_true, true_and, if_true, if_false, Bool.false_eq_true, Bool.true_eq_false, decide_eq_true_eq, Nat.sub_self, Nat.reduceAdd, Nat.reduceSub, Nat.reduceLeDiff, List.cons.injEq, Bool.not_true]
          exact ⟨_, _, _, _, _, _, _, _, _, _, _, _, ⟨rfl, rfl, rfl, rfl, rfl, rfl, rfl, rfl, rfl, rfl, rfl⟩, rfl, hB8⟩
    | true =>
      obtain ⟨ys, rfl⟩ := tup_of hk
      have hr' := hr
      simp only [fit] at hr'
      simp only [if_true, it_tup, out_some, wipeM, List.set_cons_succ, List.set_cons_zero, due_eq (rows := .non) hr'.1, List.map_id, eq_nil, filter_none, kDeeds, add_4, okf_of alike5, List.map_cons, List.map_nil, List.length_cons, List.length_nil, List.replicate, List.cons_append, List.nil_append, List.append_nil, List.getElem?_cons_zero, List.getElem?_cons_succ, List.set_cons_zero, List.set_cons_succ, PV.bl.injEq, PV.int.injEq, PV.str.injEq, exists_eq_left', exists_eq_left, and_true, true_and, if_true, if_false, Bool.false_eq_true, Bool.true_eq_false, decide_eq_true_eq, Nat.sub_self, Nat.reduceAdd, Nat.reduceSub, Nat.reduceLeDiff, List.cons.injEq]
      try simp only [Bool.not_true, Bool.false_eq_true, if_false, PV.bl.injEq, exists_eq_left']
      refine (k_number hB6).imp fun w s h => ?_
      obtain ⟨n, B7, rfl, rfl, hB7, hn⟩ := h
      refine (k_number hB7).imp fun w s h => ?_
      obtain ⟨d, B8, rfl, rfl, hB8, hd⟩ := h
      refine ⟨_, _, ⟨rfl, rfl⟩, ?_⟩
      by_cases hd0 : d = 0
      · obtain ⟨q1, q2, q3, q4, q5, q6⟩ := tail_ok (n := n) (d := -4) (by omega) (by decide) (by decide)
        simp only [os_seq, os_skip, os_brk, os_cont, os_retN, os_drop, os_ret, os_retA, os_set, os_setA, os_if, os_asg, os_par, os_aug, os_put, os_augP, os_for, ok_var, ok_c, ok_nil, ok_cons, ok_tup, ok_lst, ok_new, ok_tst, ok_andT, ok_orT, ok_notT, ok_and, ok_or, ok_not, ok_if, ok_op, ok_un, ok_cl, ok_clF, ok_call, ok_mk, ok_noPart, ok_part, ok_cut, ok_mt, ok_chain, ok_it, ok_range1, ok_range2, ok_lc, ok_yes, out_some, out_none, out_add, out_sub, out_neg, out_le, out_gt, out_ge, out_lt, out_eqI, out_neI, out_int, out_abs, out_gcd, List.map_cons, List.map_nil, List.length_cons, List.length_nil, List.replicate, List.cons_append, List.nil_append, List.append_nil, List.getElem?_cons_zero, List.getElem?_cons_succ, List.set_cons_zero, List.set_cons_succ, PV.bl.injEq, PV.int.injEq, PV.str.injEq, exists_eq_left', exists_eq_left, and_true, true_and, if_true, if_false, Bool.false_eq_true, Bool.true_eq_false, decide_eq_true_eq, Nat.sub_self, Nat.reduceAdd, Nat.reduceSub, Nat.reduceLeDiff, List.cons.injEq, hd0, abs_nat, okf_of (common_eq (b := Int.natAbs (-4)) (by decide)), okf_of (reduced_eq (n := n) (d := -4) (by decide) (by decide)), out_mulC, out_divC, decide_true, Bool.not_true]
        split
        · rename_i h4
          exact absurd h4 (by decide)
        · rename_i h4
          rw [q2 h4]
          refine ⟨mulOk_r' (by decide) (by decide), q3, q4, q3, q4, ?_⟩
          simp only [okf_of (alike2 q5 q6), os_seq, os_skip, os_brk, os_cont, os_retN, os_drop, os_ret, os_retA, os_set, os_setA, os_if, os_asg, os_par, os_aug, os_put, os_augP, os_for, ok_var, ok_c, ok_nil, ok_cons, ok_tup, ok_lst, ok_new, ok_tst, ok_andT, ok_orT, ok_notT, ok_and, ok_or, ok_not, ok_if, ok_op, ok_un, ok_cl, ok_clF, ok_call, ok_mk, ok_noPart, ok_part, ok_cut, ok_mt, ok_chain, ok_it, ok_range1, ok_range2, ok_lc, ok_yes, out_some, out_none, out_add, out_sub, out_neg, out_le, out_gt, out_ge, out_lt, out_eqI, out_neI, out_int, out_abs, out_gcd, List.map_cons, List.map_nil, List.length_cons, List.length_nil, List.replicate, List.cons_append, List.nil_append, List.append_nil, List.getElem?_cons_zero, List.getElem?_cons_succ, List.set_cons_zero, List.set_cons_succ, PV.bl.injEq, PV.int.injEq, PV.str.injEq, exists_eq_left', exists_eq_left, and_true, true_and, if_true, if_false, Bool.false_eq_true, Bool.true_eq_false, decide_eq_true_eq, Nat.sub_self, Nat.reduceAdd, Nat.reduceSub, Nat.reduceLeDiff, List.cons.injEq, Bool.not_true]
          exact ⟨_, _, _, _, _, _, _, _, _, _, _, _, ⟨rfl, rfl, rfl, rfl, rfl, rfl, rfl, rfl, rfl, rfl, rfl⟩, rfl, hB8⟩
      · obtain ⟨q1, q2, q3, q4, q5, q6⟩ := tail_ok (n := n) (d := d) (by omega) hd0 (by omega)
        simp only [os_seq, os_skip, os_brk, os_cont, os_retN, os_drop, os_ret, os_retA, os_set, os_setA, os_if, os_asg, os_par, os_aug, os_put, os_augP, os_for, ok_var, ok_c, ok_nil, ok_cons, ok_tup, ok_lst, ok_new, ok_tst, ok_andT, ok_orT, ok_notT, ok_and, ok_or, ok_not, ok_if, ok_op, ok_un, ok_cl, ok_clF, ok_call, ok_mk, ok_noPart, ok_part, ok_cut, ok_mt, ok_chain, ok_it, ok_range1, ok_range2, ok_lc, ok_yes, out_some, out_none, out_add, out_sub, out_neg, out_le, out_gt, out_ge, out_lt, out_eqI, out_neI, out_int, out_abs, out_gcd, List.map_cons, List.map_nil, List.length_cons, List.length_nil, List.replicate, List.cons_append, List.nil_append, List.append_nil, List.getElem?_cons_zero, List.getElem?_cons_succ, List.set_cons_zero, List.set_cons_succ, PV.bl.injEq, PV.int.injEq, PV.str.injEq, exists_eq_left', exists_eq_left, and_true, true_and, if_true, if_false, Bool.false_eq_true, Bool.true_eq_false, decide_eq_true_eq, Nat.sub_self, Nat.reduceAdd, Nat.reduceSub, Nat.reduceLeDiff, List.cons.injEq, hd0, abs_nat, okf_of (common_eq (b := d.natAbs) (by omega)), okf_of (reduced_eq (n := n) (d := d) hd0 (by omega)), out_mulC, out_divC, decide_false, Bool.not_false]
        split
        · rename_i h4
          rw [q1 h4]
          refine ⟨mulOk_r' (by decide) (by decide), q3, q4, q3, q4, ?_⟩
          simp only [okf_of (alike2 q5 q6), os_seq, os_skip, os_brk, os_cont, os_retN, os_drop, os_ret, os_retA, os_set, os_setA, os_if, os_asg, os_par, os_aug, os_put, os_augP, os_for, ok_var, ok_c, ok_nil, ok_cons, ok_tup, ok_lst, ok_new, ok_tst, ok_andT, ok_orT, ok_notT, ok_and, ok_or, ok_not, ok_if, ok_op, ok_un, ok_cl, ok_clF, ok_call, ok_mk, ok_noPart, ok_part, ok_cut, ok_mt, ok_chain, ok_it, ok_range1, ok_range2, ok_lc, ok_yes, out_some, out_none, out_add, out_sub, out_neg, out_le, out_gt, out_ge, out_lt, out_eqI, out_neI, out_int, out_abs, out_gcd, List.map_cons, List.map_nil, List.length_cons, List.length_nil, List.replicate, List.cons_append, List.nil_append, List.append_nil, List.getElem?_cons_zero, List.getElem?_cons_succ, List.set_cons_zero, List.set_cons_succ, PV.bl.injEq, PV.int.injEq, PV.str.injEq, exists_eq_left', exists_eq_left, and_true, true_and, if_true, if_false, Bool.false_eq_true, Bool.true_eq_false, decide_eq_true_eq, Nat.sub_self, Nat.reduceAdd, Nat.reduceSub, Nat.reduceLeDiff, List.cons.injEq, Bool.not_true]
          exact ⟨_, _, _, _, _, _, _, _, _, _, _, _, ⟨rfl, rfl, rfl, rfl, rfl, rfl, rfl, rfl, rfl, rfl, rfl⟩, rfl, hB8⟩
        · rename_i h4
          rw [q2 h4]
          refine ⟨mulOk_r' (by decide) (by decide), q3, q4, q3, q4, ?_⟩
          simp only [okf_of (alike2 q5 q6), os_seq, os_skip, os_brk, os_cont, os_retN, os_drop, os_ret, os_retA, os_set, os_setA, os_if, os_asg, os_par, os_aug, os_put, os_augP, os_for, ok_var, ok_c, ok_nil, ok_cons, ok_tup, ok_lst, ok_new, ok_tst, ok_andT, ok_orT, ok_notT, ok_and, ok_or, ok_not, ok_if, ok_op, ok_un, ok_cl, ok_clF, ok_call, ok_mk, ok_noPart, ok_part, ok_cut, ok_mt, ok_chain, ok_it, ok_range1, ok_range2, ok_lc, ok_yes, out_some, out_none, out_add, out_sub, out_neg, out_le, out_gt, out_ge, out_lt, out_eqI, out_neI, out_int, out_abs, out_gcd, List.map_cons, List.map_nil, List.length_cons, List.length_nil, List.replicate, List.cons_append, List.nil_append, List.append_nil, List.getElem?_cons_zero, List.getElem?_cons_succ, List.set_cons_zero, List.set_cons_succ, PV.bl.injEq, PV.int.injEq, PV.str.injEq, exists_eq_left', exists_eq_left, and_true, true_and, if_true, if_false, Bool.false_eq_true, Bool.true_eq_false, decide_eq_true_eq, Nat.sub_self, Nat.reduceAdd, Nat.reduceSub, Nat.reduceLeDiff, List.cons.injEq, Bool.not_true]
          exact ⟨_, _, _, _, _, _, _, _, _, _, _, _, ⟨rfl, rfl, rfl, rfl, rfl, rfl, rfl, rfl, rfl, rfl, rfl⟩, rfl, hB8⟩
  · simp only [os_seq, os_skip, os_brk, os_cont, os_retN, os_drop, os_ret, os_retA, os_set, os_setA, os_if, os_asg, os_par, os_aug, os_put, os_augP, os_for, ok_var, ok_c, ok_nil, ok_cons, ok_tup, ok_lst, ok_new, ok_tst, ok_andT, ok_orT, ok_notT, ok_and, ok_or, ok_not, ok_if, ok_op, ok_un, ok_cl, ok_clF, ok_call, ok_mk, ok_noPart, ok_part, ok_cut, ok_mt, ok_chain, ok_it, ok_range1, ok_range2, ok_lc, ok_yes, out_some, out_none, out_add, out_sub, out_neg, out_le, out_gt, out_ge, out_lt, out_eqI, out_neI, out_int, out_abs, out_gcd]
end K01

namespace K01
open PySem PySem.Spec PyProof.Rows L2 Mi
def spL (K : PySem.W.Frag) : Sp := fun vs H Q E => ∀ c, spM K 1 (f_law c) vs H Q E
theorem sp_law {K : PySem.W.Frag} {H : Hp} {a : Addr} {ns : List Int} (hl : ns.length ≤ 63) (hS : SqL K H a (ns.map V.int)) : spL K [.ref a] H (fun v _ => v = .bl true) fun _ _ _ => False := fun c => by
  have hF : Fz ⟨[], []⟩ H = H := by
    funext b
    unfold Fz
    rw [if_neg (by simp)]
  have hR : ∀ ms : List Int, RepL K H [] (ms.map PV.int) (ms.map V.int) := fun ms => by
    induction ms with
    | nil => simp [RepL]
    | cons m ms ih =>
      simp only [List.map_cons, RepL]
      exact ⟨_, _, rfl, by simp [Rep], ih⟩
  refine ⟨⟨[], []⟩, [], [.rol (ns.map .int)], ⟨rfl, by simp, by simp, by simp, fun i o b e => by simp at e⟩, ?_, rfl, ?_⟩
  · show RepL K (Fz ⟨[], []⟩ H) [] _ _
    rw [hF]
    simp only [RepL, Rep]
    exact ⟨_, _, rfl, ⟨a, _, rfl, hS, hR ns, by rw [List.length_map]; exact small_line (by omega)⟩, rfl⟩
  · obtain ⟨v, s, e, rfl⟩ := law_eq c hl
    rw [e]
    intro u H' W' l ss r
    exact bl_inv' r
theorem all_mk {P : Program} {w : World} {K : PySem.W.Frag} {h : Heap} {mg : Str → Option Value} {fa : Addr} (X : K.In h) (G : h.Ns mainGlobals mg) (hfa : mg "law" = some (.ref fa))
    {f0 : Addr} {od0 an0 : Option Addr} {sl0 : Array (Option Value)} {oc0 kV0 dc0 pm0 cd0 ct0 : Value}
    {f1 : Addr} {od1 an1 : Option Addr} {sl1 : Array (Option Value)} {oc1 kV1 dc1 pm1 cd1 ct1 : Value}
    {f2 : Addr} {od2 an2 : Option Addr} {sl2 : Array (Option Value)} {oc2 kV2 dc2 pm2 cd2 ct2 : Value}
    {f3 : Addr} {od3 an3 : Option Addr} {sl3 : Array (Option Value)} {oc3 kV3 dc3 pm3 cd3 ct3 : Value}
    {f4 : Addr} {od4 an4 : Option Addr} {sl4 : Array (Option Value)} {oc4 kV4 dc4 pm4 cd4 ct4 : Value}
    {f5 : Addr} {od5 an5 : Option Addr} {sl5 : Array (Option Value)} {oc5 kV5 dc5 pm5 cd5 ct5 : Value}
    {f6 : Addr} {od6 an6 : Option Addr} {sl6 : Array (Option Value)} {oc6 kV6 dc6 pm6 cd6 ct6 : Value}
    {f7 : Addr} {od7 an7 : Option Addr} {sl7 : Array (Option Value)} {oc7 kV7 dc7 pm7 cd7 ct7 : Value}
    {f8 : Addr} {od8 an8 : Option Addr} {sl8 : Array (Option Value)} {oc8 kV8 dc8 pm8 cd8 ct8 : Value}
    {f9 : Addr} {od9 an9 : Option Addr} {sl9 : Array (Option Value)} {oc9 kV9 dc9 pm9 cd9 ct9 : Value}
    {f10 : Addr} {od10 an10 : Option Addr} {sl10 : Array (Option Value)} {oc10 kV10 dc10 pm10 cd10 ct10 : Value}
    {f11 : Addr} {od11 an11 : Option Addr} {sl11 : Array (Option Value)} {oc11 kV11 dc11 pm11 cd11 ct11 : Value}
    {f12 : Addr} {od12 an12 : Option Addr} {sl12 : Array (Option Value)} {oc12 kV12 dc12 pm12 cd12 ct12 : Value}
    {f13 : Addr} {od13 an13 : Option Addr} {sl13 : Array (Option Value)} {oc13 kV13 dc13 pm13 cd13 ct13 : Value}
    {f14 : Addr} {od14 an14 : Option Addr} {sl14 : Array (Option Value)} {oc14 kV14 dc14 pm14 cd14 ct14 : Value}
    {f15 : Addr} {od15 an15 : Option Addr} {sl15 : Array (Option Value)} {oc15 kV15 dc15 pm15 cd15 ct15 : Value}
    {f16 : Addr} {od16 an16 : Option Addr} {sl16 : Array (Option Value)} {oc16 kV16 dc16 pm16 cd16 ct16 : Value}
    {f17 : Addr} {od17 an17 : Option Addr} {sl17 : Array (Option Value)} {oc17 kV17 dc17 pm17 cd17 ct17 : Value}
    {f18 : Addr} {od18 an18 : Option Addr} {sl18 : Array (Option Value)} {oc18 kV18 dc18 pm18 cd18 ct18 : Value}
    {tk_LETTERS : Tok}
    {D_DealError : Addr}
    {C_NoText fi_NoText : Addr} {nm_NoText q_NoText : Str} {N_NoText : Addr} {bs_NoText bm_NoText : List Value} {sn_NoText : List Str} {sub_NoText : List Value} {ab_NoText : Bool} {col_NoText : Option Bool} {dd_NoText : Option Addr} {m0_NoText m1_NoText m2_NoText m3_NoText m5_NoText : Option Value} {oi_NoText ki_NoText di_NoText pi_NoText ci_NoText ti_NoText : Value} {oo_NoText an_NoText : Option Addr} {sl_NoText : Array (Option Value)}
    (a0 : PySem.W.nsIn K mainGlobals "is_integer" = some (some (.ref f0)))
    (l0 : K.lookup f0 = some ⟨oc0, od0, .func (PySem.W.fnOf "is_integer" "is_integer" (defArgs s_is_integer) (defBody s_is_integer) (defScope s_is_integer) .none kV0 dc0 pm0 an0 cd0 ct0), sl0⟩)
    (c0 : PySem.W.codeIn K cd0 "is_integer" = true)
    (k0 : PySem.W.keepIn K (.ref f0) = true)
    (a1 : PySem.W.nsIn K mainGlobals "is_name" = some (some (.ref f1)))
    (l1 : K.lookup f1 = some ⟨oc1, od1, .func (PySem.W.fnOf "is_name" "is_name" (defArgs s_is_name) (defBody s_is_name) (defScope s_is_name) .none kV1 dc1 pm1 an1 cd1 ct1), sl1⟩)
    (c1 : PySem.W.codeIn K cd1 "is_name" = true)
    (k1 : PySem.W.keepIn K (.ref f1) = true)
    (a2 : PySem.W.nsIn K mainGlobals "reduced" = some (some (.ref f2)))
    (l2 : K.lookup f2 = some ⟨oc2, od2, .func (PySem.W.fnOf "reduced" "reduced" (defArgs s_reduced) (defBody s_reduced) (defScope s_reduced) .none kV2 dc2 pm2 an2 cd2 ct2), sl2⟩)
    (c2 : PySem.W.codeIn K cd2 "reduced" = true)
    (k2 : PySem.W.keepIn K (.ref f2) = true)
    (a3 : PySem.W.nsIn K mainGlobals "is_fraction" = some (some (.ref f3)))
    (l3 : K.lookup f3 = some ⟨oc3, od3, .func (PySem.W.fnOf "is_fraction" "is_fraction" (defArgs s_is_fraction) (defBody s_is_fraction) (defScope s_is_fraction) .none kV3 dc3 pm3 an3 cd3 ct3), sl3⟩)
    (c3 : PySem.W.codeIn K cd3 "is_fraction" = true)
    (k3 : PySem.W.keepIn K (.ref f3) = true)
    (a4 : PySem.W.nsIn K mainGlobals "is_deed" = some (some (.ref f4)))
    (l4 : K.lookup f4 = some ⟨oc4, od4, .func (PySem.W.fnOf "is_deed" "is_deed" (defArgs s_is_deed) (defBody s_is_deed) (defScope s_is_deed) .none kV4 dc4 pm4 an4 cd4 ct4), sl4⟩)
    (c4 : PySem.W.codeIn K cd4 "is_deed" = true)
    (k4 : PySem.W.keepIn K (.ref f4) = true)
    (a5 : PySem.W.nsIn K mainGlobals "are_deeds" = some (some (.ref f5)))
    (l5 : K.lookup f5 = some ⟨oc5, od5, .func (PySem.W.fnOf "are_deeds" "are_deeds" (defArgs s_are_deeds) (defBody s_are_deeds) (defScope s_are_deeds) .none kV5 dc5 pm5 an5 cd5 ct5), sl5⟩)
    (c5 : PySem.W.codeIn K cd5 "are_deeds" = true)
    (k5 : PySem.W.keepIn K (.ref f5) = true)
    (a6 : PySem.W.nsIn K mainGlobals "_law_bag" = some (some (.ref f6)))
    (l6 : K.lookup f6 = some ⟨oc6, od6, .func (PySem.W.fnOf "_law_bag" "_law_bag" (defArgs s__law_bag) (defBody s__law_bag) (defScope s__law_bag) .none kV6 dc6 pm6 an6 cd6 ct6), sl6⟩)
    (c6 : PySem.W.codeIn K cd6 "_law_bag" = true)
    (k6 : PySem.W.keepIn K (.ref f6) = true)
    (a7 : PySem.W.nsIn K mainGlobals "_law_take" = some (some (.ref f7)))
    (l7 : K.lookup f7 = some ⟨oc7, od7, .func (PySem.W.fnOf "_law_take" "_law_take" (defArgs s__law_take) (defBody s__law_take) (defScope s__law_take) .none kV7 dc7 pm7 an7 cd7 ct7), sl7⟩)
    (c7 : PySem.W.codeIn K cd7 "_law_take" = true)
    (k7 : PySem.W.keepIn K (.ref f7) = true)
    (a8 : PySem.W.nsIn K mainGlobals "_law_some" = some (some (.ref f8)))
    (l8 : K.lookup f8 = some ⟨oc8, od8, .func (PySem.W.fnOf "_law_some" "_law_some" (defArgs s__law_some) (defBody s__law_some) (defScope s__law_some) .none kV8 dc8 pm8 an8 cd8 ct8), sl8⟩)
    (c8 : PySem.W.codeIn K cd8 "_law_some" = true)
    (k8 : PySem.W.keepIn K (.ref f8) = true)
    (a9 : PySem.W.nsIn K mainGlobals "_law_alike" = some (some (.ref f9)))
    (l9 : K.lookup f9 = some ⟨oc9, od9, .func (PySem.W.fnOf "_law_alike" "_law_alike" (defArgs s__law_alike) (defBody s__law_alike) (defScope s__law_alike) .none kV9 dc9 pm9 an9 cd9 ct9), sl9⟩)
    (c9 : PySem.W.codeIn K cd9 "_law_alike" = true)
    (k9 : PySem.W.keepIn K (.ref f9) = true)
    (a10 : PySem.W.nsIn K mainGlobals "_law_is_int" = some (some (.ref f10)))
    (l10 : K.lookup f10 = some ⟨oc10, od10, .func (PySem.W.fnOf "_law_is_int" "_law_is_int" (defArgs s__law_is_int) (defBody s__law_is_int) (defScope s__law_is_int) .none kV10 dc10 pm10 an10 cd10 ct10), sl10⟩)
    (c10 : PySem.W.codeIn K cd10 "_law_is_int" = true)
    (k10 : PySem.W.keepIn K (.ref f10) = true)
    (a11 : PySem.W.nsIn K mainGlobals "_law_is_name" = some (some (.ref f11)))
    (l11 : K.lookup f11 = some ⟨oc11, od11, .func (PySem.W.fnOf "_law_is_name" "_law_is_name" (defArgs s__law_is_name) (defBody s__law_is_name) (defScope s__law_is_name) .none kV11 dc11 pm11 an11 cd11 ct11), sl11⟩)
    (c11 : PySem.W.codeIn K cd11 "_law_is_name" = true)
    (k11 : PySem.W.keepIn K (.ref f11) = true)
    (a12 : PySem.W.nsIn K mainGlobals "_law_common" = some (some (.ref f12)))
    (l12 : K.lookup f12 = some ⟨oc12, od12, .func (PySem.W.fnOf "_law_common" "_law_common" (defArgs s__law_common) (defBody s__law_common) (defScope s__law_common) .none kV12 dc12 pm12 an12 cd12 ct12), sl12⟩)
    (c12 : PySem.W.codeIn K cd12 "_law_common" = true)
    (k12 : PySem.W.keepIn K (.ref f12) = true)
    (a13 : PySem.W.nsIn K mainGlobals "_law_is_fraction" = some (some (.ref f13)))
    (l13 : K.lookup f13 = some ⟨oc13, od13, .func (PySem.W.fnOf "_law_is_fraction" "_law_is_fraction" (defArgs s__law_is_fraction) (defBody s__law_is_fraction) (defScope s__law_is_fraction) .none kV13 dc13 pm13 an13 cd13 ct13), sl13⟩)
    (c13 : PySem.W.codeIn K cd13 "_law_is_fraction" = true)
    (k13 : PySem.W.keepIn K (.ref f13) = true)
    (a14 : PySem.W.nsIn K mainGlobals "_law_is_deed" = some (some (.ref f14)))
    (l14 : K.lookup f14 = some ⟨oc14, od14, .func (PySem.W.fnOf "_law_is_deed" "_law_is_deed" (defArgs s__law_is_deed) (defBody s__law_is_deed) (defScope s__law_is_deed) .none kV14 dc14 pm14 an14 cd14 ct14), sl14⟩)
    (c14 : PySem.W.codeIn K cd14 "_law_is_deed" = true)
    (k14 : PySem.W.keepIn K (.ref f14) = true)
    (a15 : PySem.W.nsIn K mainGlobals "_law_word" = some (some (.ref f15)))
    (l15 : K.lookup f15 = some ⟨oc15, od15, .func (PySem.W.fnOf "_law_word" "_law_word" (defArgs s__law_word) (defBody s__law_word) (defScope s__law_word) .none kV15 dc15 pm15 an15 cd15 ct15), sl15⟩)
    (c15 : PySem.W.codeIn K cd15 "_law_word" = true)
    (k15 : PySem.W.keepIn K (.ref f15) = true)
    (a16 : PySem.W.nsIn K mainGlobals "_law_any" = some (some (.ref f16)))
    (l16 : K.lookup f16 = some ⟨oc16, od16, .func (PySem.W.fnOf "_law_any" "_law_any" (defArgs s__law_any) (defBody s__law_any) (defScope s__law_any) .none kV16 dc16 pm16 an16 cd16 ct16), sl16⟩)
    (c16 : PySem.W.codeIn K cd16 "_law_any" = true)
    (k16 : PySem.W.keepIn K (.ref f16) = true)
    (a17 : PySem.W.nsIn K mainGlobals "_law_number" = some (some (.ref f17)))
    (l17 : K.lookup f17 = some ⟨oc17, od17, .func (PySem.W.fnOf "_law_number" "_law_number" (defArgs s__law_number) (defBody s__law_number) (defScope s__law_number) .none kV17 dc17 pm17 an17 cd17 ct17), sl17⟩)
    (c17 : PySem.W.codeIn K cd17 "_law_number" = true)
    (k17 : PySem.W.keepIn K (.ref f17) = true)
    (a18 : PySem.W.nsIn K mainGlobals "law" = some (some (.ref f18)))
    (l18 : K.lookup f18 = some ⟨oc18, od18, .func (PySem.W.fnOf "law" "law" (defArgs s_law) (defBody s_law) (defScope s_law) .none kV18 dc18 pm18 an18 cd18 ct18), sl18⟩)
    (c18 : PySem.W.codeIn K cd18 "law" = true)
    (k18 : PySem.W.keepIn K (.ref f18) = true)
    (z_abs : PySem.W.nsIn K mainGlobals "abs" = some none)
    (z_all : PySem.W.nsIn K mainGlobals "all" = some none)
    (z_bool : PySem.W.nsIn K mainGlobals "bool" = some none)
    (z_int : PySem.W.nsIn K mainGlobals "int" = some none)
    (z_isinstance : PySem.W.nsIn K mainGlobals "isinstance" = some none)
    (z_len : PySem.W.nsIn K mainGlobals "len" = some none)
    (z_range : PySem.W.nsIn K mainGlobals "range" = some none)
    (z_repr : PySem.W.nsIn K mainGlobals "repr" = some none)
    (z_str : PySem.W.nsIn K mainGlobals "str" = some none)
    (z_tuple : PySem.W.nsIn K mainGlobals "tuple" = some none)
    (q_LETTERS : PySem.W.nsIn K mainGlobals "LETTERS" = some (some (.str "abcdefghijklmnopqrstuvwxyz" tk_LETTERS)))
    (i_gcd : PySem.W.nsIn K mainGlobals "gcd" = some (some (.builtin "math.gcd")))
    (hnn : PySem.W.specialIn K (.builtin "object.__class__") "__get__" = some (some (.builtin "getset_descriptor.__get__")))
    (htk : PySem.W.takesIn K (.builtin "object.__class__") = some true)
    (bg_DealError : PySem.W.nsIn K mainGlobals "DealError" = some (some (.ref D_DealError)))
    (br_DealError : PySem.W.readsIn K D_DealError (.type "type") = true)
    (bs_DealError : PySem.W.specialIn K (.ref D_DealError) "__getattribute__" = some (some (.builtin "type.__getattribute__")))
    (bi_DealError : PySem.W.findCls K (.ref D_DealError) (.type "type") "__init__" = some (.val (.builtin "ValueError.__init__")))
    (ag_NoText : PySem.W.nsIn K mainGlobals "NoText" = some (some (.ref C_NoText)))
    (ax_NoText : K.lookup C_NoText = some (excClassObj nm_NoText q_NoText C_NoText N_NoText bs_NoText bm_NoText true sn_NoText sub_NoText ab_NoText col_NoText dd_NoText m0_NoText m1_NoText m2_NoText m3_NoText m5_NoText "ValueError.__new__"))
    (av_NoText : PySem.HandSPX.refsVE bm_NoText = true)
    (as_NoText : PySem.W.findIn K (.ref C_NoText) "__setattr__" = some (some (.builtin "object.__setattr__")))
    (ae_NoText : PySem.W.subIn K (.ref C_NoText) (.type "BaseException") = some true)
    (at_NoText : PySem.W.typeIn K (.ref C_NoText) = some (.type "type"))
    (ak_NoText : PySem.W.keepIn K (.ref C_NoText) = true)
    (al_NoText : PySem.W.isClsIn K C_NoText = true)
    (aa_NoText : PySem.W.findIn K (.ref C_NoText) "__getattribute__" = some (some (.builtin "BaseException.__getattribute__")))
    (ah_NoText : PySem.W.findIn K (.ref C_NoText) "__getattr__" = some none)
    (ac_NoText : PySem.W.findIn K (.ref C_NoText) "__class__" = some (some (.builtin "object.__class__")))
    (ao_NoText : PySem.W.mroIn K C_NoText (.type "object") = some true)
    (noint_NoText : PySem.W.kitOne K (.ref C_NoText) (.type "int") = some false)
    (nobool_NoText : PySem.W.kitOne K (.ref C_NoText) (.type "bool") = some false)
    (nostr_NoText : PySem.W.kitOne K (.ref C_NoText) (.type "str") = some false)
    (notuple_NoText : PySem.W.kitOne K (.ref C_NoText) (.type "tuple") = some false)
    (nolist_NoText : PySem.W.kitOne K (.ref C_NoText) (.type "list") = some false)
    (nodict_NoText : PySem.W.kitOne K (.ref C_NoText) (.type "dict") = some false)
    (ii_NoText : PySem.W.findIn K (.ref C_NoText) "__init__" = some (some (.ref fi_NoText)))
    (it_NoText : PySem.W.typeIn K (.ref fi_NoText) = some (.type "function"))
    (il_NoText : K.lookup fi_NoText = some ⟨oi_NoText, oo_NoText, .func (PySem.W.fnOf "__init__" "NoText.__init__" (defArgs s_NoText) (defBody s_NoText) (defScope s_NoText) .none ki_NoText di_NoText pi_NoText an_NoText ci_NoText ti_NoText), sl_NoText⟩)
    (ic_NoText : PySem.W.codeIn K ci_NoText "NoText.__init__" = true)
    (ip_NoText : PySem.W.keepIn K (.ref fi_NoText) = true)
    (nf0_NoText : PySem.W.findIn K (.ref C_NoText) "line" = some none)
    (nf1_NoText : PySem.W.findIn K (.ref C_NoText) "column" = some none)
    : ∃ fd : FuncData, (∀ (s : Shared) (v : Value), BindsTo s fd ⟨[v], []⟩ [("_law_script", v)]) ∧ ∀ base : Heap, K.In base → base.Ns mainGlobals mg → FnG P w K mg base CX0 8 fa fd ["_law_script"] (spL K) := by
  have e := hfa.symm.trans (PySem.W.mg_of X G a18)
  cases e
  have F0 := fun_mk (st := s_is_integer) l0 c0 k0
  have T0 : At K mg "is_integer" s_is_integer ["thing"] := ⟨_, _, F0, PySem.W.mg_of X G a0, F0.binds fun _ _ _ _ _ _ us hl => match us, hl with | [_], _ => rfl⟩
  have F1 := fun_mk (st := s_is_name) l1 c1 k1
  have T1 : At K mg "is_name" s_is_name ["thing"] := ⟨_, _, F1, PySem.W.mg_of X G a1, F1.binds fun _ _ _ _ _ _ us hl => match us, hl with | [_], _ => rfl⟩
  have F2 := fun_mk (st := s_reduced) l2 c2 k2
  have T2 : At K mg "reduced" s_reduced ["num", "den"] := ⟨_, _, F2, PySem.W.mg_of X G a2, F2.binds fun _ _ _ _ _ _ us hl => match us, hl with | [_, _], _ => rfl⟩
  have F3 := fun_mk (st := s_is_fraction) l3 c3 k3
  have T3 : At K mg "is_fraction" s_is_fraction ["thing"] := ⟨_, _, F3, PySem.W.mg_of X G a3, F3.binds fun _ _ _ _ _ _ us hl => match us, hl with | [_], _ => rfl⟩
  have F4 := fun_mk (st := s_is_deed) l4 c4 k4
  have T4 : At K mg "is_deed" s_is_deed ["thing"] := ⟨_, _, F4, PySem.W.mg_of X G a4, F4.binds fun _ _ _ _ _ _ us hl => match us, hl with | [_], _ => rfl⟩
  have F5 := fun_mk (st := s_are_deeds) l5 c5 k5
  have T5 : At K mg "are_deeds" s_are_deeds ["thing"] := ⟨_, _, F5, PySem.W.mg_of X G a5, F5.binds fun _ _ _ _ _ _ us hl => match us, hl with | [_], _ => rfl⟩
  have F6 := fun_mk (st := s__law_bag) l6 c6 k6
  have T6 : At K mg "_law_bag" s__law_bag ["_law_script"] := ⟨_, _, F6, PySem.W.mg_of X G a6, F6.binds fun _ _ _ _ _ _ us hl => match us, hl with | [_], _ => rfl⟩
  have F7 := fun_mk (st := s__law_take) l7 c7 k7
  have T7 : At K mg "_law_take" s__law_take ["_law_bag_here", "_law_many"] := ⟨_, _, F7, PySem.W.mg_of X G a7, F7.binds fun _ _ _ _ _ _ us hl => match us, hl with | [_, _], _ => rfl⟩
  have F8 := fun_mk (st := s__law_some) l8 c8 k8
  have T8 : At K mg "_law_some" s__law_some ["_law_bag_here", "_law_things"] := ⟨_, _, F8, PySem.W.mg_of X G a8, F8.binds fun _ _ _ _ _ _ us hl => match us, hl with | [_, _], _ => rfl⟩
  have F9 := fun_mk (st := s__law_alike) l9 c9 k9
  have T9 : At K mg "_law_alike" s__law_alike ["_law_found", "_law_due"] := ⟨_, _, F9, PySem.W.mg_of X G a9, F9.binds fun _ _ _ _ _ _ us hl => match us, hl with | [_, _], _ => rfl⟩
  have F10 := fun_mk (st := s__law_is_int) l10 c10 k10
  have T10 : At K mg "_law_is_int" s__law_is_int ["_law_thing"] := ⟨_, _, F10, PySem.W.mg_of X G a10, F10.binds fun _ _ _ _ _ _ us hl => match us, hl with | [_], _ => rfl⟩
  have F11 := fun_mk (st := s__law_is_name) l11 c11 k11
  have T11 : At K mg "_law_is_name" s__law_is_name ["_law_thing"] := ⟨_, _, F11, PySem.W.mg_of X G a11, F11.binds fun _ _ _ _ _ _ us hl => match us, hl with | [_], _ => rfl⟩
  have F12 := fun_mk (st := s__law_common) l12 c12 k12
  have T12 : At K mg "_law_common" s__law_common ["_law_one", "_law_other"] := ⟨_, _, F12, PySem.W.mg_of X G a12, F12.binds fun _ _ _ _ _ _ us hl => match us, hl with | [_, _], _ => rfl⟩
  have F13 := fun_mk (st := s__law_is_fraction) l13 c13 k13
  have T13 : At K mg "_law_is_fraction" s__law_is_fraction ["_law_thing"] := ⟨_, _, F13, PySem.W.mg_of X G a13, F13.binds fun _ _ _ _ _ _ us hl => match us, hl with | [_], _ => rfl⟩
  have F14 := fun_mk (st := s__law_is_deed) l14 c14 k14
  have T14 : At K mg "_law_is_deed" s__law_is_deed ["_law_thing"] := ⟨_, _, F14, PySem.W.mg_of X G a14, F14.binds fun _ _ _ _ _ _ us hl => match us, hl with | [_], _ => rfl⟩
  have F15 := fun_mk (st := s__law_word) l15 c15 k15
  have T15 : At K mg "_law_word" s__law_word ["_law_bag_here"] := ⟨_, _, F15, PySem.W.mg_of X G a15, F15.binds fun _ _ _ _ _ _ us hl => match us, hl with | [_], _ => rfl⟩
  have F16 := fun_mk (st := s__law_any) l16 c16 k16
  have T16 : At K mg "_law_any" s__law_any ["_law_bag_here", "_law_deep"] := ⟨_, _, F16, PySem.W.mg_of X G a16, F16.binds fun _ _ _ _ _ _ us hl => match us, hl with | [_, _], _ => rfl⟩
  have F17 := fun_mk (st := s__law_number) l17 c17 k17
  have T17 : At K mg "_law_number" s__law_number ["_law_bag_here"] := ⟨_, _, F17, PySem.W.mg_of X G a17, F17.binds fun _ _ _ _ _ _ us hl => match us, hl with | [_], _ => rfl⟩
  have F18 := fun_mk (st := s_law) l18 c18 k18
  have Gl : Glo mg := { z_abs := PySem.W.mg_none_of X G z_abs, z_all := PySem.W.mg_none_of X G z_all, z_bool := PySem.W.mg_none_of X G z_bool, z_int := PySem.W.mg_none_of X G z_int, z_isinstance := PySem.W.mg_none_of X G z_isinstance, z_len := PySem.W.mg_none_of X G z_len, z_range := PySem.W.mg_none_of X G z_range, z_repr := PySem.W.mg_none_of X G z_repr, z_str := PySem.W.mg_none_of X G z_str, z_tuple := PySem.W.mg_none_of X G z_tuple, k_LETTERS := ⟨_, PySem.W.mg_of X G q_LETTERS⟩, i_gcd := PySem.W.mg_of X G i_gcd }
  have Bs_DealError : Base K mg "DealError" D_DealError := ⟨PySem.W.mg_of X G bg_DealError, _, ⟨br_DealError, bs_DealError⟩, bi_DealError⟩
  have ek_NoText : ExK K C_NoText := ⟨⟨⟨_, _, _, _, _, _, _, _, _, _, _, _, _, _, _, ax_NoText, av_NoText⟩, as_NoText, ae_NoText, at_NoText, ak_NoText⟩, al_NoText, aa_NoText, ⟨_, ah_NoText⟩, ac_NoText, hnn, htk, ao_NoText, kinds6 noint_NoText nobool_NoText nostr_NoText notuple_NoText nolist_NoText nodict_NoText⟩
  have Fi_NoText := fun_mk (st := s_NoText) il_NoText ic_NoText ip_NoText
  have bi_NoText : Binds K _ ["self", "line", "column"] [] := Fi_NoText.binds fun _ _ _ _ _ _ us hl => match us, hl with | [_, _, _], _ => rfl
  refine ⟨PySem.W.fnOf "law" "law" (defArgs s_law) (defBody s_law) (defScope s_law) .none kV18 dc18 pm18 an18 cd18 ct18, fun s v => .of_eq rfl, fun base _ _ => ?_⟩
  have X_NoText : Cls P w K mg base "NoText" ["line", "column"] 1 C_NoText := w_NoText ek_NoText (PySem.W.mg_of X G ag_NoText) Bs_DealError ii_NoText it_NoText nf0_NoText nf1_NoText Fi_NoText bi_NoText
  have D_is_integer := w_is_integer (P := P) (w := w) (base := base) Gl T0
  have D_is_name := w_is_name (P := P) (w := w) (base := base) Gl T1
  have D_reduced := w_reduced (P := P) (w := w) (base := base) Gl T2
  have D_is_fraction := w_is_fraction (P := P) (w := w) (base := base) Gl T3 D_is_integer
  have D_is_deed := w_is_deed (P := P) (w := w) (base := base) Gl T4 D_is_name
  have D_are_deeds := w_are_deeds (P := P) (w := w) (base := base) Gl T5 D_is_deed
  have D__law_bag := w__law_bag (P := P) (w := w) (base := base) Gl T6
  have D__law_take := w__law_take (P := P) (w := w) (base := base) Gl T7
  have D__law_some := w__law_some (P := P) (w := w) (base := base) Gl T8 D__law_take
  have D__law_alike := w__law_alike (P := P) (w := w) (base := base) Gl T9
  have D__law_is_int := w__law_is_int (P := P) (w := w) (base := base) Gl T10
  have D__law_is_name := w__law_is_name (P := P) (w := w) (base := base) Gl T11
  have D__law_common := w__law_common (P := P) (w := w) (base := base) Gl T12
  have D__law_is_fraction := w__law_is_fraction (P := P) (w := w) (base := base) Gl T13 D__law_is_int D__law_common
  have D__law_is_deed := w__law_is_deed (P := P) (w := w) (base := base) Gl T14 D__law_is_name
  have D__law_word := w__law_word (P := P) (w := w) (base := base) Gl T15 D__law_some D__law_take
  have D__law_any := w__law_any X_NoText Gl T16 D__law_take D__law_word D__law_some 3
  have D__law_number := w__law_number (P := P) (w := w) (base := base) Gl T17 D__law_take D__law_some
  exact (fn_law X_NoText Gl F18 D__law_bag D__law_number D__law_word D__law_any D__law_some D_is_deed D_is_fraction D_is_name D_is_integer D__law_is_deed D__law_is_fraction D__law_is_name D__law_is_int D_are_deeds D__law_alike D__law_common D_reduced).weaken fun vs H Q E z => z C_NoText
end K01
open PySem PySem.W PyProof.Rows
set_option maxHeartbeats 0 in
theorem PySem.Challenge.cw_partedmeet_k01_small_forms_of_any_value_holds : PySem.Challenge.rw_partedmeet_k01_small_forms_of_any_value.Holds := by
  w_on; o_law; k_head; (case hw => w_witness2)
  k_fill
  refine Mi.walk_ofG (l := PySem.Challenge.rw_partedmeet_k01_small_forms_of_any_value) (n := 63) (k := 8) (x := "_law_script") (sp := fun w => K01.spL _) rfl (by decide) rfl ⟨rfl, by decide, by decide⟩ (fun w h Y => PySem.W.kIn_of Y) ?F (fun w H a ns hl hS => K01.sp_law hl hS)
  case F =>
    intro w mg fa h KX G hmg
    refine' K01.all_mk KX G hmg ?a0 ?l0 ?c0 ?k0 ?a1 ?l1 ?c1 ?k1 ?a2 ?l2 ?c2 ?k2 ?a3 ?l3 ?c3 ?k3 ?a4 ?l4 ?c4 ?k4 ?a5 ?l5 ?c5 ?k5 ?a6 ?l6 ?c6 ?k6 ?a7 ?l7 ?c7 ?k7 ?a8 ?l8 ?c8 ?k8 ?a9 ?l9 ?c9 ?k9 ?a10 ?l10 ?c10 ?k10 ?a11 ?l11 ?c11 ?k11 ?a12 ?l12 ?c12 ?k12 ?a13 ?l13 ?c13 ?k13 ?a14 ?l14 ?c14 ?k14 ?a15 ?l15 ?c15 ?k15 ?a16 ?l16 ?c16 ?k16 ?a17 ?l17 ?c17 ?k17 ?a18 ?l18 ?c18 ?k18 ?z_abs ?z_all ?z_bool ?z_int ?z_isinstance ?z_len ?z_range ?z_repr ?z_str ?z_tuple ?q_LETTERS ?i_gcd ?hnn ?htk ?bg_DealError ?br_DealError ?bs_DealError ?bi_DealError ?ag_NoText ?ax_NoText ?av_NoText ?as_NoText ?ae_NoText ?at_NoText ?ak_NoText ?al_NoText ?aa_NoText ?ah_NoText ?ac_NoText ?ao_NoText ?noint_NoText ?nobool_NoText ?nostr_NoText ?notuple_NoText ?nolist_NoText ?nodict_NoText ?ii_NoText ?it_NoText ?il_NoText ?ic_NoText ?ip_NoText ?nf0_NoText ?nf1_NoText
    (case a0 => k_is)
    (case l0 => k_is)
    (case c0 => k_is)
    (case k0 => k_is)
    (case a1 => k_is)
    (case l1 => k_is)
    (case c1 => k_is)
    (case k1 => k_is)
    (case a2 => k_is)
    (case l2 => k_is)
    (case c2 => k_is)
    (case k2 => k_is)
    (case a3 => k_is)
    (case l3 => k_is)
    (case c3 => k_is)
    (case k3 => k_is)
    (case a4 => k_is)
    (case l4 => k_is)
    (case c4 => k_is)
    (case k4 => k_is)
    (case a5 => k_is)
    (case l5 => k_is)
    (case c5 => k_is)
    (case k5 => k_is)
    (case a6 => k_is)
    (case l6 => k_is)
    (case c6 => k_is)
    (case k6 => k_is)
    (case a7 => k_is)
    (case l7 => k_is)
    (case c7 => k_is)
    (case k7 => k_is)
    (case a8 => k_is)
    (case l8 => k_is)
    (case c8 => k_is)
    (case k8 => k_is)
    (case a9 => k_is)
    (case l9 => k_is)
    (case c9 => k_is)
    (case k9 => k_is)
    (case a10 => k_is)
    (case l10 => k_is)
    (case c10 => k_is)
    (case k10 => k_is)
    (case a11 => k_is)
    (case l11 => k_is)
    (case c11 => k_is)
    (case k11 => k_is)
    (case a12 => k_is)
    (case l12 => k_is)
    (case c12 => k_is)
    (case k12 => k_is)
    (case a13 => k_is)
    (case l13 => k_is)
    (case c13 => k_is)
    (case k13 => k_is)
    (case a14 => k_is)
    (case l14 => k_is)
    (case c14 => k_is)
    (case k14 => k_is)
    (case a15 => k_is)
    (case l15 => k_is)
    (case c15 => k_is)
    (case k15 => k_is)
    (case a16 => k_is)
    (case l16 => k_is)
    (case c16 => k_is)
    (case k16 => k_is)
    (case a17 => k_is)
    (case l17 => k_is)
    (case c17 => k_is)
    (case k17 => k_is)
    (case a18 => k_is)
    (case l18 => k_is)
    (case c18 => k_is)
    (case k18 => k_is)
    (case z_abs => k_is)
    (case z_all => k_is)
    (case z_bool => k_is)
    (case z_int => k_is)
    (case z_isinstance => k_is)
    (case z_len => k_is)
    (case z_range => k_is)
    (case z_repr => k_is)
    (case z_str => k_is)
    (case z_tuple => k_is)
    (case q_LETTERS => k_is)
    (case i_gcd => k_is)
    (case hnn => k_is)
    (case htk => k_is)
    (case bg_DealError => k_is)
    (case br_DealError => k_is)
    (case bs_DealError => k_is)
    (case bi_DealError => k_is)
    (case ag_NoText => k_is)
    (case ax_NoText => k_is)
    (case av_NoText => first | rfl | decide +kernel | k_is)
    (case as_NoText => k_is)
    (case ae_NoText => k_is)
    (case at_NoText => k_is)
    (case ak_NoText => k_is)
    (case al_NoText => k_is)
    (case aa_NoText => k_is)
    (case ah_NoText => k_is)
    (case ac_NoText => k_is)
    (case ao_NoText => k_is)
    (case noint_NoText => first | rfl | k_is | kit_is)
    (case nobool_NoText => first | rfl | k_is | kit_is)
    (case nostr_NoText => first | rfl | k_is | kit_is)
    (case notuple_NoText => first | rfl | k_is | kit_is)
    (case nolist_NoText => first | rfl | k_is | kit_is)
    (case nodict_NoText => first | rfl | k_is | kit_is)
    (case ii_NoText => k_is)
    (case it_NoText => k_is)
    (case il_NoText => k_is)
    (case ic_NoText => k_is)
    (case ip_NoText => k_is)
    (case nf0_NoText => k_is)
    (case nf1_NoText => k_is)

