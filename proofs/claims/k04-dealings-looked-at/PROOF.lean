import PyProof.Rows.All
import Wide.All
import OpenK.AllK
import Wide.FinOn
import HandS.ForMost
import HandS.ForExc
import HandS.ExcInit
import HandS.Wide
import HandS.Gcd
import HandS.IsInst
import HandS.Conv
import HandS.Flow
import KE.KExcIs
import HandS.NoneIn
import HandS.Iter
import KE.DataEq
import HandS.TupAny
import HandS.Text
import HandS.More
import PyProof.ReprRoads
import HandS.ClsMeth
import HandS.Dict
import HandS.WordsDict
import HandS.Finally
import HandS.DictTup
import HandS.Strs
import HandS.DictComp
import HandS.Comp
import KE.KDictPairs
import PySem.Challenge.RW_partedmeet_k04_dealings_looked_at
set_option Elab.async false
set_option linter.all false
set_option maxRecDepth 100000
set_option maxHeartbeats 4000000
/-! Mi: a mirror of Python values without addresses over the hand layer: plain values by value, changing objects by number. -/
namespace Mi
open PySem PySem.Spec PyProof.Rows L2

/-- a mirrored value: data by value (rol: a list that is only read); ref i: the i-th changing object; opq: what is known by its V alone; exc: an error held as a value -/
inductive PV where
  | non | bl (b : Bool) | int (i : Int) | str (x : Str)
  | tup (xs : List PV) | lst (xs : List PV) | dic (kvs : List (PV × PV))
  | rol (xs : List PV) | ref (i : Nat) | opq (v : V) | exc (C : Addr) (fs : List (Str × PV))
/-- a changing object; loc: a dict that a loop walks -/
inductive MO where
  | lst (xs : List PV) | dic (kvs : List (PV × PV)) | loc (kvs : List (PV × PV))
abbrev Sto := List MO
abbrev MEnv := List (Option PV)
/-- a raised error -/
structure PX where
  cls : Addr
  fs : List (Str × PV)
inductive Res (α : Type) where
  | ok (a : α) (st : Sto)
  | exc (x : PX) (st : Sto)
abbrev M (α : Type) := MEnv → Sto → Option (Res α)

def M.bind {α β : Type} (m : M α) (f : α → M β) : M β := fun env st => match m env st with
  | some (.ok a st1) => f a env st1
  | some (.exc x st1) => some (.exc x st1)
  | none => none
def M.pure {α : Type} (a : α) : M α := fun _ st => some (.ok a st)

/-- the addresses of the changing objects, in their order; addresses that the mirror does not see -/
structure Wd where
  ρ : List Addr
  hid : List Addr
def Fz (W : Wd) (H : Hp) : Hp := fun a => if a ∈ W.ρ ∨ a ∈ W.hid then none else H a
theorem Fz_some {W : Wd} {H : Hp} {a : Addr} {o : HO} : Fz W H a = some o ↔ (a ∉ W.ρ ∧ a ∉ W.hid ∧ H a = some o) := by
  unfold Fz
  by_cases h : a ∈ W.ρ ∨ a ∈ W.hid
  · rw [if_pos h]
    constructor
    · intro q; cases q
    · rintro ⟨h1, h2, _⟩
      rcases h with h | h
      · exact absurd h h1
      · exact absurd h h2
  · rw [if_neg h]
    exact ⟨fun q => ⟨fun z => h (.inl z), fun z => h (.inr z), q⟩, fun q => q.2.2⟩
theorem Fz_le {W : Wd} {H : Hp} {a : Addr} {o : HO} (h : Fz W H a = some o) : H a = some o := (Fz_some.mp h).2.2

/-- the built-in kinds that are asked for -/
def kinds : List String := ["int", "bool", "str", "tuple", "list", "dict"]
/-- what an error's class must tell -/
structure ExK (K : PySem.W.Frag) (C : Addr) : Prop where
  ox : OexC K C
  cl : (PySem.W.clsIn K C).isSome = true
  ga : PySem.W.findIn K (.ref C) "__getattribute__" = some (some (.builtin "BaseException.__getattribute__"))
  gt : ∃ g, PySem.W.findIn K (.ref C) "__getattr__" = some g
  cc : PySem.W.findIn K (.ref C) "__class__" = some (some (.builtin "object.__class__"))
  nn : PySem.W.specialIn K (.builtin "object.__class__") "__get__" = some (some (.builtin "getset_descriptor.__get__"))
  tk : PySem.W.takesIn K (.builtin "object.__class__") = some true
  ob : PySem.W.mroIn K C (.type "object") = some true
  no : ∀ T ∈ kinds, PySem.W.kitOne K (.ref C) (.type T) = some false
def keyOf : PV → Option Key
  | .int i => some (.inl i)
  | .str x => some (.inr x)
  | _ => none

/-- a tuple without an own dict: frozen, or an object of the module -/
def SqN (K : PySem.W.Frag) (F : Hp) (a : Addr) (vs : List V) : Prop :=
  (∃ o : Obj, F a = some (.frz o (.tup vs)) ∧ o.dict = none) ∨
    ∃ (o : Obj) (its : Array Value) (n : Nat), K.lookup a = some o ∧ o.cls = .type "tuple" ∧ o.dict = none ∧ o.data = .seq its n ∧ its.size ≤ sizeLine ∧ Vals vs its.toList
theorem SqN.t {K : PySem.W.Frag} {F : Hp} {a : Addr} {vs : List V} (h : SqN K F a vs) : SqT K F a vs := by
  rcases h with ⟨o, h, _⟩ | ⟨o, its, n, h1, h2, _, h3⟩
  · exact .inl (.inr ⟨o, h⟩)
  · exact .inr ⟨o, its, n, h1, h2, h3⟩
theorem SqN.mono {K : PySem.W.Frag} {F F' : Hp} (h : ∀ a o, F a = some o → F' a = some o) {a : Addr} {xs : List V} (r : SqN K F a xs) : SqN K F' a xs := by
  rcases r with ⟨o, r, d⟩ | r
  · exact .inl ⟨o, h _ _ r, d⟩
  · exact .inr r

mutual
/-- the value v, in the heap F of what does not change, is x -/
def Rep (K : PySem.W.Frag) (F : Hp) (ρ : List Addr) : PV → V → Prop
  | .non, v => v = .non
  | .bl b, v => v = .bl b
  | .int i, v => v = .int i
  | .str x, v => v = .str x ∧ x.length ≤ sizeLine
  | .tup xs, v => ∃ a vs, v = .ref a ∧ SqN K F a vs ∧ RepL K F ρ xs vs ∧ xs.length ≤ sizeLine
  | .rol xs, v => ∃ a vs, v = .ref a ∧ SqL K F a vs ∧ RepL K F ρ xs vs ∧ xs.length ≤ sizeLine
  | .lst xs, v => ∃ a vs, v = .ref a ∧ F a = some (.lst vs) ∧ RepL K F ρ xs vs ∧ xs.length ≤ sizeLine
  | .dic ps, v => ∃ a ks, v = .ref a ∧ Rd F a (.dK ks) ∧ RepD K F ρ ps ks ∧ ps.length ≤ sizeLine
  | .ref i, v => ∃ a, v = .ref a ∧ ρ[i]? = some a
  | .opq w, v => v = w
  | .exc C fs, v => ExK K C ∧ ∃ a, v = .ref a ∧ ((fs = [] ∧ F a = some (exo a C none)) ∨ ∃ d ks, F a = some (exo a C (some d)) ∧ F d = some (exd d ks) ∧ RepF K F ρ fs ks)
def RepL (K : PySem.W.Frag) (F : Hp) (ρ : List Addr) : List PV → List V → Prop
  | [], vs => vs = []
  | x :: xs, vs => ∃ v r, vs = v :: r ∧ Rep K F ρ x v ∧ RepL K F ρ xs r
def RepD (K : PySem.W.Frag) (F : Hp) (ρ : List Addr) : List (PV × PV) → List (Key × V) → Prop
  | [], ks => ks = []
  | (k, x) :: ps, ks => ∃ kk v r, ks = (kk, v) :: r ∧ keyOf k = some kk ∧ Rep K F ρ x v ∧ RepD K F ρ ps r
def RepF (K : PySem.W.Frag) (F : Hp) (ρ : List Addr) : List (Str × PV) → List (Str × V) → Prop
  | [], ks => ks = []
  | (k, x) :: ps, ks => ∃ v r, ks = (k, v) :: r ∧ Rep K F ρ x v ∧ RepF K F ρ ps r
end

/-! ### worlds -/
structure Le (W : Wd) (H : Hp) (W' : Wd) (H' : Hp) : Prop where
  pre : W.ρ <+: W'.ρ
  hid : ∀ a ∈ W.hid, a ∈ W'.hid
  fz : ∀ a o, Fz W H a = some o → Fz W' H' a = some o
  keep : ∀ a ∈ W.hid, H' a = H a
  /-- what is locked stays -/
  loc : ∀ a ∈ W.ρ, ∀ od u, H a = some (.frz od u) → H' a = some (.frz od u)
theorem Le.refl (W : Wd) (H : Hp) : Le W H W H := ⟨List.prefix_refl _, fun _ h => h, fun _ _ h => h, fun _ _ => rfl, fun _ _ _ _ h => h⟩
theorem Le.trans {W W1 W2 : Wd} {H H1 H2 : Hp} (a : Le W H W1 H1) (b : Le W1 H1 W2 H2) : Le W H W2 H2 :=
  ⟨a.pre.trans b.pre, fun c hc => b.hid c (a.hid c hc), fun c o h => b.fz c o (a.fz c o h), fun c hc => (b.keep c (a.hid c hc)).trans (a.keep c hc), fun c hc od u h => b.loc c (a.pre.subset hc) od u (a.loc c hc od u h)⟩
theorem Rd.mono {F F' : Hp} (h : ∀ a o, F a = some o → F' a = some o) {a : Addr} {u : HO} (r : Rd F a u) : Rd F' a u := by
  rcases r with r | ⟨o, r⟩
  · exact .inl (h _ _ r)
  · exact .inr ⟨o, h _ _ r⟩
theorem SqT.mono {K : PySem.W.Frag} {F F' : Hp} (h : ∀ a o, F a = some o → F' a = some o) {a : Addr} {xs : List V} (r : SqT K F a xs) : SqT K F' a xs := by
  rcases r with r | r
  · exact .inl (Rd.mono h r)
  · exact .inr r
theorem SqL.mono {K : PySem.W.Frag} {F F' : Hp} (h : ∀ a o, F a = some o → F' a = some o) {a : Addr} {xs : List V} (r : SqL K F a xs) : SqL K F' a xs := by
  rcases r with r | r
  · exact .inl (Rd.mono h r)
  · exact .inr r
theorem pre_get {l l' : List Addr} (p : l <+: l') {i : Nat} {a : Addr} (h : l[i]? = some a) : l'[i]? = some a := by
  obtain ⟨t, rfl⟩ := p
  obtain ⟨hi, e⟩ := List.getElem?_eq_some_iff.mp h
  rw [List.getElem?_append_left hi]; exact h
section
variable {K : PySem.W.Frag} {F F' : Hp} {ρ ρ' : List Addr}
mutual
theorem Rep.mono (hF : ∀ a o, F a = some o → F' a = some o) (hρ : ρ <+: ρ') : ∀ (x : PV) (v : V), Rep K F ρ x v → Rep K F' ρ' x v
  | .non, v, h => by simp only [Rep] at h ⊢; exact h
  | .bl b, v, h => by simp only [Rep] at h ⊢; exact h
  | .int i, v, h => by simp only [Rep] at h ⊢; exact h
  | .str x, v, h => by simp only [Rep] at h ⊢; exact h
  | .tup xs, v, h => by
    simp only [Rep] at h ⊢
    obtain ⟨a, vs, e, hs, hl, hz⟩ := h
    exact ⟨a, vs, e, SqN.mono hF hs, RepL.mono hF hρ xs vs hl, hz⟩
  | .rol xs, v, h => by
    simp only [Rep] at h ⊢
    obtain ⟨a, vs, e, hs, hl, hz⟩ := h
    exact ⟨a, vs, e, SqL.mono hF hs, RepL.mono hF hρ xs vs hl, hz⟩
  | .lst xs, v, h => by
    simp only [Rep] at h ⊢
    obtain ⟨a, vs, e, hs, hl, hz⟩ := h
    exact ⟨a, vs, e, hF _ _ hs, RepL.mono hF hρ xs vs hl, hz⟩
  | .dic ps, v, h => by
    simp only [Rep] at h ⊢
    obtain ⟨a, ks, e, hs, hl, hz⟩ := h
    exact ⟨a, ks, e, Rd.mono hF hs, RepD.mono hF hρ ps ks hl, hz⟩
  | .ref i, v, h => by
    simp only [Rep] at h ⊢
    obtain ⟨a, e, hs⟩ := h
    exact ⟨a, e, pre_get hρ hs⟩
  | .opq w, v, h => by simp only [Rep] at h ⊢; exact h
  | .exc C fs, v, h => by
    simp only [Rep] at h ⊢
    obtain ⟨hk, a, e, h⟩ := h
    refine ⟨hk, a, e, ?_⟩
    rcases h with ⟨h0, h1⟩ | ⟨d, ks, h1, h2, hl⟩
    · exact .inl ⟨h0, hF _ _ h1⟩
    · exact .inr ⟨d, ks, hF _ _ h1, hF _ _ h2, RepF.mono hF hρ fs ks hl⟩
theorem RepL.mono (hF : ∀ a o, F a = some o → F' a = some o) (hρ : ρ <+: ρ') : ∀ (xs : List PV) (vs : List V), RepL K F ρ xs vs → RepL K F' ρ' xs vs
  | [], vs, h => by simp only [RepL] at h ⊢; exact h
  | x :: xs, vs, h => by
    simp only [RepL] at h ⊢
    obtain ⟨v, r, e, h1, h2⟩ := h
    exact ⟨v, r, e, Rep.mono hF hρ x v h1, RepL.mono hF hρ xs r h2⟩
theorem RepD.mono (hF : ∀ a o, F a = some o → F' a = some o) (hρ : ρ <+: ρ') : ∀ (ps : List (PV × PV)) (ks : List (Key × V)), RepD K F ρ ps ks → RepD K F' ρ' ps ks
  | [], ks, h => by simp only [RepD] at h ⊢; exact h
  | (k, x) :: ps, ks, h => by
    simp only [RepD] at h ⊢
    obtain ⟨kk, v, r, e, e2, h1, h2⟩ := h
    exact ⟨kk, v, r, e, e2, Rep.mono hF hρ x v h1, RepD.mono hF hρ ps r h2⟩
theorem RepF.mono (hF : ∀ a o, F a = some o → F' a = some o) (hρ : ρ <+: ρ') : ∀ (ps : List (Str × PV)) (ks : List (Str × V)), RepF K F ρ ps ks → RepF K F' ρ' ps ks
  | [], ks, h => by simp only [RepF] at h ⊢; exact h
  | (k, x) :: ps, ks, h => by
    simp only [RepF] at h ⊢
    obtain ⟨v, r, e, h1, h2⟩ := h
    exact ⟨v, r, e, Rep.mono hF hρ x v h1, RepF.mono hF hρ ps r h2⟩
end
end
/-- in a world -/
abbrev Rp (K : PySem.W.Frag) (W : Wd) (H : Hp) (x : PV) (v : V) : Prop := Rep K (Fz W H) W.ρ x v
abbrev RpL (K : PySem.W.Frag) (W : Wd) (H : Hp) (xs : List PV) (vs : List V) : Prop := RepL K (Fz W H) W.ρ xs vs
theorem Rp.le {K : PySem.W.Frag} {W W' : Wd} {H H' : Hp} {x : PV} {v : V} (h : Rp K W H x v) (l : Le W H W' H') : Rp K W' H' x v := Rep.mono l.fz l.pre x v h
theorem RpL.le {K : PySem.W.Frag} {W W' : Wd} {H H' : Hp} {x : List PV} {v : List V} (h : RpL K W H x v) (l : Le W H W' H') : RpL K W' H' x v := RepL.mono l.fz l.pre x v h
theorem RepL.len {K : PySem.W.Frag} {F : Hp} {ρ : List Addr} : ∀ {xs : List PV} {vs : List V}, RepL K F ρ xs vs → vs.length = xs.length
  | [], vs, h => by simp only [RepL] at h; subst h; rfl
  | x :: xs, vs, h => by
    simp only [RepL] at h
    obtain ⟨v, r, e, _, h2⟩ := h
    subst e
    simp only [List.length_cons, RepL.len h2]
theorem RepL.get {K : PySem.W.Frag} {F : Hp} {ρ : List Addr} : ∀ {xs : List PV} {vs : List V} {i : Nat} {x : PV}, RepL K F ρ xs vs → xs[i]? = some x → ∃ v, vs[i]? = some v ∧ Rep K F ρ x v
  | [], vs, i, x, h, e => by simp at e
  | y :: xs, vs, 0, x, h, e => by
    simp only [RepL] at h
    obtain ⟨v, r, rfl, h1, h2⟩ := h
    simp at e; subst e
    exact ⟨v, rfl, h1⟩
  | y :: xs, vs, i + 1, x, h, e => by
    simp only [RepL] at h
    obtain ⟨v, r, rfl, h1, h2⟩ := h
    obtain ⟨u, h3, h4⟩ := RepL.get (i := i) h2 (by simpa using e)
    exact ⟨u, by simpa using h3, h4⟩
theorem RepL.append {K : PySem.W.Frag} {F : Hp} {ρ : List Addr} : ∀ {xs ys : List PV} {vs ws : List V}, RepL K F ρ xs vs → RepL K F ρ ys ws → RepL K F ρ (xs ++ ys) (vs ++ ws)
  | [], ys, vs, ws, h, h' => by simp only [RepL] at h; subst h; exact h'
  | x :: xs, ys, vs, ws, h, h' => by
    simp only [RepL] at h
    obtain ⟨v, r, rfl, h1, h2⟩ := h
    simp only [List.cons_append, RepL]
    exact ⟨v, r ++ ws, rfl, h1, RepL.append h2 h'⟩
theorem RepL.nil {K : PySem.W.Frag} {F : Hp} {ρ : List Addr} : RepL K F ρ [] [] := by simp only [RepL]
theorem RepL.cons {K : PySem.W.Frag} {F : Hp} {ρ : List Addr} {x : PV} {v : V} {xs : List PV} {vs : List V} (h : Rep K F ρ x v) (t : RepL K F ρ xs vs) : RepL K F ρ (x :: xs) (v :: vs) := by
  simp only [RepL]; exact ⟨v, vs, rfl, h, t⟩

/-- a changing object stands at a -/
def ObR (K : PySem.W.Frag) (W : Wd) (H : Hp) : MO → Addr → Prop
  | .lst xs, a => ∃ vs, H a = some (.lst vs) ∧ RpL K W H xs vs ∧ xs.length ≤ sizeLine
  | .dic ps, a => ∃ ks, H a = some (.dK ks) ∧ RepD K (Fz W H) W.ρ ps ks ∧ ps.length ≤ sizeLine
  | .loc ps, a => ∃ ks, (∃ od, H a = some (.frz od (.dK ks))) ∧ RepD K (Fz W H) W.ρ ps ks ∧ ps.length ≤ sizeLine
structure SimS (K : PySem.W.Frag) (W : Wd) (st : Sto) (H : Hp) : Prop where
  len : W.ρ.length = st.length
  nd : W.ρ.Nodup
  dj : ∀ a ∈ W.ρ, a ∉ W.hid
  hs : ∀ a ∈ W.hid, H a ≠ none
  ob : ∀ (i : Nat) (o : MO) (a : Addr), st[i]? = some o → W.ρ[i]? = some a → ObR K W H o a
structure SlotR (K : PySem.W.Frag) (W : Wd) (H : Hp) (env : MEnv) (σ : L2.St) : Prop where
  len : env.length = σ.length
  get : ∀ (i : Nat) (x : PV), env[i]? = some (some x) → ∃ v, σ[i]? = some (some v) ∧ Rp K W H x v
theorem SlotR.le {K : PySem.W.Frag} {W W' : Wd} {H H' : Hp} {env : MEnv} {σ : L2.St} (h : SlotR K W H env σ) (l : Le W H W' H') : SlotR K W' H' env σ :=
  ⟨h.len, fun i x e => let ⟨v, h1, h2⟩ := h.get i x e; ⟨v, h1, h2.le l⟩⟩
theorem SlotR.set {K : PySem.W.Frag} {W : Wd} {H : Hp} {env : MEnv} {σ : L2.St} {x : PV} {v : V} (h : SlotR K W H env σ) (i : Nat) (r : Rp K W H x v) : SlotR K W H (env.set i (some x)) (σ.set i (some v)) := by
  refine ⟨by simp [h.len], fun j y e => ?_⟩
  by_cases hj : i = j
  · subst hj
    rw [List.getElem?_set] at e
    simp only [if_true] at e
    split at e
    · rename_i hl
      simp at e; subst e
      exact ⟨v, by rw [List.getElem?_set_self (by rw [← h.len]; exact hl)], r⟩
    · simp at e
  · rw [List.getElem?_set_ne hj] at e
    obtain ⟨u, h1, h2⟩ := h.get j y e
    exact ⟨u, by rw [List.getElem?_set_ne hj]; exact h1, h2⟩

/-- what an error that leaves looks like -/
def RepX (K : PySem.W.Frag) (W : Wd) (H : Hp) (x : PX) (cls : Value) (d : Option Addr) : Prop :=
  cls = .ref x.cls ∧ ∃ dd ks, d = some dd ∧ Fz W H dd = some (.xd ks) ∧ RepF K (Fz W H) W.ρ x.fs ks

/-- behind an expression, at a world: value, store; or an error -/
def tMr (K : PySem.W.Frag) (E : XK) (W : Wd) (H : Hp) (Q : VK) : Option (Res PV) → Prop
  | none => False
  | some (.ok x st) => ∀ u H' W', Le W H W' H' → SimS K W' st H' → Rp K W' H' x u → Q u H'
  | some (.exc x st) => ∀ cls d H' W', Le W H W' H' → SimS K W' st H' → RepX K W' H' x cls d → E cls d H'
def tMrB (K : PySem.W.Frag) (E : XK) (W : Wd) (H : Hp) (Q : Bool → Hp → Prop) : Option (Res Bool) → Prop
  | none => False
  | some (.ok x st) => ∀ H' W', Le W H W' H' → SimS K W' st H' → Q x H'
  | some (.exc x st) => ∀ cls d H' W', Le W H W' H' → SimS K W' st H' → RepX K W' H' x cls d → E cls d H'
def tMrL (K : PySem.W.Frag) (E : XK) (W : Wd) (H : Hp) (Q : List V → Hp → Prop) : Option (Res (List PV)) → Prop
  | none => False
  | some (.ok x st) => ∀ u H' W', Le W H W' H' → SimS K W' st H' → RpL K W' H' x u → Q u H'
  | some (.exc x st) => ∀ cls d H' W', Le W H W' H' → SimS K W' st H' → RepX K W' H' x cls d → E cls d H'
theorem tMr.le {K : PySem.W.Frag} {E : XK} {W W1 : Wd} {H H1 : Hp} {Q : VK} {r : Option (Res PV)} (l : Le W H W1 H1) (h : tMr K E W H Q r) : tMr K E W1 H1 Q r := by
  cases r with
  | none => exact h
  | some r =>
    cases r with
    | ok x st => exact fun u H' W' l' => h u H' W' (l.trans l')
    | exc x st => exact fun c d H' W' l' => h c d H' W' (l.trans l')
theorem tMrB.le {K : PySem.W.Frag} {E : XK} {W W1 : Wd} {H H1 : Hp} {Q : Bool → Hp → Prop} {r : Option (Res Bool)} (l : Le W H W1 H1) (h : tMrB K E W H Q r) : tMrB K E W1 H1 Q r := by
  cases r with
  | none => exact h
  | some r =>
    cases r with
    | ok x st => exact fun H' W' l' => h H' W' (l.trans l')
    | exc x st => exact fun c d H' W' l' => h c d H' W' (l.trans l')
theorem tMrL.le {K : PySem.W.Frag} {E : XK} {W W1 : Wd} {H H1 : Hp} {Q : List V → Hp → Prop} {r : Option (Res (List PV))} (l : Le W H W1 H1) (h : tMrL K E W H Q r) : tMrL K E W1 H1 Q r := by
  cases r with
  | none => exact h
  | some r =>
    cases r with
    | ok x st => exact fun u H' W' l' => h u H' W' (l.trans l')
    | exc x st => exact fun c d H' W' l' => h c d H' W' (l.trans l')

/-! ### readings by the mirror -/
abbrev EX := L2.St → XK
def tM (K : PySem.W.Frag) (E : EX) (m : M PV) : TE := fun σ H Q => ∃ W env st, SlotR K W H env σ ∧ SimS K W st H ∧ tMr K (E σ) W H Q (m env st)
def tMB (K : PySem.W.Frag) (E : EX) (m : M Bool) : TT := fun σ H Q => ∃ W env st, SlotR K W H env σ ∧ SimS K W st H ∧ tMrB K (E σ) W H Q (m env st)
def tML (K : PySem.W.Frag) (E : EX) (m : M (List PV)) : TA := fun σ H Q => ∃ W env st, SlotR K W H env σ ∧ SimS K W st H ∧ tMrL K (E σ) W H Q (m env st)
abbrev ME (X : Cx) (E : EX) (e : Expr) (m : M PV) : Prop := PE X e (tM X.K E m)
abbrev MT (X : Cx) (E : EX) (e : Expr) (m : M Bool) : Prop := PT X e (tMB X.K E m)
abbrev MA (X : Cx) (E : EX) (es : List Expr) (m : M (List PV)) : Prop := PA X es (tML X.K E m)
section
variable {X : Cx} {e : Expr}
theorem peW {t t' : TE} (h : PE X e t) (w : ∀ σ H Q, t' σ H Q → t σ H Q) : PE X e t' := ⟨fun pins s σ H Q I q => h.run pins s σ H Q I (w _ _ _ q)⟩
theorem ptW {t t' : TT} (h : PT X e t) (w : ∀ σ H Q, t' σ H Q → t σ H Q) : PT X e t' := ⟨fun pins s σ H Q I q => h.run pins s σ H Q I (w _ _ _ q)⟩
theorem pwW {t t' : TT} (h : PW X e t) (w : ∀ σ H Q, t' σ H Q → t σ H Q) : PW X e t' := ⟨fun wh pins s σ H Q I q => h.run wh pins s σ H Q I (w _ _ _ q)⟩
theorem paW {es : List Expr} {t t' : TA} (h : PA X es t) (w : ∀ σ H Q, t' σ H Q → t σ H Q) : PA X es t' := ⟨fun p pins s σ H Q I q => h.run p pins s σ H Q I (w _ _ _ q)⟩
end
section
variable {K : PySem.W.Frag} {E : EX} {W : Wd} {env : MEnv} {st : Sto} {σ : L2.St} {H : Hp} {Q : VK}
theorem bind_at {ma : M PV} {f : PV → M PV} {R : VK} (sl : SlotR K W H env σ) (ss : SimS K W st H) (h : tMr K (E σ) W H Q (M.bind ma f env st))
    (k : ∀ x u st1 W1 H1, Le W H W1 H1 → SlotR K W1 H1 env σ → SimS K W1 st1 H1 → Rp K W1 H1 x u → tMr K (E σ) W1 H1 Q (f x env st1) → R u H1) : tM K E ma σ H R := by
  refine ⟨W, env, st, sl, ss, ?_⟩
  unfold M.bind at h
  cases e : ma env st with
  | none => rw [e] at h; exact h
  | some r =>
    rw [e] at h
    cases r with
    | ok x st1 => exact fun u H1 W1 l ss1 rp => k x u st1 W1 H1 l (sl.le l) ss1 rp (h.le l)
    | exc x st1 => exact h
theorem bindB_at {ma : M PV} {f : PV → M Bool} {Q : Bool → Hp → Prop} {R : VK} (sl : SlotR K W H env σ) (ss : SimS K W st H) (h : tMrB K (E σ) W H Q (M.bind ma f env st))
    (k : ∀ x u st1 W1 H1, Le W H W1 H1 → SlotR K W1 H1 env σ → SimS K W1 st1 H1 → Rp K W1 H1 x u → tMrB K (E σ) W1 H1 Q (f x env st1) → R u H1) : tM K E ma σ H R := by
  refine ⟨W, env, st, sl, ss, ?_⟩
  unfold M.bind at h
  cases e : ma env st with
  | none => rw [e] at h; exact h
  | some r =>
    rw [e] at h
    cases r with
    | ok x st1 => exact fun u H1 W1 l ss1 rp => k x u st1 W1 H1 l (sl.le l) ss1 rp (h.le l)
    | exc x st1 => exact h
theorem bindT_at {ma : M Bool} {f : Bool → M PV} {R : Bool → Hp → Prop} (sl : SlotR K W H env σ) (ss : SimS K W st H) (h : tMr K (E σ) W H Q (M.bind ma f env st))
    (k : ∀ x st1 W1 H1, Le W H W1 H1 → SlotR K W1 H1 env σ → SimS K W1 st1 H1 → tMr K (E σ) W1 H1 Q (f x env st1) → R x H1) : tMB K E ma σ H R := by
  refine ⟨W, env, st, sl, ss, ?_⟩
  unfold M.bind at h
  cases e : ma env st with
  | none => rw [e] at h; exact h
  | some r =>
    rw [e] at h
    cases r with
    | ok x st1 => exact fun H1 W1 l ss1 => k x st1 W1 H1 l (sl.le l) ss1 (h.le l)
    | exc x st1 => exact h
theorem bindTB_at {ma : M Bool} {f : Bool → M Bool} {Q R : Bool → Hp → Prop} (sl : SlotR K W H env σ) (ss : SimS K W st H) (h : tMrB K (E σ) W H Q (M.bind ma f env st))
    (k : ∀ x st1 W1 H1, Le W H W1 H1 → SlotR K W1 H1 env σ → SimS K W1 st1 H1 → tMrB K (E σ) W1 H1 Q (f x env st1) → R x H1) : tMB K E ma σ H R := by
  refine ⟨W, env, st, sl, ss, ?_⟩
  unfold M.bind at h
  cases e : ma env st with
  | none => rw [e] at h; exact h
  | some r =>
    rw [e] at h
    cases r with
    | ok x st1 => exact fun H1 W1 l ss1 => k x st1 W1 H1 l (sl.le l) ss1 (h.le l)
    | exc x st1 => exact h
theorem bindL_at {ma : M (List PV)} {f : List PV → M PV} {R : List V → Hp → Prop} (sl : SlotR K W H env σ) (ss : SimS K W st H) (h : tMr K (E σ) W H Q (M.bind ma f env st))
    (k : ∀ x u st1 W1 H1, Le W H W1 H1 → SlotR K W1 H1 env σ → SimS K W1 st1 H1 → RpL K W1 H1 x u → tMr K (E σ) W1 H1 Q (f x env st1) → R u H1) : tML K E ma σ H R := by
  refine ⟨W, env, st, sl, ss, ?_⟩
  unfold M.bind at h
  cases e : ma env st with
  | none => rw [e] at h; exact h
  | some r =>
    rw [e] at h
    cases r with
    | ok x st1 => exact fun u H1 W1 l ss1 rp => k x u st1 W1 H1 l (sl.le l) ss1 rp (h.le l)
    | exc x st1 => exact h
theorem bindEL_at {ma : M PV} {f : PV → M (List PV)} {Q : List V → Hp → Prop} {R : VK} (sl : SlotR K W H env σ) (ss : SimS K W st H) (h : tMrL K (E σ) W H Q (M.bind ma f env st))
    (k : ∀ x u st1 W1 H1, Le W H W1 H1 → SlotR K W1 H1 env σ → SimS K W1 st1 H1 → Rp K W1 H1 x u → tMrL K (E σ) W1 H1 Q (f x env st1) → R u H1) : tM K E ma σ H R := by
  refine ⟨W, env, st, sl, ss, ?_⟩
  unfold M.bind at h
  cases e : ma env st with
  | none => rw [e] at h; exact h
  | some r =>
    rw [e] at h
    cases r with
    | ok x st1 => exact fun u H1 W1 l ss1 rp => k x u st1 W1 H1 l (sl.le l) ss1 rp (h.le l)
    | exc x st1 => exact h
theorem bindLL_at {ma : M (List PV)} {f : List PV → M (List PV)} {Q R : List V → Hp → Prop} (sl : SlotR K W H env σ) (ss : SimS K W st H) (h : tMrL K (E σ) W H Q (M.bind ma f env st))
    (k : ∀ x u st1 W1 H1, Le W H W1 H1 → SlotR K W1 H1 env σ → SimS K W1 st1 H1 → RpL K W1 H1 x u → tMrL K (E σ) W1 H1 Q (f x env st1) → R u H1) : tML K E ma σ H R := by
  refine ⟨W, env, st, sl, ss, ?_⟩
  unfold M.bind at h
  cases e : ma env st with
  | none => rw [e] at h; exact h
  | some r =>
    rw [e] at h
    cases r with
    | ok x st1 => exact fun u H1 W1 l ss1 rp => k x u st1 W1 H1 l (sl.le l) ss1 rp (h.le l)
    | exc x st1 => exact h
end
end Mi

/-! Mi2: names, constants, displays, and, or, not, if, comparisons, operators by values. -/
namespace Mi
open PySem PySem.Spec PyProof.Rows L2

section
variable {K : PySem.W.Frag} {W : Wd} {st : Sto} {H : Hp} {p : Addr} {o : HO}
theorem SimS.some_ρ (ss : SimS K W st H) {a : Addr} (h : a ∈ W.ρ) : ∃ o, H a = some o := by
  obtain ⟨i, hi, e⟩ := List.getElem_of_mem h
  have hi2 : i < st.length := by rw [← ss.len]; exact hi
  have q := ss.ob i st[i] a (List.getElem?_eq_getElem hi2) (by rw [List.getElem?_eq_getElem hi, e])
  cases hso : st[i] with
  | lst xs => rw [hso] at q; obtain ⟨vs, h1, _⟩ := q; exact ⟨_, h1⟩
  | dic ps => rw [hso] at q; obtain ⟨vs, h1, _⟩ := q; exact ⟨_, h1⟩
  | loc ps => rw [hso] at q; obtain ⟨vs, ⟨od, h1⟩, _⟩ := q; exact ⟨_, h1⟩
theorem SimS.new_ρ (ss : SimS K W st H) (h : H p = none) : p ∉ W.ρ := fun q => by
  obtain ⟨o, e⟩ := ss.some_ρ q
  rw [h] at e; cases e
theorem SimS.new_hid (ss : SimS K W st H) (h : H p = none) : p ∉ W.hid := fun q => ss.hs p q h
theorem Fz_upd_new (W : Wd) (H : Hp) (h : H p = none) : ∀ a o', Fz W H a = some o' → Fz W (upd H p o) a = some o' := fun a o' e => by
  obtain ⟨h1, h2, h3⟩ := Fz_some.mp e
  exact Fz_some.mpr ⟨h1, h2, by rw [upd_ne (ne_of_none h3 h)]; exact h3⟩
theorem Fz_at (ss : SimS K W st H) (h : H p = none) : Fz W (upd H p o) p = some o := Fz_some.mpr ⟨ss.new_ρ h, ss.new_hid h, upd_same⟩
theorem ObR.mono {W' : Wd} {H' : Hp} {m : MO} {a : Addr} (h : ObR K W H m a) (hF : ∀ a o, Fz W H a = some o → Fz W' H' a = some o) (hp : W.ρ <+: W'.ρ) (ha : H' a = H a) : ObR K W' H' m a := by
  cases m with
  | lst xs =>
    obtain ⟨vs, h1, h2, hz⟩ := h
    exact ⟨vs, ha.trans h1, RepL.mono hF hp xs vs h2, hz⟩
  | dic ps =>
    obtain ⟨vs, h1, h2, hz⟩ := h
    exact ⟨vs, ha.trans h1, RepD.mono hF hp ps vs h2, hz⟩
  | loc ps =>
    obtain ⟨vs, ⟨od, h1⟩, h2, hz⟩ := h
    exact ⟨vs, ⟨od, ha.trans h1⟩, RepD.mono hF hp ps vs h2, hz⟩
/-- a new object that the mirror does not change -/
theorem SimS.new (ss : SimS K W st H) (h : H p = none) : Le W H W (upd H p o) ∧ SimS K W st (upd H p o) := by
  have hF := Fz_upd_new (o := o) W H h
  refine ⟨⟨List.prefix_refl _, fun _ h => h, hF, fun a ha => upd_ne fun e => ss.new_hid h (by rw [← e]; exact ha), fun a _ od u e => by rw [upd_ne (ne_of_none e h)]; exact e⟩, ss.len, ss.nd, ss.dj, fun a ha => ?_, fun i m a e1 e2 => ?_⟩
  · rw [upd_ne fun e => ss.new_hid h (by rw [← e]; exact ha)]
    exact ss.hs a ha
  · exact (ss.ob i m a e1 e2).mono hF (List.prefix_refl _) (upd_ne fun e => ss.new_ρ h (by rw [← e]; exact List.mem_of_getElem? e2))
end

/-! ### names, constants -/
def mVar (i : Nat) : M PV := fun env st => match env[i]? with
  | some (some x) => some (.ok x st)
  | _ => none
def mC (x : PV) : M PV := fun _ st => some (.ok x st)
section
variable {X : Cx} {E : EX} {pos : Pos} {e a b c : Expr} {es : List Expr}
theorem m_var {i : Nat} {x : Str} (h : PE X (.Name x pos) (tVar i)) : ME X E (.Name x pos) (mVar i) := by
  refine peW h fun σ H Q q => ?_
  obtain ⟨W, env, st, sl, ss, q⟩ := q
  unfold mVar at q
  split at q
  · rename_i y e
    obtain ⟨v, h1, h2⟩ := sl.get _ _ e
    exact ⟨v, h1, q v H W (Le.refl _ _) ss h2⟩
  · exact q.elim
theorem m_c {x : PV} {v : V} (h : PE X e (tC v)) (hx : ∀ K F ρ, Rep K F ρ x v) : ME X E e (mC x) := by
  refine peW h fun σ H Q q => ?_
  obtain ⟨W, env, st, sl, ss, q⟩ := q
  exact q v H W (Le.refl _ _) ss (hx _ _ _)
theorem m_int {i j} : ME X E (.Constant (.int i) j pos) (mC (.int i)) := m_c pe_int fun _ _ _ => by simp only [Rep]
theorem m_bl {b j} : ME X E (.Constant (.bool b) j pos) (mC (.bl b)) := m_c pe_bl fun _ _ _ => by simp only [Rep]
theorem m_non {j} : ME X E (.Constant .none j pos) (mC .non) := m_c pe_non fun _ _ _ => by simp only [Rep]
theorem m_str {x j} (hz : x.length ≤ sizeLine := by decide) : ME X E (.Constant (.str x) j pos) (mC (.str x)) := m_c pe_str fun _ _ _ => by simp only [Rep, true_and]; exact hz
theorem m_glob {x : Str} {v : V} {u : Value} (hg : Gl X x) (hm : X.mg x = some u) (r : RelV v u) (hd : (x == ("__debug__" : Str)) = false := by decide) : ME X E (.Name x pos) (mC (.opq v)) :=
  m_c (pe_glob hg hm r hd) fun _ _ _ => by simp only [Rep]
theorem m_bltn {x : Str} {v : V} {u : Value} (hg : Gl X x) (hm : X.mg x = none) (hv : bootBuiltins x = some u) (r : RelV v u) (hn : x ≠ "__name__" := by decide) (hd : (x == ("__debug__" : Str)) = false := by decide) : ME X E (.Name x pos) (mC (.opq v)) :=
  m_c (pe_bltn hg hm hv r hn hd) fun _ _ _ => by simp only [Rep]
/-- a written text of the module -/
theorem m_gstr {x z : Str} {t : Tok} (hg : Gl X x) (hm : X.mg x = some (.str z t)) (hz : z.length ≤ sizeLine := by decide) (hd : (x == ("__debug__" : Str)) = false := by decide) : ME X E (.Name x pos) (mC (.str z)) :=
  m_c (v := .str z) (pe_glob hg hm ⟨t, rfl⟩ hd) fun _ _ _ => by simp only [Rep, true_and]; exact hz

/-! ### rows of expressions, displays -/
def mNil : M (List PV) := fun _ st => some (.ok [] st)
def mCons (m : M PV) (r : M (List PV)) : M (List PV) := m.bind fun x => r.bind fun xs => M.pure (x :: xs)
theorem m_nil : MA X E [] mNil := by
  refine paW pa_nil fun σ H Q q => ?_
  obtain ⟨W, env, st, sl, ss, q⟩ := q
  exact q [] H W (Le.refl _ _) ss RepL.nil
theorem m_cons {ma : M PV} {mr : M (List PV)} (ha : ME X E e ma) (hr : MA X E es mr) (hs : starEach (e :: es) X.env = (false, eval e X.env) :: starEach es X.env := by rfl) : MA X E (e :: es) (mCons ma mr) := by
  refine paW (pa_cons ha hr hs) fun σ H Q q => ?_
  obtain ⟨W, env, st, sl, ss, q⟩ := q
  refine bindEL_at sl ss q fun x u st1 W1 H1 l1 sl1 ss1 rx q1 => ?_
  refine bindLL_at sl1 ss1 q1 fun xs us st2 W2 H2 l2 sl2 ss2 rxs q2 => ?_
  exact q2 (u :: us) H2 W2 (Le.refl _ _) ss2 (RepL.cons (rx.le l2) rxs)
def mTup (m : M (List PV)) : M PV := m.bind fun xs => fun _ st => if xs.length ≤ sizeLine then some (.ok (.tup xs) st) else none
theorem new_tup {K : PySem.W.Frag} {W : Wd} {st : Sto} {H : Hp} {p : Addr} {xs : List PV} {vs : List V} {ob : Obj} (ss : SimS K W st H) (hp : H p = none) (hd : ob.dict = none) (r : RpL K W H xs vs) (hz : xs.length ≤ sizeLine) : Rp K W (upd H p (.frz ob (.tup vs))) (.tup xs) (.ref p) := by
  have l := (ss.new (o := .frz ob (.tup vs)) hp).1
  show Rep _ _ _ _ _
  simp only [Rep]
  exact ⟨p, vs, rfl, .inl ⟨ob, Fz_at ss hp, hd⟩, r.le l, hz⟩
theorem new_lst {K : PySem.W.Frag} {W : Wd} {st : Sto} {H : Hp} {p : Addr} {xs : List PV} {vs : List V} (ss : SimS K W st H) (hp : H p = none) (r : RpL K W H xs vs) (hz : xs.length ≤ sizeLine) : Rp K W (upd H p (.lst vs)) (.lst xs) (.ref p) := by
  have l := (ss.new (o := .lst vs) hp).1
  show Rep _ _ _ _ _
  simp only [Rep]
  exact ⟨p, vs, rfl, Fz_at ss hp, r.le l, hz⟩
/-- a written tuple: the object at its place is known -/
def tTupN (t : TA) : TE := fun σ H Q => t σ H fun xs H1 => xs.length ≤ sizeLine ∧ ∀ p (o : Obj), H1 p = none → o.dict = none → Q (.ref p) (upd H1 p (.frz o (.tup xs)))
theorem pe_tupN {X : Cx} {es : List Expr} {t : TA} {pos : Pos} {x1} (h : PA X es t) : PE X (.Tuple es x1 pos) (tTupN t) := by
  refine ⟨fun pins s σ H Q I hq => ?_⟩
  refine wpAny_Tuple_spliced (thn (h.run pos pins s σ H _ I hq) fun us s1 ⟨xs, H1, I1, r, z, q⟩ => ⟨by rw [← r.length]; exact z, ?_⟩)
  have hf : H1 s1.heap.objs.size = none := I1.hok.fresh (Nat.le_refl _)
  refine ⟨.ref s1.heap.objs.size, upd H1 s1.heap.objs.size (.frz { cls := .type "tuple", data := .seq us.toArray } (.tup xs)), I1.laid (t' := s1.toks) (fun b u e => Heap.get?_push_of_some _ e) (Nat.le_refl _) ?_, rfl, q _ _ hf rfl⟩
  exact ⟨Heap.get?_push_size _ rfl, z, us, r, ⟨_, Heap.get?_push_size _ rfl, rfl, _, rfl⟩⟩
theorem m_tup {x1} {ma : M (List PV)} (h : MA X E es ma) : ME X E (.Tuple es x1 pos) (mTup ma) := by
  refine peW (pe_tupN h) fun σ H Q q => ?_
  obtain ⟨W, env, st, sl, ss, q⟩ := q
  refine bindL_at sl ss q fun xs us st1 W1 H1 l1 sl1 ss1 rx q1 => ?_
  split at q1
  · rename_i hl
    refine ⟨by rw [rx.len]; exact hl, fun p ob hp hd => ?_⟩
    obtain ⟨l2, ss2⟩ := ss1.new (o := .frz ob (.tup us)) hp
    exact q1 _ _ W1 l2 ss2 (new_tup ss1 hp hd rx hl)
  · exact q1.elim

/-! ### new lists: by value, or as a changing object -/
/-- a new list at p, that nothing else knows of -/
def tMFr (K : PySem.W.Frag) (E : XK) (W : Wd) (H : Hp) (Q : VK) : Option (Res (List PV)) → Prop
  | none => False
  | some (.ok xs st) => ∀ p us H' W', Le W H W' H' → SimS K W' st H' → RpL K W' H' xs us → xs.length ≤ sizeLine → H' p = none → Q (.ref p) (upd H' p (.lst us))
  | some (.exc x st) => ∀ cls d H' W', Le W H W' H' → SimS K W' st H' → RepX K W' H' x cls d → E cls d H'
theorem tMFr.le {K : PySem.W.Frag} {E : XK} {W W1 : Wd} {H H1 : Hp} {Q : VK} {r : Option (Res (List PV))} (l : Le W H W1 H1) (h : tMFr K E W H Q r) : tMFr K E W1 H1 Q r := by
  cases r with
  | none => exact h
  | some r =>
    cases r with
    | ok x st => exact fun p us H' W' l' => h p us H' W' (l.trans l')
    | exc x st => exact fun c d H' W' l' => h c d H' W' (l.trans l')
def tMF (K : PySem.W.Frag) (E : EX) (m : M (List PV)) : TE := fun σ H Q => ∃ W env st, SlotR K W H env σ ∧ SimS K W st H ∧ tMFr K (E σ) W H Q (m env st)
abbrev MF (X : Cx) (E : EX) (e : Expr) (m : M (List PV)) : Prop := PE X e (tMF X.K E m)
/-- a new list by value -/
def mNew (m : M (List PV)) : M PV := m.bind fun xs => M.pure (.lst xs)
theorem m_new {ma : M (List PV)} (h : MF X E e ma) : ME X E e (mNew ma) := by
  refine peW h fun σ H Q q => ?_
  obtain ⟨W, env, st, sl, ss, q⟩ := q
  refine ⟨W, env, st, sl, ss, ?_⟩
  unfold mNew M.bind at q
  cases e : ma env st with
  | none => rw [e] at q; exact q
  | some r =>
    rw [e] at q
    cases r with
    | exc x st1 => exact q
    | ok xs st1 =>
      intro p us H' W' l s r hz hp
      obtain ⟨l2, ss2⟩ := s.new (o := .lst us) hp
      exact q _ _ W' (l.trans l2) ss2 (new_lst s hp r hz)
def mLst (m : M (List PV)) : M (List PV) := m.bind fun xs => fun _ st => if xs.length ≤ sizeLine then some (.ok xs st) else none
theorem bindF_at {K : PySem.W.Frag} {W : Wd} {env : MEnv} {st : Sto} {σ : L2.St} {H : Hp} {Q : VK} {ma : M (List PV)} {f : List PV → M (List PV)} {R : List V → Hp → Prop} (sl : SlotR K W H env σ) (ss : SimS K W st H) (h : tMFr K (E σ) W H Q (M.bind ma f env st))
    (k : ∀ x u st1 W1 H1, Le W H W1 H1 → SlotR K W1 H1 env σ → SimS K W1 st1 H1 → RpL K W1 H1 x u → tMFr K (E σ) W1 H1 Q (f x env st1) → R u H1) : tML K E ma σ H R := by
  refine ⟨W, env, st, sl, ss, ?_⟩
  unfold M.bind at h
  cases e : ma env st with
  | none => rw [e] at h; exact h
  | some r =>
    rw [e] at h
    cases r with
    | ok x st1 =>
      intro u H1 W1 l ss1 rp
      exact k x u st1 W1 H1 l (sl.le l) ss1 rp (tMFr.le l h)
    | exc x st1 => exact h
theorem f_lst {ma : M (List PV)} (h : MA X E es ma) : MF X E (.List es pos) (mLst ma) := by
  refine peW (pe_lst h) fun σ H Q q => ?_
  obtain ⟨W, env, st, sl, ss, q⟩ := q
  refine bindF_at sl ss q fun xs us st1 W1 H1 l1 sl1 ss1 rx q1 => ?_
  split at q1
  · rename_i hl
    exact ⟨by rw [rx.len]; exact hl, fun p hp => q1 p us H1 W1 (Le.refl _ _) ss1 rx hl hp⟩
  · exact q1.elim

/-! ### tests -/
def mTst (m : M PV) : M Bool := m.bind fun x => fun _ st => match x with
  | .bl b => some (.ok b st)
  | _ => none
def mAndT (a b : M Bool) : M Bool := a.bind fun c => if c then b else M.pure false
def mOrT (a b : M Bool) : M Bool := a.bind fun c => if c then M.pure true else b
def mNotT (a : M Bool) : M Bool := a.bind fun c => M.pure (!c)
def mAnd (a b : M PV) : M PV := (mTst a).bind fun c => if c then b else M.pure (.bl false)
def mOr (a b : M PV) : M PV := (mTst a).bind fun c => if c then M.pure (.bl true) else b
def mNot (a : M PV) : M PV := (mTst a).bind fun c => M.pure (.bl (!c))
def mIf (c : M Bool) (a b : M PV) : M PV := c.bind fun c => if c then a else b
theorem Rep.bl_inv {K : PySem.W.Frag} {F : Hp} {ρ : List Addr} {b : Bool} {v : V} (h : Rep K F ρ (.bl b) v) : v = .bl b := by simpa only [Rep] using h
theorem rep_bl {K : PySem.W.Frag} {F : Hp} {ρ : List Addr} {b : Bool} : Rep K F ρ (.bl b) (.bl b) := by simp only [Rep]
theorem tTest_of {K : PySem.W.Frag} {m : M PV} {σ : L2.St} {H : Hp} {Q : Bool → Hp → Prop} (h : tMB K E (mTst m) σ H Q) : tM K E m σ H fun x H' => ∃ k, x = .bl k ∧ Q k H' := by
  obtain ⟨W, env, st, sl, ss, q⟩ := h
  refine bindB_at sl ss q fun x u st1 W1 H1 l1 sl1 ss1 rx q1 => ?_
  split at q1
  · exact ⟨_, rx.bl_inv, q1 H1 W1 (Le.refl _ _) ss1⟩
  · exact q1.elim
theorem m_andT {ta tb : M Bool} {rest : List Expr} (ha : MT X E a ta) (hb : PW X (.BoolOp .And (b :: rest) pos) (tMB X.K E tb)) : PW X (.BoolOp .And (a :: b :: rest) pos) (tMB X.K E (mAndT ta tb)) := by
  refine pwW (pw_and ha hb) fun σ H Q q => ?_
  obtain ⟨W, env, st, sl, ss, q⟩ := q
  refine bindTB_at sl ss q fun x st1 W1 H1 l1 sl1 ss1 q1 => ?_
  cases x with
  | true => exact ⟨W1, env, st1, sl1, ss1, q1⟩
  | false => exact q1 H1 W1 (Le.refl _ _) ss1
theorem m_orT {ta tb : M Bool} {rest : List Expr} (ha : MT X E a ta) (hb : PW X (.BoolOp .Or (b :: rest) pos) (tMB X.K E tb)) : PW X (.BoolOp .Or (a :: b :: rest) pos) (tMB X.K E (mOrT ta tb)) := by
  refine pwW (pw_or ha hb) fun σ H Q q => ?_
  obtain ⟨W, env, st, sl, ss, q⟩ := q
  refine bindTB_at sl ss q fun x st1 W1 H1 l1 sl1 ss1 q1 => ?_
  cases x with
  | false => exact ⟨W1, env, st1, sl1, ss1, q1⟩
  | true => exact q1 H1 W1 (Le.refl _ _) ss1
theorem m_notT {ta : M Bool} (ha : MT X E a ta) : MT X E (.UnaryOp .Not a pos) (mNotT ta) := by
  refine ptW (pt_not ha) fun σ H Q q => ?_
  obtain ⟨W, env, st, sl, ss, q⟩ := q
  exact bindTB_at sl ss q fun x st1 W1 H1 l1 sl1 ss1 q1 => q1 H1 W1 (Le.refl _ _) ss1
theorem m_and {ta tb : M PV} {rest : List Expr} (ha : ME X E a ta) (hb : ME X E (.BoolOp .And (b :: rest) pos) tb) : ME X E (.BoolOp .And (a :: b :: rest) pos) (mAnd ta tb) := by
  refine peW (pe_and ha hb) fun σ H Q q => ?_
  obtain ⟨W, env, st, sl, ss, q⟩ := q
  refine tTest_of (bindT_at sl ss q fun x st1 W1 H1 l1 sl1 ss1 q1 => ?_)
  cases x with
  | true => exact ⟨W1, env, st1, sl1, ss1, q1⟩
  | false => exact q1 _ H1 W1 (Le.refl _ _) ss1 rep_bl
theorem m_or {ta tb : M PV} {rest : List Expr} (ha : ME X E a ta) (hb : ME X E (.BoolOp .Or (b :: rest) pos) tb) : ME X E (.BoolOp .Or (a :: b :: rest) pos) (mOr ta tb) := by
  refine peW (pe_or ha hb) fun σ H Q q => ?_
  obtain ⟨W, env, st, sl, ss, q⟩ := q
  refine tTest_of (bindT_at sl ss q fun x st1 W1 H1 l1 sl1 ss1 q1 => ?_)
  cases x with
  | false => exact ⟨W1, env, st1, sl1, ss1, q1⟩
  | true => exact q1 _ H1 W1 (Le.refl _ _) ss1 rep_bl
theorem m_not {ta : M PV} (ha : ME X E a ta) : ME X E (.UnaryOp .Not a pos) (mNot ta) := by
  refine peW (pe_not ha) fun σ H Q q => ?_
  obtain ⟨W, env, st, sl, ss, q⟩ := q
  exact tTest_of (bindT_at sl ss q fun x st1 W1 H1 l1 sl1 ss1 q1 => q1 _ H1 W1 (Le.refl _ _) ss1 rep_bl)
theorem m_if {tc : M Bool} {ta tb : M PV} (hc : MT X E c tc) (ha : ME X E a ta) (hb : ME X E b tb) : ME X E (.IfExp c a b pos) (mIf tc ta tb) := by
  refine peW (pe_ifExp hc ha hb) fun σ H Q q => ?_
  obtain ⟨W, env, st, sl, ss, q⟩ := q
  refine bindT_at sl ss q fun x st1 W1 H1 l1 sl1 ss1 q1 => ?_
  cases x with
  | true => exact ⟨W1, env, st1, sl1, ss1, q1⟩
  | false => exact ⟨W1, env, st1, sl1, ss1, q1⟩
/-- a value that is a bool, as a test -/
theorem m_val {m : M PV} (h : ME X E e m) (he : ∀ whole, isTrue e X.env whole = (do let v ← whole; standAt e.pos; holding [v] (truthy v)) := by intro _; rfl) : MT X E e (mTst m) := by
  refine ptW (pt_val h he) fun σ H Q q => ?_
  exact tTest_of q

/-! ### operations by values: the mirror's o (the store is only read) -/
abbrev O2 := PV → PV → Sto → Option PV
/-- what a two-place operation must answer -/
def rM2 (K : PySem.W.Frag) (o : O2) : R2 := fun u v H Q => ∃ W st x y z, SimS K W st H ∧ Rp K W H x u ∧ Rp K W H y v ∧ o x y st = some z ∧
  ∀ w H', Le W H W H' → SimS K W st H' → Rp K W H' z w → Q w H'
def mOp (o : O2) (a b : M PV) : M PV := a.bind fun x => b.bind fun y => fun _ st => (o x y st).map fun z => .ok z st
theorem op_body {K : PySem.W.Frag} {o : O2} {ta tb : M PV} {σ : L2.St} {H : Hp} {Q : VK} (q : tM K E (mOp o ta tb) σ H Q) : tOp (rM2 K o) (tM K E ta) (tM K E tb) σ H Q := by
  obtain ⟨W, env, st, sl, ss, q⟩ := q
  refine bind_at sl ss q fun x u st1 W1 H1 l1 sl1 ss1 rx q1 => ?_
  refine bind_at sl1 ss1 q1 fun y v st2 W2 H2 l2 sl2 ss2 ry q2 => ?_
  cases e : o x y st2 with
  | none => rw [e] at q2; exact q2.elim
  | some z =>
    rw [e] at q2
    exact ⟨W2, st2, x, y, z, ss2, rx.le l2, ry, e, fun w H' l s r => q2 w H' W2 l s r⟩
theorem m_op {op : Operator} {o : O2} {ta tb : M PV} (ho : OpR X (binaryOp op) (rM2 X.K o)) (ha : ME X E a ta) (hb : ME X E b tb) : ME X E (.BinOp a op b pos) (mOp o ta tb) :=
  peW (pe_op ho ha hb) fun _ _ _ q => op_body q
theorem m_cmp {op : CmpOp} {o : O2} {ta tb : M PV} (ho : OpR X (compareOp op) (rM2 X.K o)) (ha : ME X E a ta) (hb : ME X E b tb) (hm : behindInMarks op b = false) : ME X E (.Compare a [op] [b] pos) (mOp o ta tb) :=
  peW (pe_cmpR ho ha hb hm) fun _ _ _ q => op_body q
theorem m_cmpT {op : CmpOp} {o : O2} {ta tb : M PV} (ho : OpR X (compareOp op) (rM2 X.K o)) (ha : ME X E a ta) (hb : ME X E b tb) (hm : behindInMarks op b = false) : MT X E (.Compare a [op] [b] pos) (mTst (mOp o ta tb)) := by
  refine ptW (pt_cmpR ho ha hb hm) fun σ H Q q => ?_
  obtain ⟨W, env, st, sl, ss, q⟩ := q
  unfold tTest
  refine op_body (E := E) ⟨W, env, st, sl, ss, ?_⟩
  unfold mTst M.bind at q
  cases e : mOp o ta tb env st with
  | none => rw [e] at q; exact q.elim
  | some r =>
    rw [e] at q
    cases r with
    | exc x st1 => exact q
    | ok x st1 =>
      intro u H' W' l s r
      cases x with
      | bl b => exact ⟨_, r.bl_inv, q H' W' l s⟩
      | _ => exact q.elim
theorem m_ix {o : O2} {ta tb : M PV} (ho : IxR X (rM2 X.K o)) (ha : ME X E a ta) (hb : ME X E b tb) (hs : PlainIx b) : ME X E (.Subscript a b pos) (mOp o ta tb) :=
  peW (pe_ix ho ha hb hs) fun _ _ _ q => op_body q
/-- one place -/
abbrev O1 := PV → Sto → Option PV
def rM1 (K : PySem.W.Frag) (o : O1) : V → Hp → VK → Prop := fun u H Q => ∃ W st x z, SimS K W st H ∧ Rp K W H x u ∧ o x st = some z ∧ ∀ w H', Le W H W H' → SimS K W st H' → Rp K W H' z w → Q w H'
def mUn (o : O1) (a : M PV) : M PV := a.bind fun x => fun _ st => (o x st).map fun z => .ok z st
theorem m_un {op : UnaryOp} {o : O1} {ta : M PV} (ho : UnR X (unaryOp op) (rM1 X.K o)) (ha : ME X E a ta) : ME X E (.UnaryOp op a pos) (mUn o ta) := by
  refine peW (pe_un ho ha) fun σ H Q q => ?_
  obtain ⟨W, env, st, sl, ss, q⟩ := q
  refine bind_at sl ss q fun x u st1 W1 H1 l1 sl1 ss1 rx q1 => ?_
  cases e : o x st1 with
  | none => rw [e] at q1; exact q1.elim
  | some z =>
    rw [e] at q1
    exact ⟨W1, st1, x, z, ss1, rx, e, fun w H' l s r => q1 w H' W1 l s r⟩
/-- a call of what is built in, by values -/
abbrev OL := List PV → Sto → Option PV
def rML (K : PySem.W.Frag) (o : OL) : List V → Hp → VK → Prop := fun us H Q => ∃ W st xs z, SimS K W st H ∧ RpL K W H xs us ∧ o xs st = some z ∧ ∀ w H', Le W H W H' → SimS K W st H' → Rp K W H' z w → Q w H'
def mCl (o : OL) (a : M (List PV)) : M PV := a.bind fun xs => fun _ st => (o xs st).map fun z => .ok z st
theorem cl_body {K : PySem.W.Frag} {o : OL} {ta : M (List PV)} {σ : L2.St} {H : Hp} {Q : VK} (q : tM K E (mCl o ta) σ H Q) : tCB (rML K o) (tML K E ta) σ H Q := by
  obtain ⟨W, env, st, sl, ss, q⟩ := q
  refine bindL_at sl ss q fun x u st1 W1 H1 l1 sl1 ss1 rx q1 => ?_
  cases e : o x st1 with
  | none => rw [e] at q1; exact q1.elim
  | some z =>
    rw [e] at q1
    exact ⟨W1, st1, x, z, ss1, rx, e, fun w H' l s r => q1 w H' W1 l s r⟩
theorem m_callB {id : String} {x : Str} {p : Pos} {o : OL} {ta : M (List PV)} (hc : CallR X (.builtin id) (rML X.K o)) (hg : Gl X x) (hm : X.mg x = none) (hv : bootBuiltins x = some (.builtin id)) (ha : MA X E (e :: es) ta)
    (hn : x ≠ "__name__" := by decide) (hdb : (x == ("__debug__" : Str)) = false := by decide)
    (he : starEach (e :: es) X.env = (false, eval e X.env) :: starEach es X.env := by rfl) (hpl : (backTo pos (starEach es X.env)).any (·.1) = false := by rfl) : ME X E (.Call (.Name x p) (e :: es) [] pos) (mCl o ta) :=
  peW (pe_callB hc hg hm hv ha hn hdb he hpl) fun _ _ _ q => cl_body q
theorem m_callTy {T : String} {x : Str} {p : Pos} {o : OL} {ta : M (List PV)} (hc : CallR X (.type T) (rML X.K o)) (hg : Gl X x) (hm : X.mg x = none) (hv : bootBuiltins x = some (.type T)) (ha : MA X E (e :: es) ta)
    (hn : x ≠ "__name__" := by decide) (hdb : (x == ("__debug__" : Str)) = false := by decide)
    (he : starEach (e :: es) X.env = (false, eval e X.env) :: starEach es X.env := by rfl) (hpl : (backTo pos (starEach es X.env)).any (·.1) = false := by rfl) : ME X E (.Call (.Name x p) (e :: es) [] pos) (mCl o ta) :=
  peW (pe_callTy hc hg hm hv ha hn hdb he hpl) fun _ _ _ q => cl_body q
end
end Mi

/-! Mi3: statements, targets, what is walked, for, comprehensions, calls, defs. -/
namespace Mi
open PySem PySem.Spec PyProof.Rows L2

inductive SRes where
  | next (env : MEnv) (st : Sto) | ret (v : PV) (st : Sto) | brk (env : MEnv) (st : Sto) | cont (env : MEnv) (st : Sto)
  | exc (x : PX) (env : MEnv) (st : Sto)
abbrev MS := MEnv → Sto → Option SRes
def M.bindS {α : Type} (m : M α) (f : α → MS) : MS := fun env st => match m env st with
  | some (.ok a st1) => f a env st1
  | some (.exc x st1) => some (.exc x env st1)
  | none => none
def mSeq (a b : MS) : MS := fun env st => match a env st with
  | some (.next env1 st1) => b env1 st1
  | r => r
def mSkip : MS := fun env st => some (.next env st)
def tSr (K : PySem.W.Frag) (E : EX) (W : Wd) (H : Hp) (D : Ends) : Option SRes → Prop
  | none => False
  | some (.next env st) => ∀ σ' H' W', Le W H W' H' → SlotR K W' H' env σ' → SimS K W' st H' → D.nx σ' H'
  | some (.brk env st) => ∀ σ' H' W', Le W H W' H' → SlotR K W' H' env σ' → SimS K W' st H' → D.bk σ' H'
  | some (.cont env st) => ∀ σ' H' W', Le W H W' H' → SlotR K W' H' env σ' → SimS K W' st H' → D.ct σ' H'
  | some (.ret x st) => ∀ u H' W', Le W H W' H' → SimS K W' st H' → Rp K W' H' x u → D.rt u H'
  | some (.exc x env st) => ∀ σ' cls d H' W', Le W H W' H' → SlotR K W' H' env σ' → SimS K W' st H' → RepX K W' H' x cls d → E σ' cls d H'
theorem tSr.le {K : PySem.W.Frag} {E : EX} {W W1 : Wd} {H H1 : Hp} {D : Ends} {r : Option SRes} (l : Le W H W1 H1) (h : tSr K E W H D r) : tSr K E W1 H1 D r := by
  cases r with
  | none => exact h
  | some r =>
    cases r with
    | next env st => exact fun σ' H' W' l' => h σ' H' W' (l.trans l')
    | brk env st => exact fun σ' H' W' l' => h σ' H' W' (l.trans l')
    | cont env st => exact fun σ' H' W' l' => h σ' H' W' (l.trans l')
    | ret x st => exact fun u H' W' l' => h u H' W' (l.trans l')
    | exc x env st => exact fun σ' c d H' W' l' => h σ' c d H' W' (l.trans l')
def tMS (K : PySem.W.Frag) (E : EX) (m : MS) : TS := fun D σ H => ∃ W env st, SlotR K W H env σ ∧ SimS K W st H ∧ tSr K E W H D (m env st)
abbrev MSt (X : Cx) (E : EX) (s : Stmt) (m : MS) : Prop := PS X s (tMS X.K E m)
abbrev MSs (X : Cx) (E : EX) (s : List Stmt) (m : MS) : Prop := PSs X s (tMS X.K E m)
section
variable {X : Cx} {e : Expr}
theorem psW {s : Stmt} {t t' : TS} (h : PS X s t) (w : ∀ D σ H, t' D σ H → t D σ H) : PS X s t' := ⟨fun pins s σ H D I q => h.run pins s σ H D I (w _ _ _ q)⟩
theorem pssW {s : List Stmt} {t t' : TS} (h : PSs X s t) (w : ∀ D σ H, t' D σ H → t D σ H) : PSs X s t' := ⟨fun pins s σ H D I q => h.run pins s σ H D I (w _ _ _ q)⟩
theorem pgW {s : Expr} {t t' : TG} (h : PG X s t) (w : ∀ v σ H Q, t' v σ H Q → t v σ H Q) : PG X s t' := ⟨fun pins s σ H v u Q I r q => h.run pins s σ H v u Q I r (w _ _ _ _ q)⟩
theorem pgsW {s : List Expr} {t t' : TGs} (h : PGs X s t) (w : ∀ v σ H Q, t' v σ H Q → t v σ H Q) : PGs X s t' := ⟨fun pins s σ H v u Q I r q => h.run pins s σ H v u Q I r (w _ _ _ _ q)⟩
theorem piW {tg it : Expr} {t t' : TI} (h : PI X tg it t) (w : ∀ σ H R, t' σ H R → t σ H R) : PI X tg it t' := ⟨fun pins s σ H R I q => h.run pins s σ H R I (w _ _ _ q)⟩
end
section
variable {K : PySem.W.Frag} {E : EX} {W : Wd} {env : MEnv} {st : Sto} {σ : L2.St} {H : Hp} {D : Ends}
theorem bindS_at {ma : M PV} {f : PV → MS} {R : VK} (sl : SlotR K W H env σ) (ss : SimS K W st H) (h : tSr K E W H D (M.bindS ma f env st))
    (k : ∀ x u st1 W1 H1, Le W H W1 H1 → SlotR K W1 H1 env σ → SimS K W1 st1 H1 → Rp K W1 H1 x u → tSr K E W1 H1 D (f x env st1) → R u H1) : tM K E ma σ H R := by
  refine ⟨W, env, st, sl, ss, ?_⟩
  unfold M.bindS at h
  cases e : ma env st with
  | none => rw [e] at h; exact h
  | some r =>
    rw [e] at h
    cases r with
    | ok x st1 => exact fun u H1 W1 l ss1 rp => k x u st1 W1 H1 l (sl.le l) ss1 rp (h.le l)
    | exc x st1 => exact fun c d H' W' l s rx => h σ c d H' W' l (sl.le l) s rx
theorem bindBS_at {ma : M Bool} {f : Bool → MS} {R : Bool → Hp → Prop} (sl : SlotR K W H env σ) (ss : SimS K W st H) (h : tSr K E W H D (M.bindS ma f env st))
    (k : ∀ x st1 W1 H1, Le W H W1 H1 → SlotR K W1 H1 env σ → SimS K W1 st1 H1 → tSr K E W1 H1 D (f x env st1) → R x H1) : tMB K E ma σ H R := by
  refine ⟨W, env, st, sl, ss, ?_⟩
  unfold M.bindS at h
  cases e : ma env st with
  | none => rw [e] at h; exact h
  | some r =>
    rw [e] at h
    cases r with
    | ok x st1 => exact fun H1 W1 l ss1 => k x st1 W1 H1 l (sl.le l) ss1 (h.le l)
    | exc x st1 => exact fun c d H' W' l s rx => h σ c d H' W' l (sl.le l) s rx
theorem bindFS_at {ma : M (List PV)} {f : List PV → MS} {R : VK} (sl : SlotR K W H env σ) (ss : SimS K W st H) (h : tSr K E W H D (M.bindS ma f env st))
    (k : ∀ xs p us st1 W1 H1, Le W H W1 H1 → SlotR K W1 H1 env σ → SimS K W1 st1 H1 → RpL K W1 H1 xs us → xs.length ≤ sizeLine → H1 p = none → tSr K E W1 H1 D (f xs env st1) → R (.ref p) (upd H1 p (.lst us))) : tMF K E ma σ H R := by
  refine ⟨W, env, st, sl, ss, ?_⟩
  unfold M.bindS at h
  cases e : ma env st with
  | none => rw [e] at h; exact h
  | some r =>
    rw [e] at h
    cases r with
    | ok xs st1 => exact fun p us H1 W1 l ss1 rp hz hp => k xs p us st1 W1 H1 l (sl.le l) ss1 rp hz hp (h.le l)
    | exc x st1 => exact fun c d H' W' l s rx => h σ c d H' W' l (sl.le l) s rx
theorem bindLS_at {ma : M (List PV)} {f : List PV → MS} {R : List V → Hp → Prop} (sl : SlotR K W H env σ) (ss : SimS K W st H) (h : tSr K E W H D (M.bindS ma f env st))
    (k : ∀ xs us st1 W1 H1, Le W H W1 H1 → SlotR K W1 H1 env σ → SimS K W1 st1 H1 → RpL K W1 H1 xs us → tSr K E W1 H1 D (f xs env st1) → R us H1) : tML K E ma σ H R := by
  refine ⟨W, env, st, sl, ss, ?_⟩
  unfold M.bindS at h
  cases e : ma env st with
  | none => rw [e] at h; exact h
  | some r =>
    rw [e] at h
    cases r with
    | ok xs st1 => exact fun us H1 W1 l ss1 rp => k xs us st1 W1 H1 l (sl.le l) ss1 rp (h.le l)
    | exc x st1 => exact fun c d H' W' l s rx => h σ c d H' W' l (sl.le l) s rx
end
section
variable {X : Cx} {E : EX} {pos : Pos} {e a b c : Expr} {es : List Expr} {s : Stmt} {ss' : List Stmt}
theorem ms_nil : MSs X E [] mSkip := by
  refine pssW pss_nil fun D σ H q => ?_
  obtain ⟨W, env, st, sl, ss, q⟩ := q
  exact q σ H W (Le.refl _ _) sl ss
theorem ms_cons {ma mb : MS} (h1 : MSt X E s ma) (h2 : MSs X E ss' mb) : MSs X E (s :: ss') (mSeq ma mb) := by
  refine pssW (pss_cons h1 h2) fun D σ H q => ?_
  obtain ⟨W, env, st, sl, ss, q⟩ := q
  refine ⟨W, env, st, sl, ss, ?_⟩
  unfold mSeq at q
  cases e : ma env st with
  | none => rw [e] at q; exact q
  | some r =>
    rw [e] at q
    cases r with
    | next env1 st1 => exact fun σ' H' W' l sl' ss' => ⟨W', env1, st1, sl', ss', tSr.le l q⟩
    | brk env1 st1 => exact q
    | cont env1 st1 => exact q
    | ret x st1 => exact q
    | exc x env1 st1 => exact q
theorem ms_one {ma : MS} (h1 : MSt X E s ma) : MSs X E [s] ma := pss_one h1
theorem ms_pass : MSt X E (.Pass pos) mSkip := by
  refine psW ps_pass fun D σ H q => ?_
  obtain ⟨W, env, st, sl, ss, q⟩ := q
  exact q σ H W (Le.refl _ _) sl ss
def mBrk : MS := fun env st => some (.brk env st)
def mCont : MS := fun env st => some (.cont env st)
theorem ms_break : MSt X E (.Break pos) mBrk := by
  refine psW ps_break fun D σ H q => ?_
  obtain ⟨W, env, st, sl, ss, q⟩ := q
  exact q σ H W (Le.refl _ _) sl ss
theorem ms_continue : MSt X E (.Continue pos) mCont := by
  refine psW ps_continue fun D σ H q => ?_
  obtain ⟨W, env, st, sl, ss, q⟩ := q
  exact q σ H W (Le.refl _ _) sl ss
def mDrop (m : M PV) : MS := m.bindS fun _ env st => some (.next env st)
theorem ms_expr {ma : M PV} (he : ME X E e ma) (hs : swapsWith e none pos.line X.env = pure false := by rfl) : MSt X E (.Expr e pos) (mDrop ma) := by
  refine psW (ps_expr he hs) fun D σ H q => ?_
  obtain ⟨W, env, st, sl, ss, q⟩ := q
  exact bindS_at sl ss q fun x u st1 W1 H1 l1 sl1 ss1 rx q1 => q1 σ H1 W1 (Le.refl _ _) sl1 ss1
def mRet (m : M PV) : MS := m.bindS fun x _ st => some (.ret x st)
theorem ms_ret {ma : M PV} (he : ME X E e ma) : MSt X E (.Return (some e) pos) (mRet ma) := by
  refine psW (ps_ret he) fun D σ H q => ?_
  obtain ⟨W, env, st, sl, ss, q⟩ := q
  exact bindS_at sl ss q fun x u st1 W1 H1 l1 sl1 ss1 rx q1 => q1 u H1 W1 (Le.refl _ _) ss1 rx
def mRetN : MS := fun _ st => some (.ret .non st)
theorem ms_retN : MSt X E (.Return none pos) mRetN := by
  refine psW ps_retN fun D σ H q => ?_
  obtain ⟨W, env, st, sl, ss, q⟩ := q
  exact q .non H W (Le.refl _ _) ss (show Rep _ _ _ _ _ by simp only [Rep])
def mIfS (c : M Bool) (a b : MS) : MS := c.bindS fun c => if c then a else b
theorem ms_if {c : Expr} {as bs : List Stmt} {mc : M Bool} {ma mb : MS} (hc : MT X E c mc) (ha : MSs X E as ma) (hb : MSs X E bs mb) : MSt X E (.If c as bs pos) (mIfS mc ma mb) := by
  refine psW (ps_if hc ha hb) fun D σ H q => ?_
  obtain ⟨W, env, st, sl, ss, q⟩ := q
  refine bindBS_at sl ss q fun x st1 W1 H1 l1 sl1 ss1 q1 => ?_
  cases x with
  | true => exact ⟨W1, env, st1, sl1, ss1, q1⟩
  | false => exact ⟨W1, env, st1, sl1, ss1, q1⟩
/-- x = e -/
def mSet (i : Nat) (m : M PV) : MS := m.bindS fun x env st => some (.next (env.set i (some x)) st)
theorem ms_set {i : Nat} {x : Str} {pos' : Pos} {m : M PV} (hN : X.N.Nodup) (hi : X.N[i]? = some x) (hx : Loc X.env.scope x) (he : ME X E e m) (hs : swapsWith e (some (.Name x pos')) pos.line X.env = pure false := by rfl)
    (hf : X.fn x = true ∨ X.env.scope.names.lookup x = some .local := by first | exact .inl rfl | exact .inr rfl | assumption) : MSt X E (.Assign [.Name x pos'] e pos) (mSet i m) := by
  refine psW (ps_set hN hi hx he hs hf) fun D σ H q => ?_
  obtain ⟨W, env, st, sl, ss, q⟩ := q
  exact bindS_at sl ss q fun x u st1 W1 H1 l1 sl1 ss1 rx q1 => q1 _ H1 W1 (Le.refl _ _) (sl1.set i rx) ss1
end

/-! ### a new changing object -/
section
variable {K : PySem.W.Frag} {W : Wd} {st : Sto} {H : Hp} {p : Addr}
def Wd.push (W : Wd) (p : Addr) : Wd := ⟨W.ρ ++ [p], W.hid⟩
theorem Fz_push_new (ss : SimS K W st H) (h : H p = none) (o : HO) : ∀ a o', Fz W H a = some o' → Fz (W.push p) (upd H p o) a = some o' := fun a o' e => by
  obtain ⟨h1, h2, h3⟩ := Fz_some.mp e
  have ne : a ≠ p := ne_of_none h3 h
  refine Fz_some.mpr ⟨?_, h2, by rw [upd_ne ne]; exact h3⟩
  show a ∉ W.ρ ++ [p]
  rw [List.mem_append, List.mem_singleton]
  rintro (q | q)
  · exact h1 q
  · exact ne q
theorem SimS.push (ss : SimS K W st H) (h : H p = none) {o : HO} {m : MO} (hm : ObR K (W.push p) (upd H p o) m p) : Le W H (W.push p) (upd H p o) ∧ SimS K (W.push p) (st ++ [m]) (upd H p o) := by
  have hF := Fz_push_new ss h o
  have hpre : W.ρ <+: (W.push p).ρ := ⟨[p], rfl⟩
  refine ⟨⟨hpre, fun _ h => h, hF, fun a ha => upd_ne fun e => ss.new_hid h (by rw [← e]; exact ha), fun a _ od u e => by rw [upd_ne (ne_of_none e h)]; exact e⟩, ?_, ?_, ?_, fun a ha => ?_, fun i m' a e1 e2 => ?_⟩
  · show (W.ρ ++ [p]).length = (st ++ [m]).length
    simp [ss.len]
  · show (W.ρ ++ [p]).Nodup
    rw [List.nodup_append]
    refine ⟨ss.nd, by simp, fun a ha b hb => ?_⟩
    simp at hb
    subst hb
    exact fun e => ss.new_ρ h (by rw [← e]; exact ha)
  · intro a ha
    rw [show (W.push p).ρ = W.ρ ++ [p] from rfl, List.mem_append, List.mem_singleton] at ha
    rcases ha with ha | rfl
    · exact ss.dj a ha
    · exact ss.new_hid h
  · have ha' : a ∈ W.hid := ha
    rw [upd_ne fun e => ss.new_hid h (by rw [← e]; exact ha')]
    exact ss.hs a ha'
  · by_cases hi : i < st.length
    · rw [List.getElem?_append_left hi] at e1
      have hi2 : i < W.ρ.length := by rw [ss.len]; exact hi
      rw [show (W.push p).ρ = W.ρ ++ [p] from rfl, List.getElem?_append_left hi2] at e2
      exact (ss.ob i m' a e1 e2).mono hF hpre (upd_ne fun e => ss.new_ρ h (by rw [← e]; exact List.mem_of_getElem? e2))
    · rw [List.getElem?_append_right (by omega)] at e1
      rw [show (W.push p).ρ = W.ρ ++ [p] from rfl, List.getElem?_append_right (by rw [ss.len]; omega)] at e2
      have h1 : i - st.length = 0 := by
        by_cases q : i - st.length = 0
        · exact q
        · rw [List.getElem?_eq_none (by simp; omega)] at e1; cases e1
      rw [h1] at e1
      rw [show i - W.ρ.length = 0 by rw [ss.len]; exact h1] at e2
      simp at e1 e2
      subst e1 e2
      exact hm
theorem SimS.push_lst (ss : SimS K W st H) (h : H p = none) {xs : List PV} {us : List V} (r : RpL K W H xs us) (hz : xs.length ≤ sizeLine) :
    Le W H (W.push p) (upd H p (.lst us)) ∧ SimS K (W.push p) (st ++ [.lst xs]) (upd H p (.lst us)) :=
  ss.push h ⟨us, upd_same, RepL.mono (Fz_push_new ss h _) ⟨[p], rfl⟩ _ _ r, hz⟩
theorem rep_push (ss : SimS K W st H) {H' : Hp} : Rp K (W.push p) H' (.ref st.length) (.ref p) := by
  show Rep _ _ _ _ _
  simp only [Rep]
  refine ⟨p, rfl, ?_⟩
  show (W.ρ ++ [p])[st.length]? = some p
  rw [← ss.len]
  simp
end
section
variable {X : Cx} {E : EX} {pos : Pos} {e a b c : Expr} {es : List Expr} {s : Stmt} {ss' : List Stmt}
/-- x = a new list, that is changed later -/
def mSetA (i : Nat) (m : M (List PV)) : MS := m.bindS fun xs env st => some (.next (env.set i (some (.ref st.length))) (st ++ [.lst xs]))
theorem ms_setA {i : Nat} {x : Str} {pos' : Pos} {m : M (List PV)} (hN : X.N.Nodup) (hi : X.N[i]? = some x) (hx : Loc X.env.scope x) (he : MF X E e m) (hs : swapsWith e (some (.Name x pos')) pos.line X.env = pure false := by rfl)
    (hf : X.fn x = true ∨ X.env.scope.names.lookup x = some .local := by first | exact .inl rfl | exact .inr rfl | assumption) : MSt X E (.Assign [.Name x pos'] e pos) (mSetA i m) := by
  refine psW (ps_set hN hi hx he hs hf) fun D σ H q => ?_
  obtain ⟨W, env, st, sl, ss, q⟩ := q
  refine bindFS_at sl ss q fun xs p us st1 W1 H1 l1 sl1 ss1 rx hz hp q1 => ?_
  obtain ⟨l2, ss2⟩ := ss1.push_lst hp rx hz
  exact q1 _ _ (W1.push p) l2 ((sl1.le l2).set i (rep_push ss1)) ss2
end

/-! ### targets -/
inductive Tg where
  | nm (i : Nat) | tup (ts : List Tg)
/-- what may be unpacked -/
def unpO (x : PV) (st : Sto) : Option (List PV) := match x with
  | .tup xs => some xs
  | .lst xs => some xs
  | .rol xs => some xs
  | .ref r => match st[r]? with
    | some (.lst xs) => some xs
    | _ => none
  | _ => none
mutual
def tgSet : Tg → PV → Sto → MEnv → Option MEnv
  | .nm i, x, _, env => some (env.set i (some x))
  | .tup ts, x, st, env => match unpO x st with
    | some xs => tgSets ts xs st env
    | none => none
def tgSets : List Tg → List PV → Sto → MEnv → Option MEnv
  | [], [], _, env => some env
  | t :: ts, x :: xs, st, env => match tgSet t x st env with
    | some env1 => tgSets ts xs st env1
    | none => none
  | _, _, _, _ => none
end
mutual
def Tg.slots : Tg → List Nat
  | .nm i => [i]
  | .tup ts => Tg.slotsL ts
def Tg.slotsL : List Tg → List Nat
  | [] => []
  | t :: ts => t.slots ++ Tg.slotsL ts
end
def tTg (K : PySem.W.Frag) (t : Tg) : TG := fun v σ H Q => ∃ W env st x env', SlotR K W H env σ ∧ SimS K W st H ∧ Rp K W H x v ∧ tgSet t x st env = some env' ∧
  ∀ σ', SlotR K W H env' σ' → (∀ i, i ∉ t.slots → σ'[i]? = σ[i]?) → Q σ' H
def tTgs (K : PySem.W.Frag) (ts : List Tg) : TGs := fun vs σ H Q => ∃ W env st xs env', SlotR K W H env σ ∧ SimS K W st H ∧ RpL K W H xs vs ∧ tgSets ts xs st env = some env' ∧
  ∀ σ', SlotR K W H env' σ' → (∀ i, i ∉ Tg.slotsL ts → σ'[i]? = σ[i]?) → Q σ' H
abbrev MG (X : Cx) (e : Expr) (t : Tg) : Prop := PG X e (tTg X.K t)
abbrev MGs (X : Cx) (es : List Expr) (ts : List Tg) : Prop := PGs X es (tTgs X.K ts)
section
variable {X : Cx} {E : EX} {pos : Pos} {e a b c : Expr} {es : List Expr}
theorem mg_name {i : Nat} {x : Str} (hN : X.N.Nodup) (hi : X.N[i]? = some x) (hx : Loc X.env.scope x) (hf : X.fn x = true ∨ X.env.scope.names.lookup x = some .local := by first | exact .inl rfl | exact .inr rfl | assumption) : MG X (.Name x pos) (.nm i) := by
  refine pgW (pg_name hN hi hx hf) fun v σ H Q q => ?_
  obtain ⟨W, env, st, x, env', sl, ss, rx, e, q⟩ := q
  simp only [tgSet, Option.some.injEq] at e
  subst e
  refine q _ (sl.set i rx) fun j hj => ?_
  simp only [Tg.slots, List.mem_singleton] at hj
  exact List.getElem?_set_ne fun e => hj e.symm
theorem mgs_nil : MGs X [] [] := by
  refine pgsW pgs_nil fun vs σ H Q q => ?_
  obtain ⟨W, env, st, xs, env', sl, ss, rx, e, q⟩ := q
  cases xs with
  | nil =>
    simp only [RpL, RepL] at rx
    simp only [tgSets, Option.some.injEq] at e
    subst e
    exact ⟨rx, q σ sl fun _ _ => rfl⟩
  | cons x xs => simp [tgSets] at e
theorem mgs_cons {t : Tg} {ts : List Tg} (h1 : MG X e t) (h2 : MGs X es ts) (hs : (assignEach (e :: es) X.env).map (·.2) = assign e X.env :: (assignEach es X.env).map (·.2) := by rfl) : MGs X (e :: es) (t :: ts) := by
  refine pgsW (pgs_cons h1 h2 hs) fun vs σ H Q q => ?_
  obtain ⟨W, env, st, xs, env', sl, ss, rx, e, q⟩ := q
  cases xs with
  | nil => simp [tgSets] at e
  | cons x xs =>
    simp only [RpL, RepL] at rx
    obtain ⟨v, r, rfl, r1, r2⟩ := rx
    simp only [tgSets] at e
    cases e1 : tgSet t x st env with
    | none => rw [e1] at e; cases e
    | some env1 =>
      rw [e1] at e
      refine ⟨v, r, rfl, W, env, st, x, env1, sl, ss, r1, e1, fun σ' sl' hk => ?_⟩
      refine ⟨W, env1, st, xs, env', sl', ss, r2, e, fun σ'' sl'' hk' => q σ'' sl'' fun i hi => ?_⟩
      simp only [Tg.slotsL, List.mem_append, not_or] at hi
      exact (hk' i hi.2).trans (hk i hi.1)
theorem tgSets_many {st : Sto} : ∀ (ts : List Tg) (xs : List PV) (env env' : MEnv), tgSets ts xs st env = some env' → xs.length = ts.length := by
  intro ts
  induction ts with
  | nil => intro xs env env' e; cases xs with
    | nil => rfl
    | cons _ _ => simp [tgSets] at e
  | cons t ts ih => intro xs env env' e; cases xs with
    | nil => simp [tgSets] at e
    | cons x xs =>
      simp only [tgSets] at e
      cases e1 : tgSet t x st env with
      | none => rw [e1] at e; cases e
      | some env1 => rw [e1] at e; simp [ih xs env1 env' e]
theorem unp_inv {K : PySem.W.Frag} {W : Wd} {st : Sto} {H : Hp} {x : PV} {u : V} {xs : List PV} (ss : SimS K W st H) (r : Rp K W H x u) (h : unpO x st = some xs) : ∃ a vs, u = .ref a ∧ (SqT K H a vs ∨ SqL K H a vs) ∧ RpL K W H xs vs := by
  cases x with
  | tup ys =>
    simp only [unpO, Option.some.injEq] at h
    subst h
    simp only [Rp, Rep] at r
    obtain ⟨a, vs, rfl, h1, h2, hz⟩ := r
    exact ⟨a, vs, rfl, .inl (SqT.mono (fun a o h => Fz_le h) h1.t), h2⟩
  | lst ys =>
    simp only [unpO, Option.some.injEq] at h
    subst h
    simp only [Rp, Rep] at r
    obtain ⟨a, vs, rfl, h1, h2, hz⟩ := r
    exact ⟨a, vs, rfl, .inr (.inl (.inl (Fz_le h1))), h2⟩
  | rol ys =>
    simp only [unpO, Option.some.injEq] at h
    subst h
    simp only [Rp, Rep] at r
    obtain ⟨a, vs, rfl, h1, h2, hz⟩ := r
    exact ⟨a, vs, rfl, .inr (SqL.mono (fun a o h => Fz_le h) h1), h2⟩
  | ref i =>
    obtain ⟨a, rfl, ha⟩ : ∃ a, u = .ref a ∧ W.ρ[i]? = some a := by simpa only [Rp, Rep] using r
    simp only [unpO] at h
    split at h
    · rename_i ys e
      cases h
      obtain ⟨vs, h1, h2, hz⟩ := ss.ob i _ a e ha
      exact ⟨a, vs, rfl, .inr (.inl (.inl h1)), h2⟩
    · cases h
  | _ => simp [unpO] at h
theorem mg_tup {ts : List Tg} {k n : Nat} (hc : X.calm = true) (h : MGs X es ts) (hl : ts.length = n := by rfl)
    (hn : (assignEach es X.env).length = n := by rfl) (hst : (assignEach es X.env).findIdx? (·.1) = none := by rfl) : MG X (.Tuple es k pos) (.tup ts) := by
  have both : PG X (.Tuple es k pos) fun v σ H Q => gTup X.K n (tTgs X.K ts) v σ H Q ∨ gUnl X.K n (tTgs X.K ts) v σ H Q := by
    have p1 := pg_tup (pos := pos) (k := k) hc h hn hst
    have p2 := pg_unl (pos := pos) (k := k) hc h hn hst
    constructor
    intro pins s σ H v u Q I r hw
    rcases hw with hw | hw
    · exact p1.run pins s σ H v u Q I r hw
    · exact p2.run pins s σ H v u Q I r hw
  refine pgW both fun v σ H Q q => ?_
  obtain ⟨W, env, st, x, env', sl, ss, rx, e, q⟩ := q
  simp only [tgSet] at e
  cases eu : unpO x st with
  | none => rw [eu] at e; cases e
  | some xs =>
    rw [eu] at e
    obtain ⟨a, vs, rfl, h1, h2⟩ := unp_inv ss rx eu
    have hlen : vs.length = n := by rw [h2.len, tgSets_many _ _ _ _ e, hl]
    have body : tTgs X.K ts vs σ H Q := ⟨W, env, st, xs, env', sl, ss, h2, e, fun σ' sl' hk => q σ' sl' hk⟩
    rcases h1 with h1 | h1
    · exact .inl ⟨a, vs, rfl, h1, hlen, body⟩
    · exact .inr ⟨a, vs, rfl, h1, hlen, body⟩
/-- target = e, by a plain target of the Assign -/
def mAsg (t : Tg) (m : M PV) : MS := m.bindS fun x env st => (tgSet t x st env).map fun env' => .next env' st
theorem ms_asg {tg : Expr} {t : Tg} {m : M PV} (he : ME X E e m) (hg : MG X tg t) (hs : swapsWithSole [tg] e pos.line X.env = pure false := by rfl) (hw : swappedStores [tg] e X.env = pure none := by rfl)
    (h1 : (assignEach [tg] X.env).map (·.2) = [assign tg X.env] := by rfl) : MSt X E (.Assign [tg] e pos) (mAsg t m) := by
  refine psW (ps_asg he hg hs hw h1) fun D σ H q => ?_
  obtain ⟨W, env, st, sl, ss, q⟩ := q
  refine bindS_at sl ss q fun x u st1 W1 H1 l1 sl1 ss1 rx q1 => ?_
  cases e : tgSet t x st1 env with
  | none => rw [e] at q1; exact q1.elim
  | some env' =>
    rw [e] at q1
    exact ⟨W1, env, st1, x, env', sl1, ss1, rx, e, fun σ' sl' _ => q1 σ' H1 W1 (Le.refl _ _) sl' ss1⟩
/-- a, b = x, y -/
def mPar (i j : Nat) (m : M (List PV)) : MS := m.bindS fun xs env st => match xs with
  | [x, y] => some (.next ((env.set i (some x)).set j (some y)) st)
  | _ => none
theorem ms_par {i j : Nat} {x y : Str} {m : M (List PV)} {px py pt : Pos} {kt k2 pt2} (hc : X.calm = true) (hN : X.N.Nodup) (hi : X.N[i]? = some x) (hj : X.N[j]? = some y) (hij : i ≠ j)
    (hx : X.env.scope.names.lookup x = some .local) (hy : X.env.scope.names.lookup y = some .local) (ha : MA X E [a, b] m)
    (hw : swappedStores [.Tuple [.Name x px, .Name y py] kt pt] (.Tuple [a, b] k2 pt2) X.env = pure (some [x, y]))
    (hs : swapsWithSole [.Tuple [.Name x px, .Name y py] kt pt] (.Tuple [a, b] k2 pt2) pos.line X.env = pure false := by rfl) :
    MSt X E (.Assign [.Tuple [.Name x px, .Name y py] kt pt] (.Tuple [a, b] k2 pt2) pos) (mPar i j m) := by
  refine psW (ps_par hc hN hi hj hij hx hy ha hw hs) fun D σ H q => ?_
  obtain ⟨W, env, st, sl, ss, q⟩ := q
  refine bindLS_at sl ss q fun xs us st1 W1 H1 l1 sl1 ss1 rx q1 => ?_
  split at q1
  · simp only [RpL, RepL] at rx
    obtain ⟨v, r, rfl, r1, w, r', rfl, r2, rfl⟩ := rx
    exact ⟨v, w, rfl, q1 _ H1 W1 (Le.refl _ _) ((sl1.set i r1).set j r2) ss1⟩
  · exact q1.elim
end
end Mi

/-! Mi4: what is walked, for, list comprehensions. -/
namespace Mi
open PySem PySem.Spec PyProof.Rows L2

inductive MSrc where
  | lst (r : Nat) | keys (r : Nat)
/-- what a loop walks: its items; src: the changing list that holds them, the locked dict whose keys they are -/
structure MIt where
  items : List PV
  src : Option MSrc
def MIt.chk (it : MIt) (st : Sto) : Prop := match it.src with
  | none => True
  | some (.lst r) => st[r]? = some (.lst it.items)
  | some (.keys r) => ∃ ps, st[r]? = some (.loc ps) ∧ ps.map (·.1) = it.items
/-- what was known stays known -/
structure Lw (W : Wd) (H : Hp) (W' : Wd) (H' : Hp) : Prop where
  pre : W.ρ <+: W'.ρ
  fz : ∀ a o, Fz W H a = some o → Fz W' H' a = some o
  loc : ∀ a ∈ W.ρ, ∀ od u, H a = some (.frz od u) → H' a = some (.frz od u)
theorem Le.lw {W W' : Wd} {H H' : Hp} (l : Le W H W' H') : Lw W H W' H' := ⟨l.pre, l.fz, l.loc⟩
theorem Lw.trans {W W1 W2 : Wd} {H H1 H2 : Hp} (a : Lw W H W1 H1) (b : Lw W1 H1 W2 H2) : Lw W H W2 H2 :=
  ⟨a.pre.trans b.pre, fun c o h => b.fz c o (a.fz c o h), fun c hc od u h => b.loc c (a.pre.subset hc) od u (a.loc c hc od u h)⟩
structure ItOk (K : PySem.W.Frag) (W : Wd) (H : Hp) (J : It) (it : MIt) : Prop where
  sz : it.items.length ≤ sizeLine
  go : ∀ i, i < it.items.length → ∀ W' H' st', Lw W H W' H' → SimS K W' st' H' → it.chk st' → J.go i H'
  yl : ∀ i x, it.items[i]? = some x → ∀ W' H' st' v H'', Lw W H W' H' → SimS K W' st' H' → it.chk st' → J.yld i H' v H'' → Le W' H' W' H'' ∧ SimS K W' st' H'' ∧ Rp K W' H'' x v
  stp : ∀ W' H' st', Lw W H W' H' → SimS K W' st' H' → it.chk st' → J.stop it.items.length H'
def tMIr (K : PySem.W.Frag) (E : XK) (W : Wd) (H : Hp) (R : It → Hp → Prop) : Option (Res MIt) → Prop
  | none => False
  | some (.ok it st) => ∀ J H' W', Le W H W' H' → SimS K W' st H' → ItOk K W' H' J it → R J H'
  | some (.exc x st) => ∀ cls d H' W', Le W H W' H' → SimS K W' st H' → RepX K W' H' x cls d → E cls d H'
theorem tMIr.le {K : PySem.W.Frag} {E : XK} {W W1 : Wd} {H H1 : Hp} {R : It → Hp → Prop} {r : Option (Res MIt)} (l : Le W H W1 H1) (h : tMIr K E W H R r) : tMIr K E W1 H1 R r := by
  cases r with
  | none => exact h
  | some r =>
    cases r with
    | ok x st => exact fun J H' W' l' => h J H' W' (l.trans l')
    | exc x st => exact fun c d H' W' l' => h c d H' W' (l.trans l')
def tMI (K : PySem.W.Frag) (E : EX) (m : M MIt) : TI := fun σ H R => ∃ W env st, SlotR K W H env σ ∧ SimS K W st H ∧ tMIr K (E σ) W H R (m env st)
abbrev MI (X : Cx) (E : EX) (tg e : Expr) (m : M MIt) : Prop := PI X tg e (tMI X.K E m)
theorem bindI_at {K : PySem.W.Frag} {E : EX} {W : Wd} {env : MEnv} {st : Sto} {σ : L2.St} {H : Hp} {Q : It → Hp → Prop} {ma : M PV} {f : PV → M MIt} {R : VK} (sl : SlotR K W H env σ) (ss : SimS K W st H) (h : tMIr K (E σ) W H Q (M.bind ma f env st))
    (k : ∀ x u st1 W1 H1, Le W H W1 H1 → SlotR K W1 H1 env σ → SimS K W1 st1 H1 → Rp K W1 H1 x u → tMIr K (E σ) W1 H1 Q (f x env st1) → R u H1) : tM K E ma σ H R := by
  refine ⟨W, env, st, sl, ss, ?_⟩
  unfold M.bind at h
  cases e : ma env st with
  | none => rw [e] at h; exact h
  | some r =>
    rw [e] at h
    cases r with
    | ok x st1 => exact fun u H1 W1 l ss1 rp => k x u st1 W1 H1 l (sl.le l) ss1 rp (h.le l)
    | exc x st1 => exact h
theorem bindIL_at {K : PySem.W.Frag} {E : EX} {W : Wd} {env : MEnv} {st : Sto} {σ : L2.St} {H : Hp} {Q : It → Hp → Prop} {ma : M (List PV)} {f : List PV → M MIt} {R : List V → Hp → Prop} (sl : SlotR K W H env σ) (ss : SimS K W st H) (h : tMIr K (E σ) W H Q (M.bind ma f env st))
    (k : ∀ x u st1 W1 H1, Le W H W1 H1 → SlotR K W1 H1 env σ → SimS K W1 st1 H1 → RpL K W1 H1 x u → tMIr K (E σ) W1 H1 Q (f x env st1) → R u H1) : tML K E ma σ H R := by
  refine ⟨W, env, st, sl, ss, ?_⟩
  unfold M.bind at h
  cases e : ma env st with
  | none => rw [e] at h; exact h
  | some r =>
    rw [e] at h
    cases r with
    | ok x st1 => exact fun u H1 W1 l ss1 rp => k x u st1 W1 H1 l (sl.le l) ss1 rp (h.le l)
    | exc x st1 => exact h

/-! ### lists, tuples, texts -/
def signs (z : Str) : List PV := z.cps.toList.map fun c => .str ⟨#[c]⟩
def mItOf (x : PV) (st : Sto) : Option MIt := match x with
  | .lst xs => some ⟨xs, none⟩
  | .rol xs => some ⟨xs, none⟩
  | .tup xs => some ⟨xs, none⟩
  | .str z => some ⟨signs z, none⟩
  | .ref r => match st[r]? with
    | some (.lst xs) => some ⟨xs, some (.lst r)⟩
    | _ => none
  | _ => none
def mIt (m : M PV) : M MIt := m.bind fun x => fun _ st => (mItOf x st).map fun it => .ok it st
theorem itl_ok {K : PySem.W.Frag} {W : Wd} {H : Hp} {st : Sto} {a : Addr} {it : MIt} (hz : it.items.length ≤ sizeLine)
    (h : ∀ W' H' st', Lw W H W' H' → SimS K W' st' H' → it.chk st' → ∃ vs, SqL K H' a vs ∧ RpL K W' H' it.items vs) : ItOk K W H (Itl K a) it where
  sz := hz
  go := fun i hi W' H' st' l ss hc => by
    obtain ⟨vs, h1, h2⟩ := h W' H' st' l ss hc
    obtain ⟨v, h3, _⟩ := RepL.get h2 (List.getElem?_eq_getElem hi)
    exact ⟨vs, v, h1, h3⟩
  yl := fun i x hx W' H' st' v H'' l ss hc y => by
    obtain ⟨vs, h1, h2⟩ := h W' H' st' l ss hc
    obtain ⟨v', h3, h4⟩ := RepL.get h2 hx
    obtain ⟨e, y⟩ := y
    subst e
    have e2 := y vs h1
    rw [h3] at e2
    cases e2
    exact ⟨Le.refl _ _, ss, h4⟩
  stp := fun W' H' st' l ss hc => by
    obtain ⟨vs, h1, h2⟩ := h W' H' st' l ss hc
    exact ⟨vs, h1, by rw [h2.len]; exact Nat.le_refl _⟩
theorem itt_ok {K : PySem.W.Frag} {W : Wd} {H : Hp} {st : Sto} {a : Addr} {it : MIt} (hz : it.items.length ≤ sizeLine)
    (h : ∀ W' H' st', Lw W H W' H' → SimS K W' st' H' → it.chk st' → ∃ vs, SqT K H' a vs ∧ RpL K W' H' it.items vs) : ItOk K W H (Itt K a) it where
  sz := hz
  go := fun i hi W' H' st' l ss hc => by
    obtain ⟨vs, h1, h2⟩ := h W' H' st' l ss hc
    obtain ⟨v, h3, _⟩ := RepL.get h2 (List.getElem?_eq_getElem hi)
    exact ⟨vs, v, h1, h3⟩
  yl := fun i x hx W' H' st' v H'' l ss hc y => by
    obtain ⟨vs, h1, h2⟩ := h W' H' st' l ss hc
    obtain ⟨v', h3, h4⟩ := RepL.get h2 hx
    obtain ⟨e, y⟩ := y
    subst e
    have e2 := y vs h1
    rw [h3] at e2
    cases e2
    exact ⟨Le.refl _ _, ss, h4⟩
  stp := fun W' H' st' l ss hc => by
    obtain ⟨vs, h1, h2⟩ := h W' H' st' l ss hc
    exact ⟨vs, h1, by rw [h2.len]; exact Nat.le_refl _⟩
theorem signs_len (z : Str) : (signs z).length = z.cps.size := by unfold signs; simp
theorem one_short : (1 : Nat) ≤ sizeLine := by decide
theorem its_ok {K : PySem.W.Frag} {W : Wd} {H : Hp} {z : Str} (hz : z.length ≤ sizeLine) : ItOk K W H (Its z) ⟨signs z, none⟩ where
  sz := by show (signs z).length ≤ _; rw [signs_len]; exact hz
  go := fun i hi W' H' st' l ss hc => by
    have hi' : i < (signs z).length := hi
    rw [signs_len] at hi'
    exact hi'
  yl := fun i x hx W' H' st' v H'' l ss hc y => by
    obtain ⟨e, c, y, ev⟩ := y
    subst e ev
    refine ⟨Le.refl _ _, ss, ?_⟩
    have hx' : (signs z)[i]? = some x := hx
    unfold signs at hx'
    rw [List.getElem?_map, Array.getElem?_toList, y] at hx'
    simp at hx'
    subst hx'
    show Rep _ _ _ _ _
    simp only [Rep, true_and]
    exact one_short
  stp := fun W' H' st' l ss hc => by
    show z.cps.size ≤ (signs z).length
    rw [signs_len]
    exact Nat.le_refl _
theorem m_it {X : Cx} {E : EX} {tg e : Expr} {m : M PV} (h : ME X E e m) : MI X E tg e (mIt m) := by
  constructor
  intro pins s σ H R I q
  obtain ⟨W, env, st, sl, ss, q⟩ := q
  unfold mIt M.bind at q
  cases em : m env st with
  | none => rw [em] at q; exact q.elim
  | some r =>
    rw [em] at q
    cases r with
    | exc x st1 => exact (pi_list h).run pins s σ H R I ⟨W, env, st, sl, ss, by rw [em]; exact q⟩
    | ok x st1 =>
      cases ei : mItOf x st1 with
      | none =>
        have q' : tMIr X.K (E σ) W H R ((mItOf x st1).map fun it => .ok it st1) := q
        rw [ei] at q'
        exact q'.elim
      | some it =>
        have q' : tMIr X.K (E σ) W H R ((mItOf x st1).map fun it => .ok it st1) := q
        rw [ei] at q'
        have q1 : ∀ J H' W', Le W H W' H' → SimS X.K W' st1 H' → ItOk X.K W' H' J it → R J H' := q'
        cases x with
        | lst xs =>
          simp only [mItOf, Option.some.injEq] at ei
          subst ei
          refine (pi_list h).run pins s σ H R I ⟨W, env, st, sl, ss, ?_⟩
          rw [em]
          intro u H1 W1 l1 ss1 rx
          obtain ⟨a, vs, rfl, h1, h2, hz⟩ : ∃ a vs, u = .ref a ∧ Fz W1 H1 a = some (.lst vs) ∧ RepL X.K (Fz W1 H1) W1.ρ xs vs ∧ xs.length ≤ sizeLine := by simpa only [Rp, Rep] using rx
          refine ⟨a, rfl, ⟨vs, .inl (.inl (Fz_le h1))⟩, q1 _ H1 W1 l1 ss1 (itl_ok (st := st1) hz fun W' H' st' l s _ => ?_)⟩
          exact ⟨vs, .inl (.inl (Fz_le (l.fz _ _ h1))), RepL.mono l.fz l.pre _ _ h2⟩
        | rol xs =>
          simp only [mItOf, Option.some.injEq] at ei
          subst ei
          refine (pi_list h).run pins s σ H R I ⟨W, env, st, sl, ss, ?_⟩
          rw [em]
          intro u H1 W1 l1 ss1 rx
          obtain ⟨a, vs, rfl, h1, h2, hz⟩ : ∃ a vs, u = .ref a ∧ SqL X.K (Fz W1 H1) a vs ∧ RepL X.K (Fz W1 H1) W1.ρ xs vs ∧ xs.length ≤ sizeLine := by simpa only [Rp, Rep] using rx
          refine ⟨a, rfl, ⟨vs, SqL.mono (fun _ _ h => Fz_le h) h1⟩, q1 _ H1 W1 l1 ss1 (itl_ok (st := st1) hz fun W' H' st' l s _ => ?_)⟩
          exact ⟨vs, SqL.mono (fun _ _ h => Fz_le (l.fz _ _ h)) h1, RepL.mono l.fz l.pre _ _ h2⟩
        | tup xs =>
          simp only [mItOf, Option.some.injEq] at ei
          subst ei
          refine (pi_tup h).run pins s σ H R I ⟨W, env, st, sl, ss, ?_⟩
          rw [em]
          intro u H1 W1 l1 ss1 rx
          obtain ⟨a, vs, rfl, h1, h2, hz⟩ : ∃ a vs, u = .ref a ∧ SqN X.K (Fz W1 H1) a vs ∧ RepL X.K (Fz W1 H1) W1.ρ xs vs ∧ xs.length ≤ sizeLine := by simpa only [Rp, Rep] using rx
          replace h1 := h1.t
          refine ⟨a, rfl, ⟨vs, SqT.mono (fun _ _ h => Fz_le h) h1⟩, q1 _ H1 W1 l1 ss1 (itt_ok (st := st1) hz fun W' H' st' l s _ => ?_)⟩
          exact ⟨vs, SqT.mono (fun _ _ h => Fz_le (l.fz _ _ h)) h1, RepL.mono l.fz l.pre _ _ h2⟩
        | str z =>
          simp only [mItOf, Option.some.injEq] at ei
          subst ei
          refine (pi_str h).run pins s σ H R I ⟨W, env, st, sl, ss, ?_⟩
          rw [em]
          intro u H1 W1 l1 ss1 rx
          obtain ⟨rfl, hz⟩ : u = .str z ∧ z.length ≤ sizeLine := by simpa only [Rp, Rep] using rx
          exact ⟨z, rfl, q1 _ H1 W1 l1 ss1 (its_ok hz)⟩
        | ref r =>
          simp only [mItOf] at ei
          split at ei
          · rename_i xs es
            cases ei
            refine (pi_list h).run pins s σ H R I ⟨W, env, st, sl, ss, ?_⟩
            rw [em]
            intro u H1 W1 l1 ss1 rx
            obtain ⟨a, rfl, ha⟩ : ∃ a, u = .ref a ∧ W1.ρ[r]? = some a := by simpa only [Rp, Rep] using rx
            obtain ⟨vs, h1, h2, hz⟩ := ss1.ob r _ a es ha
            refine ⟨a, rfl, ⟨vs, .inl (.inl h1)⟩, q1 _ H1 W1 l1 ss1 (itl_ok (st := st1) hz fun W' H' st' l s hc => ?_)⟩
            obtain ⟨vs', h3, h4, _⟩ := s.ob r _ a hc (pre_get l.pre ha)
            exact ⟨vs', .inl (.inl h3), h4⟩
          · cases ei
        | _ => simp [mItOf] at ei
/-- range(n), range(a, b) -/
def intsF (lo : Int) (n : Nat) : List PV := (List.range n).map fun (k : Nat) => PV.int (lo + (k : Int))
theorem intsF_len (lo : Int) (n : Nat) : (intsF lo n).length = n := by unfold intsF; simp
def mRange1 (m : M (List PV)) : M MIt := m.bind fun xs => fun _ st => match xs with
  | [.int j] => if -(2 ^ 62) ≤ j ∧ j ≤ (sizeLine : Nat) then some (.ok ⟨intsF 0 j.toNat, none⟩ st) else none
  | _ => none
def mRange2 (m : M (List PV)) : M MIt := m.bind fun xs => fun _ st => match xs with
  | [.int i, .int j] => if -(2 ^ 62) ≤ i ∧ i < 2 ^ 62 ∧ -(2 ^ 62) ≤ j ∧ j < 2 ^ 62 ∧ (j - i).toNat ≤ sizeLine then some (.ok ⟨intsF i (j - i).toNat, none⟩ st) else none
  | _ => none
theorem itr_ok {K : PySem.W.Frag} {W : Wd} {H : Hp} {lo : Int} {n : Nat} (hz : n ≤ sizeLine) : ItOk K W H (Itr lo n) ⟨intsF lo n, none⟩ where
  sz := by show (intsF lo n).length ≤ _; rw [intsF_len]; exact hz
  go := fun i hi W' H' st' l ss hc => by
    have hi' : i < (intsF lo n).length := hi
    rw [intsF_len] at hi'
    exact hi'
  yl := fun i x hx W' H' st' v H'' l ss hc y => by
    obtain ⟨e, ev⟩ := y
    subst e ev
    refine ⟨Le.refl _ _, ss, ?_⟩
    have hx' : (intsF lo n)[i]? = some x := hx
    unfold intsF at hx'
    rw [List.getElem?_map] at hx'
    by_cases hi : i < n
    · rw [List.getElem?_range hi] at hx'
      simp at hx'
      subst hx'
      show Rep _ _ _ _ _
      simp only [Rep]
    · rw [List.getElem?_eq_none (by simpa using hi)] at hx'
      simp at hx'
  stp := fun W' H' st' l ss hc => by
    show n ≤ (intsF lo n).length
    rw [intsF_len]
    exact Nat.le_refl _
theorem size62 : ((sizeLine : Nat) : Int) < 2 ^ 62 := by rw [sizeLine_eq]; decide
theorem m_range1 {X : Cx} {E : EX} {tg a : Expr} {m : M (List PV)} {p pos : Pos} (hg : Gl X "range") (hm : X.mg "range" = none) (ha : MA X E [a] m) (hs : starEach [a] X.env = [(false, eval a X.env)] := by rfl) : MI X E tg (.Call (.Name "range" p) [a] [] pos) (mRange1 m) := by
  refine piW (pi_range1 hg hm ha hs) fun σ H R q => ?_
  obtain ⟨W, env, st, sl, ss, q⟩ := q
  refine bindIL_at sl ss q fun x u st1 W1 H1 l1 sl1 ss1 rx q1 => ?_
  split at q1
  · rename_i j
    split at q1
    · rename_i hb
      simp only [RpL, RepL, Rep] at rx
      obtain ⟨v, r, rfl, rfl, rfl⟩ := rx
      have h62 := size62
      refine ⟨j, rfl, hb.1, by omega, q1 _ H1 W1 (Le.refl _ _) ss1 (itr_ok ?_)⟩
      have h2 := hb.2
      omega
    · exact q1.elim
  · exact q1.elim
theorem m_range2 {X : Cx} {E : EX} {tg a b : Expr} {m : M (List PV)} {p pos : Pos} (hg : Gl X "range") (hm : X.mg "range" = none) (ha : MA X E [a, b] m) (hs : starEach [a, b] X.env = [(false, eval a X.env), (false, eval b X.env)] := by rfl) (hs2 : starEach [b] X.env = [(false, eval b X.env)] := by rfl) :
    MI X E tg (.Call (.Name "range" p) [a, b] [] pos) (mRange2 m) := by
  refine piW (pi_range2 hg hm ha hs hs2) fun σ H R q => ?_
  obtain ⟨W, env, st, sl, ss, q⟩ := q
  refine bindIL_at sl ss q fun x u st1 W1 H1 l1 sl1 ss1 rx q1 => ?_
  split at q1
  · rename_i i j
    split at q1
    · rename_i hb
      simp only [RpL, RepL, Rep] at rx
      obtain ⟨v, r, rfl, rfl, v2, r2, rfl, rfl, rfl⟩ := rx
      exact ⟨i, j, rfl, ⟨hb.1, hb.2.1, hb.2.2.1, hb.2.2.2.1⟩, q1 _ H1 W1 (Le.refl _ _) ss1 (itr_ok hb.2.2.2.2)⟩
    · exact q1.elim
  · exact q1.elim

/-! ### for -/
open Classical in
noncomputable def forL (tg : Tg) (it : MIt) (body : MS) : List PV → MS
  | [], env, st => if it.chk st then some (.next env st) else none
  | x :: xs, env, st => if it.chk st then
      (match tgSet tg x st env with
      | none => none
      | some env1 => match body env1 st with
        | some (.next e s) => forL tg it body xs e s
        | some (.cont e s) => forL tg it body xs e s
        | some (.brk e s) => some (.next e s)
        | r => r)
    else none
noncomputable def mFor (tg : Tg) (mi : M MIt) (body : MS) : MS := mi.bindS fun it => forL tg it body it.items
theorem bindIS_at {K : PySem.W.Frag} {E : EX} {W : Wd} {env : MEnv} {st : Sto} {σ : L2.St} {H : Hp} {D : Ends} {ma : M MIt} {f : MIt → MS} {R : It → Hp → Prop} (sl : SlotR K W H env σ) (ss : SimS K W st H) (h : tSr K E W H D (M.bindS ma f env st))
    (k : ∀ J it st1 W1 H1, Le W H W1 H1 → SlotR K W1 H1 env σ → SimS K W1 st1 H1 → ItOk K W1 H1 J it → tSr K E W1 H1 D (f it env st1) → R J H1) : tMI K E ma σ H R := by
  refine ⟨W, env, st, sl, ss, ?_⟩
  unfold M.bindS at h
  cases e : ma env st with
  | none => rw [e] at h; exact h
  | some r =>
    rw [e] at h
    cases r with
    | ok x st1 => exact fun J H1 W1 l ss1 io => k J x st1 W1 H1 l (sl.le l) ss1 io (h.le l)
    | exc x st1 => exact fun c d H' W' l s rx => h σ c d H' W' l (sl.le l) s rx
theorem drop_cons {α : Type} {l : List α} {i : Nat} (h : i < l.length) : l.drop i = l[i] :: l.drop (i + 1) := by
  rw [List.drop_eq_getElem_cons h]
theorem ms_for {X : Cx} {E : EX} {tg iter : Expr} {body : List Stmt} {t : Tg} {mi : M MIt} {mb : MS} {pos : Pos} (hp : PassesOwn (model X.prog X.w) X.A X.env X.xe) (hc : X.calm = true) (hi : MI X E tg iter mi) (hg : MG X tg t) (hb : MSs X E body mb)
    (hs : ∀ x, foldedSetIterable iter X.env x = pure x := by intro _; rfl) : MSt X E (.For tg iter body [] pos) (mFor t mi mb) := by
  refine psW (ps_for hp hc hi hg hb hs) fun D σ H q => ?_
  obtain ⟨W, env, st, sl, ss, q⟩ := q
  refine bindIS_at sl ss q fun J it st1 W1 H1 l1 sl1 ss1 io q1 => ?_
  let Wv : Nat → Nat → L2.St → Hp → Prop := fun i m σ' H' => ∃ W' env' st', Le W1 H1 W' H' ∧ SlotR X.K W' H' env' σ' ∧ SimS X.K W' st' H' ∧ i ≤ it.items.length ∧ m = it.items.length - i ∧ tSr X.K E W' H' D (forL t it mb (it.items.drop i) env' st')
  refine ⟨Wv, ⟨it.items.length, W1, env, st1, Le.refl _ _, sl1, ss1, Nat.zero_le _, by simp, by simpa using q1⟩, ?_⟩
  rintro i m σ' H' ⟨W', env', st', l', sl', ss', hil, hm, q'⟩
  by_cases hlt : i < it.items.length
  · rw [drop_cons hlt] at q'
    unfold forL at q'
    by_cases hck : it.chk st'
    · rw [if_pos hck] at q'
      refine .inr ⟨io.go i hlt W' H' st' l'.lw ss' hck, fun σ'' H'' => ∃ m', m' < m ∧ Wv (i + 1) m' σ'' H'', fun σ'' H'' h => h, fun v H'' y => ?_⟩
      obtain ⟨l2, ss2, rx⟩ := io.yl i _ (List.getElem?_eq_getElem hlt) W' H' st' v H'' l'.lw ss' hck y
      cases et : tgSet t it.items[i] st' env' with
      | none => rw [et] at q'; exact q'.elim
      | some env1 =>
        rw [et] at q'
        refine ⟨W', env', st', _, env1, sl'.le l2, ss2, rx, et, fun σ2 sl2 _ => ?_⟩
        refine ⟨W', env1, st', sl2, ss2, ?_⟩
        have q2 : tSr X.K E W' H'' D (match mb env1 st' with
          | some (.next e s) => forL t it mb (it.items.drop (i + 1)) e s
          | some (.cont e s) => forL t it mb (it.items.drop (i + 1)) e s
          | some (.brk e s) => some (.next e s)
          | r => r) := tSr.le l2 q'
        have again : ∀ {e s}, tSr X.K E W' H'' D (forL t it mb (it.items.drop (i + 1)) e s) → ∀ σ3 H3 W3, Le W' H'' W3 H3 → SlotR X.K W3 H3 e σ3 → SimS X.K W3 s H3 → ∃ m', m' < m ∧ Wv (i + 1) m' σ3 H3 := fun {e s} q3 σ3 H3 W3 l3 sl3 ss3 =>
          ⟨it.items.length - (i + 1), by omega, W3, e, s, l'.trans (l2.trans l3), sl3, ss3, hlt, rfl, tSr.le l3 q3⟩
        cases eb : mb env1 st' with
        | none => rw [eb] at q2; exact q2
        | some r =>
          rw [eb] at q2
          cases r with
          | next e s => exact again q2
          | cont e s => exact again q2
          | brk e s => exact q2
          | ret x s => exact q2
          | exc x e s => exact q2
    · rw [if_neg hck] at q'
      exact q'.elim
  · have e : i = it.items.length := by omega
    subst e
    rw [List.drop_length] at q'
    unfold forL at q'
    by_cases hck : it.chk st'
    · rw [if_pos hck] at q'
      exact .inl ⟨io.stp W' H' st' l'.lw ss' hck, q' σ' H' W' (Le.refl _ _) sl' ss'⟩
    · rw [if_neg hck] at q'
      exact q'.elim

/-! ### list comprehensions -/
def wipeM (env : MEnv) : List Nat → MEnv
  | [] => env
  | v :: vs => (wipeM env vs).set v none
theorem wipeM_len (env : MEnv) : ∀ vs, (wipeM env vs).length = env.length
  | [] => rfl
  | v :: vs => by unfold wipeM; rw [List.length_set, wipeM_len env vs]
theorem wipe_at (σ : L2.St) : ∀ (vs : List Nat) (i : Nat), (wipe σ vs)[i]? = if i ∈ vs then (if i < σ.length then some none else none) else σ[i]?
  | [], i => by simp [wipe]
  | v :: vs, i => by
    unfold wipe
    rw [List.getElem?_set, wipe_length]
    by_cases h : v = i
    · subst h; simp
    · rw [if_neg h, wipe_at σ vs i]
      have : i ≠ v := fun e => h e.symm
      simp [this]
theorem wipeM_at (σ : MEnv) : ∀ (vs : List Nat) (i : Nat), (wipeM σ vs)[i]? = if i ∈ vs then (if i < σ.length then some none else none) else σ[i]?
  | [], i => by simp [wipeM]
  | v :: vs, i => by
    unfold wipeM
    rw [List.getElem?_set, wipeM_len]
    by_cases h : v = i
    · subst h; simp
    · rw [if_neg h, wipeM_at σ vs i]
      have : i ≠ v := fun e => h e.symm
      simp [this]
theorem SlotR.wipe {K : PySem.W.Frag} {W : Wd} {H : Hp} {env : MEnv} {σ : L2.St} (h : SlotR K W H env σ) (vs : List Nat) : SlotR K W H (wipeM env vs) (wipe σ vs) := by
  refine ⟨by rw [wipeM_len, wipe_length, h.len], fun i x e => ?_⟩
  rw [wipeM_at] at e
  rw [wipe_at]
  by_cases hi : i ∈ vs
  · rw [if_pos hi] at e
    split at e <;> simp at e
  · rw [if_neg hi] at e ⊢
    exact h.get i x e
theorem wipe_eq {σ σ' : L2.St} {vs : List Nat} (hl : σ'.length = σ.length) (h : ∀ i, i ∉ vs → σ'[i]? = σ[i]?) : wipe σ' vs = wipe σ vs := by
  apply List.ext_getElem?
  intro i
  rw [wipe_at, wipe_at, hl]
  by_cases hi : i ∈ vs
  · rw [if_pos hi, if_pos hi]
  · rw [if_neg hi, if_neg hi, h i hi]
mutual
theorem tgSet_len : ∀ (t : Tg) (x : PV) (st : Sto) (env env' : MEnv), tgSet t x st env = some env' → env'.length = env.length
  | .nm i, x, st, env, env', h => by
    simp only [tgSet, Option.some.injEq] at h
    subst h; simp
  | .tup ts, x, st, env, env', h => by
    simp only [tgSet] at h
    cases e : unpO x st with
    | none => rw [e] at h; cases h
    | some xs =>
      rw [e] at h
      exact tgSets_len ts xs st env env' h
theorem tgSets_len : ∀ (ts : List Tg) (xs : List PV) (st : Sto) (env env' : MEnv), tgSets ts xs st env = some env' → env'.length = env.length
  | [], [], st, env, env', h => by
    simp only [tgSets, Option.some.injEq] at h
    subst h; rfl
  | t :: ts, x :: xs, st, env, env', h => by
    simp only [tgSets] at h
    cases e : tgSet t x st env with
    | none => rw [e] at h; cases h
    | some env1 =>
      rw [e] at h
      rw [tgSets_len ts xs st env1 env' h, tgSet_len t x st env env1 e]
  | [], _ :: _, st, env, env', h => by simp [tgSets] at h
  | _ :: _, [], st, env, env', h => by simp [tgSets] at h
end
def mYes : M Bool := M.pure true
abbrev E00 : EX := fun _ _ _ _ => False
abbrev MTs (X : Cx) (E : EX) (ifs : List Expr) (m : M Bool) : Prop := PTs X ifs (tMB X.K E m)
theorem mts_nil {X : Cx} {E : EX} : MTs X E [] mYes := ⟨fun pins s σ H Q I h => by
  obtain ⟨W, env, st, sl, ss, q⟩ := h
  exact pts_nil.run pins s σ H Q I (q H W (Le.refl _ _) ss)⟩
theorem mts_one {X : Cx} {E : EX} {c : Expr} {m : M Bool} (h : MT X E c m) : MTs X E [c] m := pts_one h
open Classical in
noncomputable def compL (tg : Tg) (it : MIt) (c : M Bool) (el : M PV) : List PV → MEnv → Sto → Option (List PV × Sto)
  | [], _, st => if it.chk st then some ([], st) else none
  | x :: xs, env, st => if it.chk st then
      (match tgSet tg x st env with
      | none => none
      | some env1 => match c env1 st with
        | some (.ok true st1) => match el env1 st1 with
          | some (.ok y st2) => (compL tg it c el xs env st2).map fun r => (y :: r.1, r.2)
          | _ => none
        | some (.ok false st1) => compL tg it c el xs env st1
        | _ => none)
    else none
noncomputable def mLc (tg : Tg) (mi : M MIt) (vs : List Nat) (c : M Bool) (el : M PV) : M (List PV) := mi.bind fun it env st => (compL tg it c el it.items (wipeM env vs) st).map fun r => .ok r.1 r.2
theorem bindIF_at {K : PySem.W.Frag} {E : EX} {W : Wd} {env : MEnv} {st : Sto} {σ : L2.St} {H : Hp} {Q : VK} {ma : M MIt} {f : MIt → M (List PV)} {R : It → Hp → Prop} (sl : SlotR K W H env σ) (ss : SimS K W st H) (h : tMFr K (E σ) W H Q (M.bind ma f env st))
    (k : ∀ J it st1 W1 H1, Le W H W1 H1 → SlotR K W1 H1 env σ → SimS K W1 st1 H1 → ItOk K W1 H1 J it → tMFr K (E σ) W1 H1 Q (f it env st1) → R J H1) : tMI K E ma σ H R := by
  refine ⟨W, env, st, sl, ss, ?_⟩
  unfold M.bind at h
  cases e : ma env st with
  | none => rw [e] at h; exact h
  | some r =>
    rw [e] at h
    cases r with
    | ok x st1 => exact fun J H1 W1 l ss1 io => k J x st1 W1 H1 l (sl.le l) ss1 io (tMFr.le l h)
    | exc x st1 => exact h
/-- a hidden address changes -/
theorem SimS.hidUpd {K : PySem.W.Frag} {W : Wd} {st : Sto} {H : Hp} {D : Addr} (o : HO) (ss : SimS K W st H) (hD : D ∈ W.hid) : (∀ a o', Fz W H a = some o' → Fz W (upd H D o) a = some o') ∧ SimS K W st (upd H D o) := by
  have hF : ∀ a o', Fz W H a = some o' → Fz W (upd H D o) a = some o' := fun a o' e => by
    obtain ⟨h1, h2, h3⟩ := Fz_some.mp e
    exact Fz_some.mpr ⟨h1, h2, by rw [upd_ne fun z => h2 (by rw [z]; exact hD)]; exact h3⟩
  refine ⟨hF, ss.len, ss.nd, ss.dj, fun a ha => ?_, fun i m a e1 e2 => ?_⟩
  · by_cases e : a = D
    · rw [e, upd_same]; simp
    · rw [upd_ne e]; exact ss.hs a ha
  · exact (ss.ob i m a e1 e2).mono hF (List.prefix_refl _) (upd_ne fun e => ss.dj a (List.mem_of_getElem? e2) (by rw [e]; exact hD))
/-- a new address is hidden -/
theorem SimS.hide {K : PySem.W.Frag} {W : Wd} {st : Sto} {H : Hp} {D : Addr} (o : HO) (ss : SimS K W st H) (hD : H D = none) : Le W H ⟨W.ρ, D :: W.hid⟩ (upd H D o) ∧ SimS K ⟨W.ρ, D :: W.hid⟩ st (upd H D o) := by
  have hF : ∀ a o', Fz W H a = some o' → Fz ⟨W.ρ, D :: W.hid⟩ (upd H D o) a = some o' := fun a o' e => by
    obtain ⟨h1, h2, h3⟩ := Fz_some.mp e
    have ne : a ≠ D := ne_of_none h3 hD
    exact Fz_some.mpr ⟨h1, by simp [ne, h2], by rw [upd_ne ne]; exact h3⟩
  refine ⟨⟨List.prefix_refl _, fun a ha => List.mem_cons_of_mem _ ha, hF, fun a ha => upd_ne fun e => ss.new_hid hD (by rw [← e]; exact ha), fun a _ od u e => by rw [upd_ne (ne_of_none e hD)]; exact e⟩, ss.len, ss.nd, fun a ha => ?_, fun a ha => ?_, fun i m a e1 e2 => ?_⟩
  · simp only [List.mem_cons, not_or]
    exact ⟨fun e => ss.new_ρ hD (by rw [← e]; exact ha), ss.dj a ha⟩
  · rcases List.mem_cons.mp ha with rfl | ha
    · rw [upd_same]; simp
    · rw [upd_ne fun e => ss.new_hid hD (by rw [← e]; exact ha)]; exact ss.hs a ha
  · exact (ss.ob i m a e1 e2).mono hF (List.prefix_refl _) (upd_ne fun e => ss.new_ρ hD (by rw [← e]; exact List.mem_of_getElem? e2))
/-- a hidden address is let go -/
def Wd.unhide (W : Wd) (D : Addr) : Wd := ⟨W.ρ, W.hid.filter (· ≠ D)⟩
theorem Fz_unhide {W : Wd} {H : Hp} {D : Addr} (hD : D ∈ W.hid) : ∀ a o, Fz W H a = some o → Fz (W.unhide D) (del H D) a = some o := fun a o e => by
  obtain ⟨h1, h2, h3⟩ := Fz_some.mp e
  refine Fz_some.mpr ⟨h1, fun q => h2 (List.mem_filter.mp q).1, ?_⟩
  rw [del_ne fun z => h2 (by rw [z]; exact hD)]
  exact h3
theorem SimS.unhide {K : PySem.W.Frag} {W : Wd} {st : Sto} {H : Hp} {D : Addr} (ss : SimS K W st H) (hD : D ∈ W.hid) : SimS K (W.unhide D) st (del H D) := by
  refine ⟨ss.len, ss.nd, fun a ha q => ss.dj a ha (List.mem_filter.mp q).1, fun a ha => ?_, fun i m a e1 e2 => ?_⟩
  · obtain ⟨h1, h2⟩ := List.mem_filter.mp ha
    rw [del_ne (by simpa using h2)]
    exact ss.hs a h1
  · exact (ss.ob i m a e1 e2).mono (Fz_unhide hD) (List.prefix_refl _) (del_ne fun e => ss.dj a (List.mem_of_getElem? e2) (by rw [e]; exact hD))
theorem upd_del {H : Hp} {D : Addr} {o : HO} (h : H D = some o) : upd (del H D) D o = H := by
  funext a
  by_cases e : a = D
  · rw [e, upd_same, h]
  · rw [upd_ne e, del_ne e]
theorem lc_body {X : Cx} {E : EX} {own : List (Str × Nat)} {t : Tg} {mi : M MIt} {mc : M Bool} {me : M PV} (hv : ∀ i ∈ t.slots, i ∈ own.map (·.2)) {σ : L2.St} {H : Hp} {Q : VK} (q : tMF X.K E (mLc t mi (own.map (·.2)) mc me) σ H Q) :
    tLc (tMI X.K E mi) (tTg X.K t) (tMB X.K E00 mc) (tM X.K E00 me) (own.map (·.2)) σ H Q := by
  obtain ⟨W, env, st, sl, ss, q⟩ := q
  refine bindIF_at sl ss q fun J it st1 W1 H1 l1 sl1 ss1 io q1 => ?_
  intro D hD
  cases er : compL t it mc me it.items (wipeM env (own.map (·.2))) st1 with
  | none => rw [er] at q1; exact q1.elim
  | some r =>
    rw [er] at q1
    obtain ⟨ys, stE⟩ := r
    have q1 : ∀ p us H' W', Le W1 H1 W' H' → SimS X.K W' stE H' → RpL X.K W' H' ys us → ys.length ≤ sizeLine → H' p = none → Q (.ref p) (upd H' p (.lst us)) := q1
    let Wv : Nat → Nat → Hp → Prop := fun i m H' => ∃ W' st' acc done rest, Le W1 H1 W' H' ∧ SimS X.K W' st' H' ∧ D ∈ W'.hid ∧ H' D = some (.lst acc) ∧ RpL X.K W' H' done acc ∧ i ≤ it.items.length ∧ done.length ≤ i ∧ m = it.items.length - i ∧
      compL t it mc me (it.items.drop i) (wipeM env (own.map (·.2))) st' = some (rest, stE) ∧ done ++ rest = ys
    obtain ⟨lh, sh⟩ := ss1.hide (.lst []) hD
    refine ⟨Wv, ⟨it.items.length, ⟨W1.ρ, D :: W1.hid⟩, st1, [], [], ys, lh, sh, List.mem_cons_self, upd_same, RepL.nil, Nat.zero_le _, Nat.le_refl _, by simp, by simpa using er, rfl⟩, ?_⟩
    rintro i m H' ⟨W', st', acc, done, rest, l', ss', hDh, hDa, racc, hil, hdl, hm, hr, hys⟩
    by_cases hlt : i < it.items.length
    · rw [drop_cons hlt] at hr
      unfold compL at hr
      by_cases hck : it.chk st'
      · rw [if_pos hck] at hr
        refine .inr ⟨io.go i hlt W' H' st' l'.lw ss' hck, fun H'' => ∃ m', m' < m ∧ Wv (i + 1) m' H'', fun H'' h => h, fun v H'' y => ?_⟩
        obtain ⟨l2, ss2, rx⟩ := io.yl i _ (List.getElem?_eq_getElem hlt) W' H' st' v H'' l'.lw ss' hck y
        cases et : tgSet t it.items[i] st' (wipeM env (own.map (·.2))) with
        | none => rw [et] at hr; cases hr
        | some env1 =>
          rw [et] at hr
          have slw : SlotR X.K W' H'' (wipeM env (own.map (·.2))) (wipe σ (own.map (·.2))) := ((sl1.le l').le l2).wipe _
          refine ⟨W', _, st', _, env1, slw, ss2, rx, et, fun σ2 sl2 hk => ⟨?_, ?_⟩⟩
          · have hl2 : σ2.length = (wipe σ (own.map (·.2))).length := by rw [← sl2.len, tgSet_len _ _ _ _ _ et, slw.len]
            rw [wipe_eq hl2 fun j hj => hk j fun z => hj (hv j z)]
            exact wipe_eq (wipe_length _ _) fun j hj => by rw [wipe_at, if_neg hj]
          · cases ec : mc env1 st' with
            | none => simp only [ec] at hr; cases hr
            | some rc =>
              cases rc with
              | exc x s => simp only [ec] at hr; cases hr
              | ok b st2 =>
                refine ⟨W', env1, st', sl2, ss2, ?_⟩
                rw [ec]
                intro H3 W3 l3 ss3
                have hD3 : H3 D = some (.lst acc) := (l3.keep D (l2.hid D hDh)).trans ((l2.keep D hDh).trans hDa)
                have hDh3 : D ∈ W3.hid := l3.hid D (l2.hid D hDh)
                have racc3 : RpL X.K W3 H3 done acc := (racc.le l2).le l3
                cases b with
                | false =>
                  simp only [ec] at hr
                  rw [if_neg Bool.false_ne_true]
                  exact ⟨it.items.length - (i + 1), by omega, W3, st2, acc, done, rest, l'.trans (l2.trans l3), ss3, hDh3, hD3, racc3, hlt, by omega, rfl, hr, hys⟩
                | true =>
                  simp only [ec] at hr
                  rw [if_pos rfl]
                  cases ee : me env1 st2 with
                  | none => simp only [ee] at hr; cases hr
                  | some re =>
                    cases re with
                    | exc x s => simp only [ee] at hr; cases hr
                    | ok z st3 =>
                      simp only [ee] at hr
                      refine ⟨W3, env1, st2, sl2.le l3, ss3, ?_⟩
                      rw [ee]
                      intro u H4 W4 l4 ss4 rz
                      have hD4 : H4 D = some (.lst acc) := (l4.keep D hDh3).trans hD3
                      have hDh4 : D ∈ W4.hid := l4.hid D hDh3
                      have hsz := io.sz
                      have hla : acc.length = done.length := racc.len
                      refine ⟨acc, hD4, by omega, it.items.length - (i + 1), by omega, ?_⟩
                      cases er2 : compL t it mc me (it.items.drop (i + 1)) (wipeM env (own.map (·.2))) st3 with
                      | none => rw [er2] at hr; cases hr
                      | some r2 =>
                        rw [er2] at hr
                        obtain ⟨rest2, stE2⟩ := r2
                        simp only [Option.map_some, Option.some.injEq, Prod.mk.injEq] at hr
                        obtain ⟨hr1, rfl⟩ := hr
                        obtain ⟨hF, ss5⟩ := ss4.hidUpd (.lst (acc ++ [u])) hDh4
                        have l5 : Le W1 H1 W4 (upd H4 D (.lst (acc ++ [u]))) := by
                          have l := l'.trans (l2.trans (l3.trans l4))
                          refine ⟨l.pre, l.hid, fun a o e => hF a o (l.fz a o e), fun a ha => ?_, fun a ha od u e => by rw [upd_ne (ne_of_none e hD)]; exact l.loc a ha od u e⟩
                          rw [upd_ne fun e => ss1.new_hid hD (by rw [← e]; exact ha)]
                          exact l.keep a ha
                        refine ⟨W4, st3, acc ++ [u], done ++ [z], rest2, l5, ss5, hDh4, upd_same, ?_, hlt, by simp; omega, rfl, er2, by rw [← hys, ← hr1]; simp⟩
                        exact RepL.mono hF (List.prefix_refl _) _ _ (RepL.append (racc3.le l4) (RepL.cons rz RepL.nil))
      · rw [if_neg hck] at hr
        cases hr
    · have e : i = it.items.length := by omega
      subst e
      rw [List.drop_length] at hr
      unfold compL at hr
      by_cases hck : it.chk st'
      · rw [if_pos hck] at hr
        simp only [Option.some.injEq, Prod.mk.injEq] at hr
        obtain ⟨rfl, rfl⟩ := hr
        refine .inl ⟨io.stp W' H' st' l'.lw ss' hck, ?_⟩
        have hys' : done = ys := by rw [← hys, List.append_nil]
        subst hys'
        have hsz := io.sz
        rw [← upd_del hDa]
        refine q1 D acc (del H' D) (W'.unhide D) ⟨l'.pre, fun a ha => List.mem_filter.mpr ⟨l'.hid a ha, ?_⟩, fun a o e => Fz_unhide hDh a o (l'.fz a o e), fun a ha => ?_, fun a ha od u e => by rw [del_ne (ne_of_none e hD)]; exact l'.loc a ha od u e⟩ (ss'.unhide hDh) (RepL.mono (Fz_unhide hDh) (List.prefix_refl _) _ _ racc) (by omega) del_same
        · simp only [decide_eq_true_eq, ne_eq, decide_not, Bool.not_eq_eq_eq_not, Bool.not_true, decide_eq_false_iff_not]
          exact fun e => ss1.new_hid hD (by rw [← e]; exact ha)
        · rw [del_ne fun e => ss1.new_hid hD (by rw [← e]; exact ha)]
          exact l'.keep a ha
      · rw [if_neg hck] at hr
        cases hr
theorem f_lc {X : Cx} {E : EX} {elt tg iter : Expr} {ifs : List Expr} {scope : Scope} {own : List (Str × Nat)} {pos : Pos} {t : Tg} {mi : M MIt} {mc : M Bool} {me : M PV} (hc : X.calm = true) (hN : X.N.Nodup) (hi : MI X E tg iter mi) (ok : BlkOk X.N X.env.scope scope own)
    (hg : ∀ (s : Shared) (H : Hp) (C : Addr) (cl : List (Str × Addr)) (fp : List Addr), MG (X.blk s H scope (compEnvC scope cl C X.env) fp) tg t)
    (ht : ∀ (s : Shared) (H : Hp) (C : Addr) (cl : List (Str × Addr)) (fp : List Addr), MTs (X.blk s H scope (compEnvC scope cl C X.env) fp) E00 ifs mc)
    (he : ∀ (s : Shared) (H : Hp) (C : Addr) (cl : List (Str × Addr)) (fp : List Addr), ME (X.blk s H scope (compEnvC scope cl C X.env) fp) E00 elt me)
    (hv : ∀ i ∈ t.slots, i ∈ own.map (·.2) := by decide) (hs : ∀ x, foldedSetIterable iter X.env x = pure x := by intro _; rfl) :
    MF X E (.ListComp elt [⟨tg, iter, ifs, 0⟩] scope pos) (mLc t mi (own.map (·.2)) mc me) := by
  exact peW (pe_lc (g := tTg X.K t) (tt := tMB X.K E00 mc) (te := tM X.K E00 me) hc hN hi ok hg ht he hs) fun σ H Q q => lc_body hv q
end Mi

/-! MiG: a def's promise where no display is being shown around it (so that repr of lists and tuples can be told within). -/
namespace Mi
open PySem PySem.Spec PyProof.Rows L2

/-- as FnOk, asked only where nothing is guarded around -/
structure FnG (P : Program) (w : World) (K : PySem.W.Frag) (mg : Str → Option Value) (base : Heap) (CX : CXT) (k : Nat) (f : Addr) (fd : FuncData) (ps : List Str) (sp : Sp) : Prop where
  len : ∀ vs H Q E, sp vs H Q E → vs.length = ps.length
  run : ∀ (A : Around) (outer : List Env) (s : Shared) (H : Hp) (args : Args) (us : List Value) (vs : List V) (Q : VK) (E : XK),
    A.guards = some [] → Room k A → Env0 P w K mg base A outer s H → BindsTo s fd args (ps.zip us) → Vals vs us → sp vs H Q E →
    codeAny (model P w) A (.call (.ref f) args) (CR CX outer P w H s Q E) s
section
variable {P : Program} {w : World} {K : PySem.W.Frag} {mg : Str → Option Value} {base : Heap} {CX : CXT} {k j : Nat} {f : Addr} {fd : FuncData} {ps : List Str} {sp sp' : Sp}
theorem FnG.up (F : FnG P w K mg base CX j f fd ps sp) (h : j ≤ k) : FnG P w K mg base CX k f fd ps sp :=
  ⟨F.len, fun A o s H args us vs Q E hg hr => F.run A o s H args us vs Q E hg (hr.mono h)⟩
theorem FnG.weaken (F : FnG P w K mg base CX k f fd ps sp) (h : ∀ vs H Q E, sp' vs H Q E → sp vs H Q E) : FnG P w K mg base CX k f fd ps sp' :=
  ⟨fun vs H Q E q => F.len vs H Q E (h _ _ _ _ q), fun A o s H args us vs Q E hg hr e b v q => F.run A o s H args us vs Q E hg hr e b v (h _ _ _ _ q)⟩
/-- a def of the text by its body -/
theorem fnG_of {x qual : Str} {st : Stmt} {N : List Str} (F : Fun K x qual st f fd) (S : FnScope N ps (defScope st)) (len : ∀ vs H Q E, sp vs H Q E → vs.length = ps.length)
    (body : ∀ (cdv : Value) (A : Around) (outer : List Env) (s : Shared) (H : Hp) (vs : List V) (Q : VK) (E : XK), A.guards = some [] →
      Room k (A.deeper (envOfC qual (defScope st) s.heap.objs.size f cdv)) → sp vs H Q E →
      ∃ t, PSs (cxOf CX P w K mg base N qual (defScope st) f cdv A outer s H E) (defBody st) t ∧ t { nx := fun _ H' => Q .non H', rt := Q } (L2.start N vs) H) :
    FnG P w K mg base CX (k + 1) f fd ps sp := by
  obtain ⟨oc, od, kV, doc, pm, an, cdv, ct, osl, rfl, lk, hcd⟩ := F.ex
  constructor
  · exact len
  intro A outer s H args us vs Q E hg hr e0 hb r hsp
  have inK : K.In s.heap := e0.mod.kin.keeps fun b o e => (e0.bs b o e).1
  have noL : s.heap.NoLimit := e0.mod.nolimit.keeps fun b o e => (e0.bs b o e).1
  have places : ∀ y ∈ ps.zip us, (defScope st).names.lookup y.1 = some .local ∨
      ((defScope st).names.lookup y.1 = some .cell ∧ ((cellsFrom (s.heap.objs.size + 1) (defScope st).names []).lookup y.1).isSome = true) := by
    intro y hy
    have hm : y.1 ∈ ps := (List.of_mem_zip (a := y.1) (b := y.2) hy).1
    rcases S.par y.1 hm with q | q
    · exact .inl q
    · exact .inr ⟨q, PySem.W.cellsFrom_some _ _ _ (.inl q)⟩
  have dep : A.depth < recursionLimit := by have := hr.dp; omega
  refine codeAny_call_function dep (inK _ _ lk) rfl S.co S.gen rfl (PySem.W.codeRec_of inK hcd) (hb _ _ _ _ ?_)
  refine wpAny_newFunctionEnv_cells S.kind places ?_
  intro env henv s1 x
  subst henv
  refine ⟨noL.keeps x.toInCall.keep, codeAny_func ?_⟩
  obtain ⟨t, ht, hq⟩ := body cdv A outer s H vs Q E hg (hr.deeper _) hsp
  have I := inv_start (CX := CX) (E := E) S hr.hd e0 (len _ _ _ _ hsp) r x
  refine wpAny_mono (ht.run [] s1 (L2.start N vs) H _ I hq) ?_ (fun e s' h => h)
  intro fl s' hs
  cases fl with
  | ret u => obtain ⟨v, σ', H', J, rv, q⟩ := hs; exact ⟨v, H', J.os, J.bare, J.base, J.hok, rv, q⟩
  | next => obtain ⟨σ', H', J, q⟩ := hs; exact ⟨.non, H', J.os, J.bare, J.base, J.hok, rfl, q⟩
  | brk => obtain ⟨_, _, _, q⟩ := hs; exact q.elim
  | cont => obtain ⟨_, _, _, q⟩ := hs; exact q.elim
end
section
variable {X : Cx} {CX : CXT} {k : Nat} {f : Addr} {fd : FuncData} {ps : List Str} {sp : Sp} {E : XK} {x : Str} {p pos : Pos} {e : Expr} {es : List Expr} {t : TA}
theorem runG {pins : List (Addr × Obj)} {σ : L2.St} {H : Hp} {s : Shared} {Q : VK} {us : List Value} {vs : List V} (F : FnG X.prog X.w X.K X.mg X.base CX k f fd ps sp) (hg : X.A.guards = some []) (hr : Room k X.A) (hb : Binds X.K fd ps []) (hx : Passes CX X E)
    (I : Inv X pins σ H s) (r : Vals vs us) (h : sp vs H Q E) : wpAny (model X.prog X.w) X.A (call (.ref f) us) (EP X pins σ Q) X.xe s := by
  have hl : us.length = ps.length := r.length.symm.trans (F.len _ _ _ _ h)
  have b := hb s us I.kIn (by rw [List.append_nil]; exact hl)
  rw [List.append_nil] at b
  refine wpAny_call (codeAny_mono (F.run X.A X.stack s H ⟨us, []⟩ us vs Q E hg hr I.env0 b r h) ?_)
  intro res s' hq
  match res, hq with
  | .error e, hq => exact hx pins σ H s e s' I hq
  | .ok (.ret u), hq => exact I.after hq
  | .ok .next, hq => exact hq.elim
  | .ok .brk, hq => exact hq.elim
  | .ok .cont, hq => exact hq.elim
theorem pe_callG (F : FnG X.prog X.w X.K X.mg X.base CX k f fd ps sp) (hG : X.A.guards = some []) (hr : Room k X.A) (hg : Gl X x) (hm : X.mg x = some (.ref f)) (hk : PySem.W.keepIn X.K (.ref f) = true) (hb : Binds X.K fd ps []) (hx : Passes CX X E)
    (ha : PA X (e :: es) t) (hdb : (x == ("__debug__" : Str)) = false := by decide) (he : starEach (e :: es) X.env = (false, eval e X.env) :: starEach es X.env := by rfl) (hpl : (backTo pos (starEach es X.env)).any (·.1) = false := by rfl) :
    PE X (.Call (.Name x p) (e :: es) [] pos) (fun σ H Q => t σ H fun vs H1 => sp vs H1 Q E) := by
  constructor
  intro pins s σ H Q I h
  refine wpAny_Call_Name_kw (ld_glob I hg hm (PySem.W.callWith_K (h₀ := X.base) I.ok.mod.kin hk (thn (ha.run pos pins s σ H _ I h) ?_) he hpl) hdb)
  intro us s1 q
  obtain ⟨vs, H1, I1, r, q⟩ := q
  exact ⟨I1.kIn, runG F hG hr hb hx I1 r q⟩
end

/-! ### the law itself -/
/-- what is tracked at the law's entry: the script alone -/
def H0 (K : PySem.W.Frag) (a : Addr) (vs : List Value) (ns : List Int) : Hp := fun b => if b = a ∧ K.lookup a = none then some (.frz { cls := .type "list", data := .seq vs.toArray } (.lst (ns.map V.int))) else none
theorem H0_inv {K : PySem.W.Frag} {a b : Addr} {vs : List Value} {ns : List Int} {u : HO} (h : H0 K a vs ns b = some u) : b = a ∧ K.lookup a = none ∧ u = .frz { cls := .type "list", data := .seq vs.toArray } (.lst (ns.map V.int)) := by
  unfold H0 at h
  split at h
  · rename_i hc; cases h; exact ⟨hc.1, hc.2, rfl⟩
  · cases h
theorem H0_none {K : PySem.W.Frag} {a b : Addr} {vs : List Value} {ns : List Int} (h : b ≠ a ∨ K.lookup a ≠ none) : H0 K a vs ns b = none := by
  unfold H0
  rw [if_neg]
  rintro ⟨h1, h2⟩
  rcases h with h | h
  · exact h h1
  · exact h h2
theorem law_callG {P : Program} {w : World} {K : PySem.W.Frag} {mg mb : Str → Option Value} {k : Nat} {fa a : Addr} {fd : FuncData} {x : Str} {sp : Sp} {s₁ : Shared} {vs : List Value} {ns : List Int}
    (KX : K.In s₁.heap) (hns : s₁.heap.Ns mainGlobals mg) (hb : s₁.heap.Ns builtinsNs mb) (hbb : ∀ x : Str, x ≠ "__name__" → mb x = bootBuiltins x) (hlim : s₁.heap.NoLimit) (hg : s₁.gens = #[])
    (ha : s₁.heap.get? a = some { cls := .type "list", data := .seq vs.toArray }) (hi : IntsAre vs ns) (hl : ns.length ≤ sizeLine) (hr : Room k callerA)
    (F : ∀ base : Heap, K.In base → base.Ns mainGlobals mg → FnG P w K mg base CX0 k fa fd [x] sp) (hbind : ∀ (s : Shared) (u : Value), BindsTo s fd ⟨[u], []⟩ [(x, u)])
    (hsp : ∀ H : Hp, SqL K H a (ns.map V.int) → sp [.ref a] H (fun v _ => v = .bl true) fun _ _ _ => False) :
    codeAny (model P w) callerA (.call (.ref fa) ⟨[.ref a], []⟩) (fun r s' => r = .ok (.ret (.bool true)) ∧ OldK s₁.heap s'.heap ∧ s'.os = s₁.os ∧ AllBare s'.gens) s₁ := by
  have rv : Vals (ns.map V.int) vs := vals_ints hi
  have hlen : vs.length = ns.length := by have := rv.length; simpa using this.symm
  generalize hH : H0 K a vs ns = H
  have inv : ∀ {b u}, H b = some u → b = a ∧ K.lookup a = none ∧ u = .frz { cls := .type "list", data := .seq vs.toArray } (.lst (ns.map V.int)) := fun h => H0_inv (by rw [hH]; exact h)
  have hok : HOk P w H s₁.heap := by
    intro b u h
    obtain ⟨rfl, _, rfl⟩ := inv h
    exact ⟨ha, by rw [List.length_map]; exact hl, vs, _, rv, ha⟩
  have low : ∀ {b : Addr} {o : Obj}, s₁.heap.get? b = some o → H b = none → (hidT s₁.heap H).get? b = some o := fun e n => hidT_get e n
  have dictFree : ∀ {b : Addr} {o : Obj} {es : Array DictEntry} {n : Nat}, s₁.heap.get? b = some o → o.data = .dict es n → H b = none := by
    intro b o es n e d
    cases q : H b with
    | none => rfl
    | some u =>
      obtain ⟨rfl, _, _⟩ := inv q
      rw [ha] at e
      injection e with e
      rw [← e] at d
      have d' : Data.seq vs.toArray _ = Data.dict es n := d
      cases d'
  have nsLow : ∀ {b : Addr} {m : Str → Option Value}, s₁.heap.Ns b m → (hidT s₁.heap H).Ns b m := by
    rintro b m ⟨o, es, n, e, d, r⟩
    exact ⟨o, es, n, low e (dictFree e d), d, r⟩
  have kLow : K.In (hidT s₁.heap H) := by
    intro b o e
    refine low (KX b o e) ?_
    cases q : H b with
    | none => rfl
    | some u =>
      obtain ⟨rfl, z, _⟩ := inv q
      rw [z] at e; cases e
  have md : Mod K mg (hidT s₁.heap H) := by
    obtain ⟨mc, h1, h2⟩ := hlim
    exact ⟨kLow, nsLow hns, ⟨mb, nsLow hb, hbb⟩, ⟨mc, nsLow h1, h2⟩⟩
  have nof : ∀ b, b ∉ frs ([] : List Env) := fun b hb => absurd (show b ∈ ([] : List Addr) from hb) (by simp)
  have e0 : Env0 P w K mg (hidT s₁.heap H) callerA [] s₁ H :=
    { frames := rfl, mod := md, bs := fun b o e => of_hidT e, bsz := Nat.le_of_eq (hidT_size _ _), funs := trivial, frf := fun b hb => absurd hb (nof b), hok := hok, bare := .of_eq hg }
  have seq : SqL K H a (ns.map V.int) := by
    cases hk : K.lookup a with
    | none => exact .inl (.inr ⟨{ cls := .type "list", data := .seq vs.toArray }, by rw [← hH]; exact if_pos ⟨rfl, hk⟩⟩)
    | some o =>
      have e := KX a o hk
      rw [ha] at e
      cases e
      exact .inr ⟨_, vs.toArray, _, hk, rfl, rfl, rfl, by rw [List.size_toArray, hlen]; exact hl, by simpa using rv⟩
  refine codeAny_mono ((F _ kLow (nsLow hns)).run callerA [] s₁ H ⟨[.ref a], []⟩ [.ref a] [.ref a] _ _ rfl hr e0 (hbind s₁ (.ref a)) (.cons rfl .nil) (hsp H seq)) ?_
  intro res s' h
  match res, h with
  | .error e, h => exact h.elim
  | .ok .next, h => exact h.elim
  | .ok .brk, h => exact h.elim
  | .ok .cont, h => exact h.elim
  | .ok (.ret u), h =>
    obtain ⟨v, H', os, bare, un, hok', r', q⟩ := h
    have q : v = .bl true := q
    subst q
    have r' : u = Value.bool true := r'
    subst r'
    refine ⟨rfl, OldK.of_keep ?_, os, bare⟩
    intro b o e
    cases q : H b with
    | none => exact un.keep b o e q (nof b) (by simp)
    | some u =>
      obtain ⟨rfl, hk, rfl⟩ := inv q
      have later := un.frzs b _ _ q
      have e2 := (hok' b _ later).1
      rw [ha] at e
      injection e with e
      rw [← e]
      exact e2
theorem walk_ofG {l : PySem.W.OpenLaw} {n k : Nat} {q : Program} {loose : List Str} {XP : (Str → Option Value) → Heap → Prop} {YP : World → Heap → Prop} {d : DefRec} {K : Params → PySem.W.Frag} {sp : World → Sp} {x : Str}
    (hn : l.most = some n) (hn2 : n ≤ sizeLine) (hdf : d.params.defaults = []) (hr : Room k callerA)
    (hY : ∀ (w : World) (h : Heap), YP w h → (K w.params).In h)
    (F : ∀ (w : World) (mg : Str → Option Value) (fa : Addr) (h : Heap), (K w.params).In h → h.Ns mainGlobals mg → mg d.name = some (.ref fa) →
      ∃ fd : FuncData, (∀ (s : Shared) (u : Value), BindsTo s fd ⟨[u], []⟩ [(x, u)]) ∧
        ∀ base : Heap, (K w.params).In base → base.Ns mainGlobals mg → FnG l.prog w (K w.params) mg base CX0 k fa fd [x] (sp w))
    (hsp : ∀ (w : World) (H : Hp) (a : Addr) (ns : List Int), ns.length ≤ n → SqL (K w.params) H a (ns.map V.int) → sp w [.ref a] H (fun v _ => v = .bl true) fun _ _ _ => False) :
    PySem.W.WalkO q loose XP YP l.row.toRowW d [] (fun f vs => PySem.call f vs) := by
  refine Att.attach_call hn hdf ?_
  intro w s₀ s₁ mg mb fa o pm cd doc a vs ns G Y ho hd hcd hmg hobj hints hlen hg
  have KX := hY w _ Y
  obtain ⟨fd, hb, hF⟩ := F w mg fa _ KX G.T.g hmg
  exact law_callG KX G.T.g G.T.b G.T.builtins G.T.nolimit hg hobj hints (Nat.le_trans hlen hn2) hr hF hb fun H hS => hsp w H a ns hlen hS
end Mi

/-! Mi5: defs and their calls. -/
namespace Mi
open PySem PySem.Spec PyProof.Rows L2

abbrev FnM := List PV → Sto → Option (Res PV)
mutual
def PV.pure : PV → Bool
  | .ref _ => false
  | .tup xs => PV.pureL xs
  | .lst xs => PV.pureL xs
  | .rol xs => PV.pureL xs
  | .dic ps => PV.pureD ps
  | .exc _ fs => PV.pureF fs
  | _ => true
def PV.pureL : List PV → Bool
  | [] => true
  | x :: xs => x.pure && PV.pureL xs
def PV.pureD : List (PV × PV) → Bool
  | [] => true
  | (k, x) :: xs => k.pure && (x.pure && PV.pureD xs)
def PV.pureF : List (Str × PV) → Bool
  | [] => true
  | (_, x) :: xs => x.pure && PV.pureF xs
end
def MO.pure : MO → Bool
  | .lst xs => PV.pureL xs
  | .dic ps => PV.pureD ps
  | .loc _ => false
section
variable {K : PySem.W.Frag} {F : Hp} {ρ ρ' : List Addr}
mutual
theorem Rep.pure : ∀ (x : PV) (v : V), x.pure = true → Rep K F ρ x v → Rep K F ρ' x v
  | .non, v, _, h => by simp only [Rep] at h ⊢; exact h
  | .bl b, v, _, h => by simp only [Rep] at h ⊢; exact h
  | .int i, v, _, h => by simp only [Rep] at h ⊢; exact h
  | .str x, v, _, h => by simp only [Rep] at h ⊢; exact h
  | .tup xs, v, p, h => by
    simp only [Rep] at h ⊢
    simp only [PV.pure] at p
    obtain ⟨a, vs, e, hs, hl, hz⟩ := h
    exact ⟨a, vs, e, hs, RepL.pure xs vs p hl, hz⟩
  | .lst xs, v, p, h => by
    simp only [Rep] at h ⊢
    simp only [PV.pure] at p
    obtain ⟨a, vs, e, hs, hl, hz⟩ := h
    exact ⟨a, vs, e, hs, RepL.pure xs vs p hl, hz⟩
  | .rol xs, v, p, h => by
    simp only [Rep] at h ⊢
    simp only [PV.pure] at p
    obtain ⟨a, vs, e, hs, hl, hz⟩ := h
    exact ⟨a, vs, e, hs, RepL.pure xs vs p hl, hz⟩
  | .dic ps, v, p, h => by
    simp only [Rep] at h ⊢
    simp only [PV.pure] at p
    obtain ⟨a, ks, e, hs, hl, hz⟩ := h
    exact ⟨a, ks, e, hs, RepD.pure ps ks p hl, hz⟩
  | .ref i, v, p, h => by simp [PV.pure] at p
  | .opq w, v, _, h => by simp only [Rep] at h ⊢; exact h
  | .exc C fs, v, p, h => by
    simp only [Rep] at h ⊢
    simp only [PV.pure] at p
    obtain ⟨hk, a, e, h⟩ := h
    refine ⟨hk, a, e, ?_⟩
    rcases h with ⟨h0, h1⟩ | ⟨d, ks, h1, h2, hl⟩
    · exact .inl ⟨h0, h1⟩
    · exact .inr ⟨d, ks, h1, h2, RepF.pure fs ks p hl⟩
theorem RepL.pure : ∀ (xs : List PV) (vs : List V), PV.pureL xs = true → RepL K F ρ xs vs → RepL K F ρ' xs vs
  | [], vs, _, h => by simp only [RepL] at h ⊢; exact h
  | x :: xs, vs, p, h => by
    simp only [RepL] at h ⊢
    simp only [PV.pureL, Bool.and_eq_true] at p
    obtain ⟨v, r, e, h1, h2⟩ := h
    exact ⟨v, r, e, Rep.pure x v p.1 h1, RepL.pure xs r p.2 h2⟩
theorem RepD.pure : ∀ (ps : List (PV × PV)) (ks : List (Key × V)), PV.pureD ps = true → RepD K F ρ ps ks → RepD K F ρ' ps ks
  | [], ks, _, h => by simp only [RepD] at h ⊢; exact h
  | (k, x) :: ps, ks, p, h => by
    simp only [RepD] at h ⊢
    simp only [PV.pureD, Bool.and_eq_true] at p
    obtain ⟨kk, v, r, e, e2, h1, h2⟩ := h
    exact ⟨kk, v, r, e, e2, Rep.pure x v p.2.1 h1, RepD.pure ps r p.2.2 h2⟩
theorem RepF.pure : ∀ (ps : List (Str × PV)) (ks : List (Str × V)), PV.pureF ps = true → RepF K F ρ ps ks → RepF K F ρ' ps ks
  | [], ks, _, h => by simp only [RepF] at h ⊢; exact h
  | (k, x) :: ps, ks, p, h => by
    simp only [RepF] at h ⊢
    simp only [PV.pureF, Bool.and_eq_true] at p
    obtain ⟨v, r, e, h1, h2⟩ := h
    exact ⟨v, r, e, Rep.pure x v p.1 h1, RepF.pure ps r p.2 h2⟩
end
variable {F0 F1 : Hp}
/-- references that an elder world knows are known by it still -/
theorem ref_back {F0 F1 : Hp} (hF : ∀ a o, F a = some o → F1 a = some o) (hρ : ρ <+: ρ') : True := trivial
mutual
theorem Rep.cut (hF : ∀ a o, F a = some o → F1 a = some o) (hρ : ρ <+: ρ') : ∀ (x : PV) (v0 v : V), Rep K F0 ρ x v0 → Rep K F ρ' x v → Rep K F1 ρ x v
  | .non, v0, v, _, h => by simp only [Rep] at h ⊢; exact h
  | .bl b, v0, v, _, h => by simp only [Rep] at h ⊢; exact h
  | .int i, v0, v, _, h => by simp only [Rep] at h ⊢; exact h
  | .str x, v0, v, _, h => by simp only [Rep] at h ⊢; exact h
  | .tup xs, v0, v, g, h => by
    simp only [Rep] at g h ⊢
    obtain ⟨_, _, _, _, gl, _⟩ := g
    obtain ⟨a, vs, e, hs, hl, hz⟩ := h
    exact ⟨a, vs, e, SqN.mono hF hs, RepL.cut hF hρ xs _ vs gl hl, hz⟩
  | .lst xs, v0, v, g, h => by
    simp only [Rep] at g h ⊢
    obtain ⟨_, _, _, _, gl, _⟩ := g
    obtain ⟨a, vs, e, hs, hl, hz⟩ := h
    exact ⟨a, vs, e, hF _ _ hs, RepL.cut hF hρ xs _ vs gl hl, hz⟩
  | .rol xs, v0, v, g, h => by
    simp only [Rep] at g h ⊢
    obtain ⟨_, _, _, _, gl, _⟩ := g
    obtain ⟨a, vs, e, hs, hl, hz⟩ := h
    exact ⟨a, vs, e, SqL.mono hF hs, RepL.cut hF hρ xs _ vs gl hl, hz⟩
  | .dic ps, v0, v, g, h => by
    simp only [Rep] at g h ⊢
    obtain ⟨_, _, _, _, gl, _⟩ := g
    obtain ⟨a, ks, e, hs, hl, hz⟩ := h
    exact ⟨a, ks, e, Rd.mono hF hs, RepD.cut hF hρ ps _ ks gl hl, hz⟩
  | .ref i, v0, v, g, h => by
    simp only [Rep] at g h ⊢
    obtain ⟨a0, _, g⟩ := g
    obtain ⟨a, e, h⟩ := h
    have := pre_get hρ g
    rw [this] at h
    cases h
    exact ⟨a0, e, g⟩
  | .opq w, v0, v, _, h => by simp only [Rep] at h ⊢; exact h
  | .exc C fs, v0, v, g, h => by
    simp only [Rep] at g h ⊢
    obtain ⟨_, a0, _, g⟩ := g
    obtain ⟨hk, a, e, h⟩ := h
    refine ⟨hk, a, e, ?_⟩
    rcases h with ⟨h0, h1⟩ | ⟨d, ks, h1, h2, hl⟩
    · exact .inl ⟨h0, hF _ _ h1⟩
    · rcases g with ⟨g0, _⟩ | ⟨_, _, _, _, gl⟩
      · subst g0
        exact .inr ⟨d, ks, hF _ _ h1, hF _ _ h2, by simp only [RepF] at hl ⊢; exact hl⟩
      · exact .inr ⟨d, ks, hF _ _ h1, hF _ _ h2, RepF.cut hF hρ fs _ ks gl hl⟩
theorem RepL.cut (hF : ∀ a o, F a = some o → F1 a = some o) (hρ : ρ <+: ρ') : ∀ (xs : List PV) (v0 vs : List V), RepL K F0 ρ xs v0 → RepL K F ρ' xs vs → RepL K F1 ρ xs vs
  | [], v0, vs, _, h => by simp only [RepL] at h ⊢; exact h
  | x :: xs, v0, vs, g, h => by
    simp only [RepL] at g h ⊢
    obtain ⟨_, _, _, g1, g2⟩ := g
    obtain ⟨v, r, e, h1, h2⟩ := h
    exact ⟨v, r, e, Rep.cut hF hρ x _ v g1 h1, RepL.cut hF hρ xs _ r g2 h2⟩
theorem RepD.cut (hF : ∀ a o, F a = some o → F1 a = some o) (hρ : ρ <+: ρ') : ∀ (ps : List (PV × PV)) (k0 ks : List (Key × V)), RepD K F0 ρ ps k0 → RepD K F ρ' ps ks → RepD K F1 ρ ps ks
  | [], k0, ks, _, h => by simp only [RepD] at h ⊢; exact h
  | (k, x) :: ps, k0, ks, g, h => by
    simp only [RepD] at g h ⊢
    obtain ⟨_, _, _, _, _, g1, g2⟩ := g
    obtain ⟨kk, v, r, e, e2, h1, h2⟩ := h
    exact ⟨kk, v, r, e, e2, Rep.cut hF hρ x _ v g1 h1, RepD.cut hF hρ ps _ r g2 h2⟩
theorem RepF.cut (hF : ∀ a o, F a = some o → F1 a = some o) (hρ : ρ <+: ρ') : ∀ (ps : List (Str × PV)) (k0 ks : List (Str × V)), RepF K F0 ρ ps k0 → RepF K F ρ' ps ks → RepF K F1 ρ ps ks
  | [], k0, ks, _, h => by simp only [RepF] at h ⊢; exact h
  | (k, x) :: ps, k0, ks, g, h => by
    simp only [RepF] at g h ⊢
    obtain ⟨_, _, _, g1, g2⟩ := g
    obtain ⟨v, r, e, h1, h2⟩ := h
    exact ⟨v, r, e, Rep.cut hF hρ x _ v g1 h1, RepF.cut hF hρ ps _ r g2 h2⟩
end
end

/-! ### a def's end -/
def finP : Option SRes → Option (Res PV)
  | some (.ret v s) => some (.ok v s)
  | some (.next _ s) => some (.ok .non s)
  | some (.exc x _ s) => some (.exc x s)
  | _ => none
/-- the value by value, where its objects are let go -/
def frz (n : Nat) (st : Sto) : PV → Option PV
  | .ref i => if i < n then some (.ref i) else match st[i]? with
    | some (.lst ys) => if PV.pureL ys then some (.lst ys) else none
    | some (.dic ps) => if PV.pureD ps then some (.dic ps) else none
    | _ => none
  | v => if v.pure then some v else none
def Closed (st0 st1 : Sto) : Prop := ∀ i, i < st0.length → st1[i]? = st0[i]? ∨ ∃ o, st1[i]? = some o ∧ o.pure = true
open Classical in
/-- the objects made within the def are let go -/
noncomputable def cut (st0 : Sto) : Option (Res PV) → Option (Res PV)
  | some (.ok v s) => if Closed st0 s then (frz st0.length s v).map fun v' => .ok v' (s.take st0.length) else none
  | _ => none
def defP (n nN : Nat) (body : MS) : FnM := fun xs st => if xs.length = n then finP (body (xs.map some ++ List.replicate (nN - xs.length) none) st) else none
def spM (K : PySem.W.Frag) (n : Nat) (φ : FnM) : Sp := fun vs H Q E => ∃ W st xs, SimS K W st H ∧ RpL K W H xs vs ∧ xs.length = n ∧ tMr K E W H Q (φ xs st)
theorem RepL.getD {K : PySem.W.Frag} {F : Hp} {ρ : List Addr} {xs : List PV} {vs : List V} (h : RepL K F ρ xs vs) {i : Nat} (hi : i < xs.length) : ∃ v, vs[i]? = some v ∧ Rep K F ρ xs[i] v := RepL.get h (List.getElem?_eq_getElem hi)
theorem start_slots {K : PySem.W.Frag} {W : Wd} {H : Hp} {N : List Str} {xs : List PV} {vs : List V} (r : RpL K W H xs vs) : SlotR K W H (xs.map some ++ List.replicate (N.length - xs.length) none) (L2.start N vs) := by
  unfold L2.start
  refine ⟨by simp [r.len], fun i x e => ?_⟩
  by_cases hi : i < xs.length
  · rw [List.getElem?_append_left (by simpa using hi), List.getElem?_map, List.getElem?_eq_getElem hi] at e
    simp at e
    subst e
    obtain ⟨v, h1, h2⟩ := r.getD hi
    refine ⟨v, ?_, h2⟩
    rw [List.getElem?_append_left (by rw [List.length_map, r.len]; exact hi), List.getElem?_map, h1]
    rfl
  · rw [List.getElem?_append_right (by simpa using hi), List.getElem?_replicate] at e
    split at e <;> simp at e
/-- no error leaves -/
theorem tSr_of_fin {K : PySem.W.Frag} {E : XK} {W : Wd} {H : Hp} {Q : VK} {r : Option SRes} (hx : ∀ x env st, r ≠ some (.exc x env st)) (h : tMr K E W H Q (finP r)) : tSr K E00 W H { nx := fun _ H' => Q .non H', rt := Q } r := by
  cases r with
  | none => exact h
  | some r =>
    cases r with
    | next env st => exact fun σ' H' W' l sl ss => h .non H' W' l ss (show Rep _ _ _ _ _ by simp only [Rep])
    | ret x st => exact h
    | brk env st => exact h.elim
    | cont env st => exact h.elim
    | exc x env st => exact absurd rfl (hx x env st)
/-- what a def that raises nothing answers -/
def onlyOk (φ : FnM) : FnM := fun xs st => match φ xs st with
  | some (.ok v s) => some (.ok v s)
  | _ => none
def defN (n nN : Nat) (body : MS) : FnM := onlyOk (defP n nN body)
noncomputable def defT (n nN : Nat) (body : MS) : FnM := fun xs st => cut st (defN n nN body xs st)
section
variable {P : Program} {w : World} {K : PySem.W.Frag} {mg : Str → Option Value} {base : Heap}
theorem def_ok {x qual : Str} {st : Stmt} {f : Addr} {fd : FuncData} {N ps : List Str} {k : Nat} {mb : MS} (F : Fun K x qual st f fd) (S : FnScope N ps (defScope st))
    (hb : ∀ (cdv : Value) (A : Around) (outer : List Env) (s : Shared) (H : Hp) (E : XK), A.guards = some [] → Room k (A.deeper (envOfC qual (defScope st) s.heap.objs.size f cdv)) →
      MSs (cxOf CX0 P w K mg base N qual (defScope st) f cdv A outer s H E).nox E00 (defBody st) mb) : FnG P w K mg base CX0 (k + 1) f fd ps (spM K ps.length (defN ps.length N.length mb)) := by
  refine fnG_of F S (fun vs H Q E h => ?_) (fun cdv A outer s H vs Q E hg hr h => ?_)
  · obtain ⟨W, st, xs, _, r, e, _⟩ := h
    rw [← e, r.len]
  · obtain ⟨W, st, xs, ss, r, e, h⟩ := h
    refine ⟨tMS K E00 mb, (hb cdv A outer s H E hg hr).nox, W, _, st, start_slots r, ss, ?_⟩
    refine tSr_of_fin (E := E) (fun x env st' he => ?_) ?_
    · unfold defN onlyOk defP at h
      rw [if_pos e, he] at h
      exact h
    · unfold defN onlyOk defP at h
      rw [if_pos e] at h
      revert h
      cases finP (mb (xs.map some ++ List.replicate (N.length - xs.length) none) st) with
      | none => exact id
      | some r => cases r with
        | ok v s => exact id
        | exc x s => exact fun h => h.elim
/-- the world behind, its new objects let go -/
theorem cut_world {W W' : Wd} {H H' : Hp} {st st' : Sto} (ss : SimS K W st H) (l : Le W H W' H') (ss' : SimS K W' st' H') (hc : Closed st st') :
    Le W H ⟨W.ρ, W'.hid⟩ H' ∧ SimS K ⟨W.ρ, W'.hid⟩ (st'.take st.length) H' ∧ (∀ a o, Fz W' H' a = some o → Fz ⟨W.ρ, W'.hid⟩ H' a = some o) := by
  obtain ⟨t, ht⟩ := l.pre
  have sub : ∀ a ∈ W.ρ, a ∈ W'.ρ := fun a ha => by rw [← ht]; exact List.mem_append_left _ ha
  have hF : ∀ a o, Fz W' H' a = some o → Fz ⟨W.ρ, W'.hid⟩ H' a = some o := fun a o e => by
    obtain ⟨h1, h2, h3⟩ := Fz_some.mp e
    exact Fz_some.mpr ⟨fun q => h1 (sub a q), h2, h3⟩
  have hlen : st.length ≤ st'.length := by
    rw [← ss.len, ← ss'.len, ← ht]; simp
  refine ⟨⟨List.prefix_refl _, l.hid, fun a o e => hF a o (l.fz a o e), l.keep, l.loc⟩, ⟨?_, ss.nd, fun a ha => ss'.dj a (sub a ha), ss'.hs, fun i o a e1 e2 => ?_⟩, hF⟩
  · rw [List.length_take, ss.len]; omega
  · have hi : i < st.length := by
      have := (List.getElem?_eq_some_iff.mp e1).1
      rw [List.length_take] at this; omega
    rw [List.getElem?_take_of_lt hi] at e1
    have e2' : W.ρ[i]? = some a := e2
    have ob' := ss'.ob i o a e1 (pre_get l.pre e2')
    rcases hc i hi with q | ⟨o', q, hp⟩
    · rw [q] at e1
      have ob := ss.ob i o a e1 e2'
      cases o with
      | lst xs =>
        obtain ⟨v0, _, g, _⟩ := ob
        obtain ⟨vs, h1, h2, hz⟩ := ob'
        exact ⟨vs, h1, RepL.cut hF l.pre xs v0 vs g h2, hz⟩
      | dic ps =>
        obtain ⟨v0, _, g, _⟩ := ob
        obtain ⟨vs, h1, h2, hz⟩ := ob'
        exact ⟨vs, h1, RepD.cut hF l.pre ps v0 vs g h2, hz⟩
      | loc ps =>
        obtain ⟨v0, _, g, _⟩ := ob
        obtain ⟨vs, h1, h2, hz⟩ := ob'
        exact ⟨vs, h1, RepD.cut hF l.pre ps v0 vs g h2, hz⟩
    · rw [q] at e1
      cases e1
      cases o with
      | lst xs =>
        obtain ⟨vs, h1, h2, hz⟩ := ob'
        exact ⟨vs, h1, RepL.pure xs vs hp (RepL.mono hF (List.prefix_refl _) _ _ h2), hz⟩
      | dic ps =>
        obtain ⟨vs, h1, h2, hz⟩ := ob'
        exact ⟨vs, h1, RepD.pure ps vs hp (RepD.mono hF (List.prefix_refl _) _ _ h2), hz⟩
      | loc ps => cases hp
theorem frz_rep {W W' : Wd} {H' : Hp} {st st' : Sto} {x y : PV} {u : V} (hlen : W.ρ.length = st.length) (hpre : W.ρ <+: W'.ρ) (ss' : SimS K W' st' H') (hF : ∀ a o, Fz W' H' a = some o → Fz ⟨W.ρ, W'.hid⟩ H' a = some o)
    (hf : frz st.length st' x = some y) (r : Rp K W' H' x u) : Rp K ⟨W.ρ, W'.hid⟩ H' y u := by
  have pureCase : x.pure = true → Rp K ⟨W.ρ, W'.hid⟩ H' x u := fun hp => Rep.pure x u hp (Rep.mono hF (List.prefix_refl _) x u r)
  have other : (frz st.length st' x = if x.pure then some x else none) → Rp K ⟨W.ρ, W'.hid⟩ H' y u := fun e => by
    rw [e] at hf
    split at hf
    · rename_i hp
      cases hf
      exact pureCase hp
    · cases hf
  cases x with
  | ref i =>
    obtain ⟨a, rfl, ha⟩ : ∃ a, u = .ref a ∧ W'.ρ[i]? = some a := by simpa only [Rp, Rep] using r
    simp only [frz] at hf
    split at hf
    · rename_i hi
      cases hf
      show Rep _ _ _ _ _
      simp only [Rep]
      obtain ⟨t, ht⟩ := hpre
      rw [← ht, List.getElem?_append_left (by omega)] at ha
      exact ⟨a, rfl, ha⟩
    · rename_i hi
      have hnρ : a ∉ W.ρ := fun q => by
        obtain ⟨j, hj, e⟩ := List.getElem_of_mem q
        have h1 : W'.ρ[j]? = some a := pre_get hpre (by rw [List.getElem?_eq_getElem hj, e])
        obtain ⟨g1, k1⟩ := List.getElem?_eq_some_iff.mp h1
        obtain ⟨g2, k2⟩ := List.getElem?_eq_some_iff.mp ha
        have := (List.getElem_inj ss'.nd).mp (k1.trans k2.symm)
        omega
      have hnh : a ∉ W'.hid := ss'.dj a (List.mem_of_getElem? ha)
      split at hf
      · rename_i ys es
        split at hf
        · rename_i hp
          cases hf
          obtain ⟨vs, h1, h2, hz⟩ := ss'.ob i _ a es ha
          show Rep _ _ _ _ _
          simp only [Rep]
          exact ⟨a, vs, rfl, Fz_some.mpr ⟨hnρ, hnh, h1⟩, RepL.pure ys vs hp (RepL.mono hF (List.prefix_refl _) _ _ h2), hz⟩
        · cases hf
      · rename_i ps es
        split at hf
        · rename_i hp
          cases hf
          obtain ⟨vs, h1, h2, hz⟩ := ss'.ob i _ a es ha
          show Rep _ _ _ _ _
          simp only [Rep]
          exact ⟨a, vs, rfl, .inl (Fz_some.mpr ⟨hnρ, hnh, h1⟩), RepD.pure ps vs hp (RepD.mono hF (List.prefix_refl _) _ _ h2), hz⟩
        · cases hf
      · cases hf
  | _ => exact other rfl
/-- a promise whose new objects are let go -/
theorem sp_cut {n : Nat} {φ : FnM} : ∀ vs H Q E, spM K n (fun xs st => cut st (φ xs st)) vs H Q E → spM K n φ vs H Q E := by
  rintro vs H Q E ⟨W, st, xs, ss, r, e, h⟩
  refine ⟨W, st, xs, ss, r, e, ?_⟩
  have h : tMr K E W H Q (cut st (φ xs st)) := h
  cases ef : φ xs st with
  | none => rw [ef] at h; exact h
  | some rr =>
    rw [ef] at h
    cases rr with
    | exc x s => exact h.elim
    | ok v s =>
      intro u H' W' l ss' rv
      by_cases hc : Closed st s
      · have hcut : cut st (some (.ok v s)) = (frz st.length s v).map fun v' => .ok v' (s.take st.length) := if_pos hc
        rw [hcut] at h
        · obtain ⟨l2, ss2, hF⟩ := cut_world ss l ss' hc
          cases efz : frz st.length s v with
          | none => rw [efz] at h; exact h.elim
          | some y =>
            rw [efz] at h
            exact h u H' _ l2 ss2 (frz_rep ss.len l.pre ss' hF efz rv)
      · have hcut : cut st (some (.ok v s)) = none := if_neg hc
        rw [hcut] at h
        exact h.elim
theorem def_okT {x qual : Str} {st : Stmt} {f : Addr} {fd : FuncData} {N ps : List Str} {k : Nat} {mb : MS} (F : Fun K x qual st f fd) (S : FnScope N ps (defScope st))
    (hb : ∀ (cdv : Value) (A : Around) (outer : List Env) (s : Shared) (H : Hp) (E : XK), A.guards = some [] → Room k (A.deeper (envOfC qual (defScope st) s.heap.objs.size f cdv)) →
      MSs (cxOf CX0 P w K mg base N qual (defScope st) f cdv A outer s H E).nox E00 (defBody st) mb) : FnG P w K mg base CX0 (k + 1) f fd ps (spM K ps.length (defT ps.length N.length mb)) := by
  exact (def_ok (P := P) (w := w) (mg := mg) (base := base) (k := k) F S hb).weaken fun vs H Q E h => sp_cut vs H Q E h
theorem defN_ar {n nN : Nat} {b : MS} : ∀ xs st r, defN n nN b xs st = some r → xs.length = n := fun xs st r h => by
  unfold defN onlyOk defP at h
  by_cases e : xs.length = n
  · exact e
  · rw [if_neg e] at h; cases h
theorem defT_ar {n nN : Nat} {b : MS} : ∀ xs st r, defT n nN b xs st = some r → xs.length = n := fun xs st r h => by
  unfold defT at h
  cases e : defN n nN b xs st with
  | none => rw [e] at h; cases h
  | some r' => exact defN_ar xs st r' e
end

/-! ### calls -/
def mCall0 (φ : FnM) (m : M (List PV)) : M PV := m.bind fun xs _ st => match φ xs st with
  | some (.ok v s) => some (.ok v s)
  | _ => none
section
variable {X : Cx} {E : EX} {n k : Nat} {f : Addr} {fd : FuncData} {ps : List Str} {φ : FnM} {x : Str} {p pos : Pos} {e : Expr} {es : List Expr} {m : M (List PV)}
theorem call0_body {K : PySem.W.Frag} {σ : L2.St} {H : Hp} {Q : VK} {arity : Nat} (har : ∀ xs st r, φ xs st = some r → xs.length = arity) (q : tM K E (mCall0 φ m) σ H Q) : tML K E m σ H fun vs H1 => spM K arity φ vs H1 Q E0 := by
  obtain ⟨W, env, st, sl, ss, q⟩ := q
  refine bindL_at sl ss q fun xs us st1 W1 H1 l1 sl1 ss1 rx q1 => ?_
  cases ef : φ xs st1 with
  | none => rw [ef] at q1; exact q1.elim
  | some r =>
    rw [ef] at q1
    refine ⟨W1, st1, xs, ss1, rx, har xs st1 r ef, ?_⟩
    rw [ef]
    cases r with
    | ok v s => exact q1
    | exc y s => exact q1.elim
theorem m_call0 (F : FnG X.prog X.w X.K X.mg X.base CX0 k f fd ps (spM X.K ps.length φ)) (har : ∀ xs st r, φ xs st = some r → xs.length = ps.length) (hG : X.A.guards = some []) (hr : Room k X.A) (hg : Gl X x) (hm : X.mg x = some (.ref f)) (hk : PySem.W.keepIn X.K (.ref f) = true) (hb : Binds X.K fd ps [])
    (ha : MA X E (e :: es) m) (hdb : (x == ("__debug__" : Str)) = false := by decide) (he : starEach (e :: es) X.env = (false, eval e X.env) :: starEach es X.env := by rfl) (hpl : (backTo pos (starEach es X.env)).any (·.1) = false := by rfl) :
    ME X E (.Call (.Name x p) (e :: es) [] pos) (mCall0 φ m) :=
  peW (pe_callG F hG hr hg hm hk hb pass0 ha hdb he hpl) fun _ _ _ q => call0_body har q
end
end Mi

/-! Mi6: what is built in, by values. -/
namespace Mi
open PySem PySem.Spec PyProof.Rows L2

/-! ### what a value holds -/
def asL (st : Sto) : PV → Option (List PV)
  | .lst xs => some xs
  | .ref i => match st[i]? with
    | some (.lst xs) => some xs
    | _ => none
  | _ => none
def asS (st : Sto) : PV → Option (List PV)
  | .rol xs => some xs
  | x => asL st x
def asT : PV → Option (List PV)
  | .tup xs => some xs
  | _ => none
section
variable {K : PySem.W.Frag} {W : Wd} {st : Sto} {H : Hp} {x : PV} {u : V} {xs : List PV}
theorem asL_inv (ss : SimS K W st H) (r : Rp K W H x u) (h : asL st x = some xs) : ∃ a vs, u = .ref a ∧ H a = some (.lst vs) ∧ RpL K W H xs vs ∧ xs.length ≤ sizeLine := by
  cases x with
  | lst ys =>
    simp only [asL, Option.some.injEq] at h
    subst h
    obtain ⟨a, vs, e, h1, h2, hz⟩ : ∃ a vs, u = .ref a ∧ Fz W H a = some (.lst vs) ∧ RepL K (Fz W H) W.ρ ys vs ∧ ys.length ≤ sizeLine := by simpa only [Rp, Rep] using r
    exact ⟨a, vs, e, Fz_le h1, h2, hz⟩
  | ref i =>
    simp only [asL] at h
    split at h
    · rename_i ys es
      cases h
      obtain ⟨a, e, ha⟩ : ∃ a, u = .ref a ∧ W.ρ[i]? = some a := by simpa only [Rp, Rep] using r
      obtain ⟨vs, h1, h2, hz⟩ := ss.ob i _ a es ha
      exact ⟨a, vs, e, h1, h2, hz⟩
    · cases h
  | _ => simp [asL] at h
theorem asS_inv (ss : SimS K W st H) (r : Rp K W H x u) (h : asS st x = some xs) : ∃ a vs, u = .ref a ∧ SqL K H a vs ∧ RpL K W H xs vs ∧ xs.length ≤ sizeLine := by
  by_cases hr : ∃ ys, x = .rol ys
  · obtain ⟨ys, rfl⟩ := hr
    simp only [asS, Option.some.injEq] at h
    subst h
    obtain ⟨a, vs, e, h1, h2, hz⟩ : ∃ a vs, u = .ref a ∧ SqL K (Fz W H) a vs ∧ RepL K (Fz W H) W.ρ ys vs ∧ ys.length ≤ sizeLine := by simpa only [Rp, Rep] using r
    exact ⟨a, vs, e, SqL.mono (fun _ _ h => Fz_le h) h1, h2, hz⟩
  · have h' : asL st x = some xs := by
      cases x with
      | rol ys => exact absurd ⟨ys, rfl⟩ hr
      | _ => exact h
    obtain ⟨a, vs, e, h1, h2, hz⟩ := asL_inv ss r h'
    exact ⟨a, vs, e, .inl (.inl h1), h2, hz⟩
theorem asN_inv (r : Rp K W H x u) (h : asT x = some xs) : ∃ a vs, u = .ref a ∧ SqN K H a vs ∧ RpL K W H xs vs ∧ xs.length ≤ sizeLine := by
  cases x with
  | tup ys =>
    simp only [asT, Option.some.injEq] at h
    subst h
    obtain ⟨a, vs, e, h1, h2, hz⟩ : ∃ a vs, u = .ref a ∧ SqN K (Fz W H) a vs ∧ RepL K (Fz W H) W.ρ ys vs ∧ ys.length ≤ sizeLine := by simpa only [Rp, Rep] using r
    exact ⟨a, vs, e, SqN.mono (fun _ _ h => Fz_le h) h1, h2, hz⟩
  | _ => simp [asT] at h
theorem asT_inv (r : Rp K W H x u) (h : asT x = some xs) : ∃ a vs, u = .ref a ∧ SqT K H a vs ∧ RpL K W H xs vs ∧ xs.length ≤ sizeLine := by
  obtain ⟨a, vs, e, h1, h2⟩ := asN_inv r h
  exact ⟨a, vs, e, h1.t, h2⟩
theorem int_inv {i : Int} (r : Rp K W H (.int i) u) : u = .int i := by simpa only [Rp, Rep] using r
theorem bl_inv' {i : Bool} (r : Rp K W H (.bl i) u) : u = .bl i := by simpa only [Rp, Rep] using r
theorem non_inv (r : Rp K W H .non u) : u = .non := by simpa only [Rp, Rep] using r
theorem str_inv {z : Str} (r : Rp K W H (.str z) u) : u = .str z ∧ z.length ≤ sizeLine := by simpa only [Rp, Rep] using r
theorem opq_inv {v : V} (r : Rp K W H (.opq v) u) : u = v := by simpa only [Rp, Rep] using r
theorem rp_int {i : Int} : Rp K W H (.int i) (.int i) := by simp only [Rp, Rep]
theorem rp_bl {i : Bool} : Rp K W H (.bl i) (.bl i) := by simp only [Rp, Rep]
theorem rp_non : Rp K W H .non .non := by simp only [Rp, Rep]
theorem rp_str {z : Str} (h : z.length ≤ sizeLine) : Rp K W H (.str z) (.str z) := by simp only [Rp, Rep, true_and]; exact h
theorem RepL.one {F : Hp} {ρ : List Addr} {us : List V} (r : RepL K F ρ [x] us) : ∃ u, us = [u] ∧ Rep K F ρ x u := by
  simp only [RepL] at r
  obtain ⟨u, _, rfl, h, rfl⟩ := r
  exact ⟨u, rfl, h⟩
theorem RepL.two {F : Hp} {ρ : List Addr} {y : PV} {us : List V} (r : RepL K F ρ [x, y] us) : ∃ u v, us = [u, v] ∧ Rep K F ρ x u ∧ Rep K F ρ y v := by
  simp only [RepL] at r
  obtain ⟨u, _, rfl, h, v, _, rfl, h2, rfl⟩ := r
  exact ⟨u, v, rfl, h, h2⟩
theorem RepL.drop {F : Hp} {ρ : List Addr} : ∀ (n : Nat) {xs : List PV} {us : List V}, RepL K F ρ xs us → RepL K F ρ (xs.drop n) (us.drop n)
  | 0, _, _, r => r
  | n + 1, [], us, r => by simp only [RepL] at r; subst r; simp only [List.drop_nil]; exact RepL.nil
  | n + 1, x :: xs, us, r => by
    simp only [RepL] at r
    obtain ⟨u, t, rfl, _, h⟩ := r
    exact RepL.drop n h
theorem RepL.take {F : Hp} {ρ : List Addr} : ∀ (n : Nat) {xs : List PV} {us : List V}, RepL K F ρ xs us → RepL K F ρ (xs.take n) (us.take n)
  | 0, _, _, _ => by simp only [List.take_zero]; exact RepL.nil
  | n + 1, [], us, r => by simp only [RepL] at r; subst r; simp only [List.take_nil]; exact RepL.nil
  | n + 1, x :: xs, us, r => by
    simp only [RepL] at r
    obtain ⟨u, t, rfl, h1, h⟩ := r
    simp only [List.take_succ_cons]
    exact RepL.cons h1 (RepL.take n h)
theorem RepL.set {F : Hp} {ρ : List Addr} : ∀ (n : Nat) {xs : List PV} {us : List V} {y : PV} {v : V}, RepL K F ρ xs us → Rep K F ρ y v → RepL K F ρ (xs.set n y) (us.set n v)
  | _, [], us, y, v, r, _ => by simp only [RepL] at r; subst r; simp only [List.set_nil]; exact RepL.nil
  | 0, x :: xs, us, y, v, r, ry => by
    simp only [RepL] at r
    obtain ⟨u, t, rfl, h1, h⟩ := r
    simp only [List.set_cons_zero]
    exact RepL.cons ry h
  | n + 1, x :: xs, us, y, v, r, ry => by
    simp only [RepL] at r
    obtain ⟨u, t, rfl, h1, h⟩ := r
    simp only [List.set_cons_succ]
    exact RepL.cons h1 (RepL.set n h ry)
end

/-! ### arithmetic -/
section
variable {X : Cx}
def oAdd : O2 := fun x y st => match x, y with
  | .int i, .int j => some (.int (i + j))
  | .str a, .str b => if a.length + b.length ≤ sizeLine then some (.str (a ++ b)) else none
  | .tup xs, .tup ys => if xs.length + ys.length ≤ sizeLine then some (.tup (xs ++ ys)) else none
  | x, y => match asL st x, asL st y with
    | some xs, some ys => if xs.length + ys.length ≤ sizeLine then some (.lst (xs ++ ys)) else none
    | _, _ => none
theorem op_catTN : OpR X (binaryOp .Add) (fun x y H Q => ∃ a b xs ys, x = .ref a ∧ y = .ref b ∧ SqT X.K H a xs ∧ SqT X.K H b ys ∧ xs ≠ [] ∧ xs.length + ys.length ≤ sizeLine ∧
    (ys = [] → Q (.ref a) H) ∧ (ys ≠ [] → ∀ p (o : Obj), H p = none → o.dict = none → Q (.ref p) (upd H p (.frz o (.tup (xs ++ ys)))))) := by
  intro pins s σ H x y v u Q I rx ry h
  obtain ⟨a, b, xs, ys, rfl, rfl, ha, hb, hx, hz, q1, q2⟩ := h
  cases rx
  cases ry
  obtain ⟨its, r1, p1, _⟩ := I.tuple ha
  obtain ⟨its2, r2, p2, _⟩ := I.tuple hb
  refine HT.cat_tup p1 p2 (fun z => hx (r1.nil_iff.mp z)) (fun z => ⟨.ref a, H, I, rfl, q1 (r2.nil_iff.mp z)⟩) (fun z => ?_) (by rw [← r1.length, ← r2.length]; exact hz)
  refine ⟨.ref s.heap.objs.size, _, I.laid (t' := s.toks) (o := .frz { cls := .type "tuple", data := .seq (its ++ its2).toArray } (.tup (xs ++ ys))) (fun b ob q => Heap.get?_push_of_some _ q) (Nat.le_refl _) ?_, rfl, q2 (fun w => z (r2.nil_iff.mpr w)) _ _ (I.hok.fresh (Nat.le_refl _)) rfl⟩
  exact ⟨Heap.get?_push_size _ rfl, by rw [List.length_append]; exact hz, _, r1.append r2, IsTup.new _ _⟩
theorem op_catN : OpR X (binaryOp .Add) (fun x y H Q => ∃ a b xs ys, x = .ref a ∧ y = .ref b ∧ SqT X.K H a xs ∧ SqT X.K H b ys ∧ xs.length + ys.length ≤ sizeLine ∧
    (xs = [] → Q (.ref b) H) ∧ (xs ≠ [] → ys = [] → Q (.ref a) H) ∧ (xs ≠ [] → ys ≠ [] → ∀ p (o : Obj), H p = none → o.dict = none → Q (.ref p) (upd H p (.frz o (.tup (xs ++ ys)))))) := by
  intro pins s σ H x y v u Q I rx ry h
  obtain ⟨a, b, xs, ys, rfl, rfl, ha, hb, hz, q0, q1, q2⟩ := h
  by_cases hx : xs = []
  · subst hx
    cases rx
    cases ry
    obtain ⟨its, r1, p1, _⟩ := I.tuple ha
    obtain ⟨its2, r2, p2, _⟩ := I.tuple hb
    cases r1
    exact cat_tup0 p1 p2 ⟨.ref b, H, I, rfl, q0 rfl⟩
  · exact op_catTN pins s σ H _ _ v u Q I rx ry ⟨a, b, xs, ys, rfl, rfl, ha, hb, hx, hz, q1 hx, q2 hx⟩
theorem str_app_len (a b : Str) : (a ++ b).length = a.length + b.length := by
  show (Str.append a b).cps.size = _
  simp [Str.append, Str.length]
theorem oAdd_list {x y z : PV} {st : Sto} (h1 : ∀ i j, ¬ (x = .int i ∧ y = .int j)) (h2 : ∀ i j, ¬ (x = .str i ∧ y = .str j)) (h3 : ∀ i j, ¬ (x = .tup i ∧ y = .tup j)) (h : oAdd x y st = some z) :
    ∃ xs ys, asL st x = some xs ∧ asL st y = some ys ∧ xs.length + ys.length ≤ sizeLine ∧ z = .lst (xs ++ ys) := by
  unfold oAdd at h
  split at h
  · exact absurd ⟨rfl, rfl⟩ (h1 _ _)
  · exact absurd ⟨rfl, rfl⟩ (h2 _ _)
  · exact absurd ⟨rfl, rfl⟩ (h3 _ _)
  · split at h
    · rename_i xs ys e1 e2
      split at h
      · rename_i hz
        cases h
        exact ⟨xs, ys, e1, e2, hz, rfl⟩
      · cases h
    · cases h
theorem r_add : OpR X (binaryOp .Add) (rM2 X.K oAdd) := by
  intro pins s σ H xv yv v u Q I rx ry h
  obtain ⟨W, st, x, y, z, ss, hx, hy, ho, q⟩ := h
  by_cases c1 : ∃ i j, x = .int i ∧ y = .int j
  · obtain ⟨i, j, rfl, rfl⟩ := c1
    simp only [oAdd, Option.some.injEq] at ho
    subst ho
    exact op_add pins s σ H xv yv v u Q I rx ry ⟨i, j, int_inv hx, int_inv hy, q _ H (Le.refl _ _) ss rp_int⟩
  by_cases c2 : ∃ i j, x = .str i ∧ y = .str j
  · obtain ⟨i, j, rfl, rfl⟩ := c2
    simp only [oAdd] at ho
    split at ho
    · rename_i hz
      cases ho
      exact op_add_str pins s σ H xv yv v u Q I rx ry ⟨i, j, (str_inv hx).1, (str_inv hy).1, hz, q _ H (Le.refl _ _) ss (rp_str (by rw [str_app_len]; exact hz))⟩
    · cases ho
  by_cases c3 : ∃ i j, x = .tup i ∧ y = .tup j
  · obtain ⟨xs, ys, rfl, rfl⟩ := c3
    simp only [oAdd] at ho
    split at ho
    · rename_i hz
      cases ho
      obtain ⟨a, vs, rfl, s1, r1, z1⟩ := asT_inv hx rfl
      obtain ⟨b, ws, rfl, s2, r2, z2⟩ := asT_inv hy rfl
      refine op_catN pins s σ H _ _ v u Q I rx ry ⟨a, b, vs, ws, rfl, rfl, s1, s2, by rw [r1.len, r2.len]; exact hz, fun e => ?_, fun e1 e2 => ?_, fun e1 e2 p ob hp hd => ?_⟩
      · have : xs = [] := by
          have := r1.len; rw [e] at this; exact List.length_eq_zero_iff.mp this.symm
        subst this
        exact q _ H (Le.refl _ _) ss (by rw [List.nil_append]; exact hy)
      · have : ys = [] := by
          have := r2.len; rw [e2] at this; exact List.length_eq_zero_iff.mp this.symm
        subst this
        exact q _ H (Le.refl _ _) ss (by rw [List.append_nil]; exact hx)
      · obtain ⟨l, s'⟩ := ss.new (o := .frz ob (.tup (vs ++ ws))) hp
        exact q _ _ l s' (new_tup ss hp hd (RepL.append r1 r2) (by rw [List.length_append]; exact hz))
    · cases ho
  obtain ⟨xs, ys, e1, e2, hz, rfl⟩ := oAdd_list (fun i j h => c1 ⟨i, j, h⟩) (fun i j h => c2 ⟨i, j, h⟩) (fun i j h => c3 ⟨i, j, h⟩) ho
  obtain ⟨a, vs, rfl, s1, r1, z1⟩ := asL_inv ss hx e1
  obtain ⟨b, ws, rfl, s2, r2, z2⟩ := asL_inv ss hy e2
  refine op_cat pins s σ H _ _ v u Q I rx ry ⟨a, b, vs, ws, rfl, rfl, s1, s2, by rw [r1.len, r2.len]; exact hz, fun p hp => ?_⟩
  obtain ⟨l, s'⟩ := ss.new (o := .lst (vs ++ ws)) hp
  exact q _ _ l s' (new_lst ss hp (RepL.append r1 r2) (by rw [List.length_append]; exact hz))
open Classical in
/-- ints in, under C -/
noncomputable def oI (C : Int → Int → Prop) (g : Int → Int → PV) : O2 := fun x y _ => match x, y with
  | .int i, .int j => if C i j then some (g i j) else none
  | _, _ => none
theorem oI_inv {C : Int → Int → Prop} {g : Int → Int → PV} {x y z : PV} {st : Sto} (h : oI C g x y st = some z) : ∃ i j, x = .int i ∧ y = .int j ∧ C i j ∧ z = g i j := by
  unfold oI at h
  split at h
  · rename_i i j
    split at h
    · rename_i hc; cases h; exact ⟨i, j, rfl, rfl, hc, rfl⟩
    · cases h
  · cases h
theorem r_I {f : Value → Value → Sem Value} {C : Int → Int → Prop} {g : Int → Int → Int} (ho : OpR X f (rI C fun i j => .int (g i j))) : OpR X f (rM2 X.K (oI C fun i j => .int (g i j))) := by
  intro pins s σ H xv yv v u Q I rx ry h
  obtain ⟨W, st, x, y, z, ss, hx, hy, hz, q⟩ := h
  obtain ⟨i, j, rfl, rfl, hc, rfl⟩ := oI_inv hz
  exact ho pins s σ H xv yv v u Q I rx ry ⟨i, j, int_inv hx, int_inv hy, hc, q _ H (Le.refl _ _) ss rp_int⟩
theorem r_I0 {f : Value → Value → Sem Value} {g : Int → Int → Int} (ho : OpR X f (rI0 fun i j => .int (g i j))) : OpR X f (rM2 X.K (oI (fun _ _ => True) fun i j => .int (g i j))) := by
  intro pins s σ H xv yv v u Q I rx ry h
  obtain ⟨W, st, x, y, z, ss, hx, hy, hz, q⟩ := h
  obtain ⟨i, j, rfl, rfl, hc, rfl⟩ := oI_inv hz
  exact ho pins s σ H xv yv v u Q I rx ry ⟨i, j, int_inv hx, int_inv hy, q _ H (Le.refl _ _) ss rp_int⟩
noncomputable def oSub : O2 := oI (fun _ _ => True) fun i j => .int (i - j)
noncomputable def oMul : O2 := oI (fun i j => CMul i j ∨ CMulW i j) fun i j => .int (i * j)
/-- // by a divisor that is not 0, below 2 ^ 9000 either way -/
def CDivA (_ j : Int) : Prop := j ≠ 0 ∧ j.natAbs.log2 < 9000
theorem op_fdivA : OpR X (binaryOp .FloorDiv) (rI CDivA fun i j => .int (i.fdiv j)) := opI fun _ _ _ _ _ _ _ hc q => floordiv_int hc.1 q (.inl (PyProof.noPylong_of_log2 hc.2))
noncomputable def oDiv : O2 := oI CDivA fun i j => .int (i.fdiv j)
noncomputable def oMod : O2 := oI (fun _ j => j ≠ 0) fun i j => .int (i.fmod j)
noncomputable def oPow : O2 := oI CPow fun i j => .int (i ^ j.toNat)
theorem r_sub : OpR X (binaryOp .Sub) (rM2 X.K oSub) := r_I0 op_sub
theorem r_mul : OpR X (binaryOp .Mult) (rM2 X.K oMul) := r_I (C := fun i j => CMul i j ∨ CMulW i j) (fun pins s σ H x y v u Q I rx ry h => by
  obtain ⟨i, j, e1, e2, hc, q⟩ := h
  rcases hc with hc | hc
  · exact op_mul pins s σ H x y v u Q I rx ry ⟨i, j, e1, e2, hc, q⟩
  · exact op_mulW pins s σ H x y v u Q I rx ry ⟨i, j, e1, e2, hc, q⟩)
theorem r_div : OpR X (binaryOp .FloorDiv) (rM2 X.K oDiv) := r_I op_fdivA
theorem r_mod : OpR X (binaryOp .Mod) (rM2 X.K oMod) := r_I op_modN
theorem r_pow : OpR X (binaryOp .Pow) (rM2 X.K oPow) := r_I op_pow
def oNeg : O1 := fun x _ => match x with
  | .int i => some (.int (-i))
  | _ => none
theorem r_neg : UnR X (unaryOp .USub) (rM1 X.K oNeg) := by
  intro pins s σ H xv v Q I rx h
  obtain ⟨W, st, x, z, ss, hx, hz, q⟩ := h
  cases x with
  | int i =>
    simp only [oNeg, Option.some.injEq] at hz
    subst hz
    exact un_neg pins s σ H xv v Q I rx ⟨i, int_inv hx, q _ H (Le.refl _ _) ss rp_int⟩
  | _ => simp [oNeg] at hz

/-! ### order -/
def oLt : O2 := fun x y _ => match x, y with
  | .int i, .int j => some (.bl (decide (i < j)))
  | .str a, .str b => some (.bl (decide (a.cps.toList < b.cps.toList)))
  | _, _ => none
theorem r_lt : OpR X (compareOp .Lt) (rM2 X.K oLt) := by
  intro pins s σ H xv yv v u Q I rx ry h
  obtain ⟨W, st, x, y, z, ss, hx, hy, hz, q⟩ := h
  unfold oLt at hz
  split at hz
  · rename_i i j
    cases hz
    exact op_lt pins s σ H xv yv v u Q I rx ry ⟨i, j, int_inv hx, int_inv hy, q _ H (Le.refl _ _) ss rp_bl⟩
  · rename_i i j
    cases hz
    exact op_lt_str pins s σ H xv yv v u Q I rx ry ⟨i, j, (str_inv hx).1, (str_inv hy).1, q _ H (Le.refl _ _) ss rp_bl⟩
  · cases hz
theorem r_B0 {f : Value → Value → Sem Value} {g : Int → Int → Bool} (ho : OpR X f (rI0 fun i j => .bl (g i j))) : OpR X f (rM2 X.K (oI (fun _ _ => True) fun i j => .bl (g i j))) := by
  intro pins s σ H xv yv v u Q I rx ry h
  obtain ⟨W, st, x, y, z, ss, hx, hy, hz, q⟩ := h
  obtain ⟨i, j, rfl, rfl, hc, rfl⟩ := oI_inv hz
  exact ho pins s σ H xv yv v u Q I rx ry ⟨i, j, int_inv hx, int_inv hy, q _ H (Le.refl _ _) ss rp_bl⟩
noncomputable def oLe : O2 := oI (fun _ _ => True) fun i j => .bl (decide (i ≤ j))
noncomputable def oGt : O2 := oI (fun _ _ => True) fun i j => .bl (decide (j < i))
noncomputable def oGe : O2 := oI (fun _ _ => True) fun i j => .bl (decide (j ≤ i))
theorem r_le : OpR X (compareOp .LtE) (rM2 X.K oLe) := r_B0 op_le
theorem r_gt : OpR X (compareOp .Gt) (rM2 X.K oGt) := r_B0 op_gt
theorem r_ge : OpR X (compareOp .GtE) (rM2 X.K oGe) := r_B0 op_ge
end

/-! ### data: ==, in, repr -/
mutual
def dataP : PV → Option PyData
  | .non => some .none
  | .bl b => some (.bool b)
  | .int i => some (.int i)
  | .str x => some (.str x)
  | .tup xs => (dataPL xs).map .tuple
  | .lst xs => (dataPL xs).map .list
  | .rol xs => (dataPL xs).map .list
  | _ => none
def dataPL : List PV → Option (List PyData)
  | [] => some []
  | x :: xs => match dataP x, dataPL xs with
    | some d, some ds => some (d :: ds)
    | _, _ => none
end
def dataV (st : Sto) : PV → Option PyData
  | .ref i => match st[i]? with
    | some (.lst xs) => (dataPL xs).map .list
    | _ => none
  | x => dataP x
section
variable {K : PySem.W.Frag} {W : Wd} {st : Sto} {H : Hp}
mutual
theorem dp_of : ∀ (x : PV) (u : V) (d : PyData), Rp K W H x u → dataP x = some d → Dp K H u d
  | .non, u, d, r, h => by
    simp only [dataP, Option.some.injEq] at h; subst h
    rw [non_inv r]; exact .non
  | .bl b, u, d, r, h => by
    simp only [dataP, Option.some.injEq] at h; subst h
    rw [bl_inv' r]; exact .bl b
  | .int i, u, d, r, h => by
    simp only [dataP, Option.some.injEq] at h; subst h
    rw [int_inv r]; exact .int i
  | .str x, u, d, r, h => by
    simp only [dataP, Option.some.injEq] at h; subst h
    rw [(str_inv r).1]; exact .str x
  | .tup xs, u, d, r, h => by
    simp only [dataP, Option.map_eq_some_iff] at h
    obtain ⟨ds, h1, rfl⟩ := h
    obtain ⟨a, vs, rfl, s1, r1, _⟩ := asT_inv r rfl
    exact .tup s1 (dpl_of xs vs ds r1 h1)
  | .lst xs, u, d, r, h => by
    simp only [dataP, Option.map_eq_some_iff] at h
    obtain ⟨ds, h1, rfl⟩ := h
    obtain ⟨a, vs, rfl, s1, r1, _⟩ : ∃ a vs, u = .ref a ∧ Fz W H a = some (.lst vs) ∧ RepL K (Fz W H) W.ρ xs vs ∧ xs.length ≤ sizeLine := by simpa only [Rp, Rep] using r
    exact .lst (.inl (.inl (Fz_le s1))) (dpl_of xs vs ds r1 h1)
  | .rol xs, u, d, r, h => by
    simp only [dataP, Option.map_eq_some_iff] at h
    obtain ⟨ds, h1, rfl⟩ := h
    obtain ⟨a, vs, rfl, s1, r1, _⟩ : ∃ a vs, u = .ref a ∧ SqL K (Fz W H) a vs ∧ RepL K (Fz W H) W.ρ xs vs ∧ xs.length ≤ sizeLine := by simpa only [Rp, Rep] using r
    exact .lst (SqL.mono (fun _ _ h => Fz_le h) s1) (dpl_of xs vs ds r1 h1)
  | .dic _, _, _, _, h => by simp [dataP] at h
  | .ref _, _, _, _, h => by simp [dataP] at h
  | .opq _, _, _, _, h => by simp [dataP] at h
  | .exc _ _, _, _, _, h => by simp [dataP] at h
theorem dpl_of : ∀ (xs : List PV) (us : List V) (ds : List PyData), RpL K W H xs us → dataPL xs = some ds → DpAll K H us ds
  | [], us, ds, r, h => by
    simp only [dataPL, Option.some.injEq] at h; subst h
    simp only [RpL, RepL] at r; subst r
    exact .nil
  | x :: xs, us, ds, r, h => by
    simp only [RpL, RepL] at r
    obtain ⟨v, t, rfl, r1, r2⟩ := r
    simp only [dataPL] at h
    split at h
    · rename_i d ds' e1 e2
      cases h
      exact .cons (dp_of x v d r1 e1) (dpl_of xs t ds' r2 e2)
    · cases h
end
theorem dv_of (ss : SimS K W st H) (x : PV) (u : V) (d : PyData) (r : Rp K W H x u) (h : dataV st x = some d) : Dp K H u d := by
  by_cases hr : ∃ i, x = .ref i
  · obtain ⟨i, rfl⟩ := hr
    simp only [dataV] at h
    split at h
    · rename_i xs es
      rw [Option.map_eq_some_iff] at h
      obtain ⟨ds, h1, rfl⟩ := h
      obtain ⟨a, vs, rfl, s1, r1, _⟩ := asL_inv ss r (show asL st (.ref i) = some xs by simp only [asL, es])
      exact .lst (.inl (.inl s1)) (dpl_of xs vs ds r1 h1)
    · cases h
  · have h' : dataP x = some d := by
      cases x with
      | ref i => exact absurd ⟨i, rfl⟩ hr
      | _ => exact h
    exact dp_of x u d r h'
mutual
theorem plain_dp : ∀ (d : PyData) (u : V), Dp K H u d → d.plain = true
  | .none, _, _ => rfl
  | .bool _, _, _ => rfl
  | .int _, _, _ => rfl
  | .str _, _, _ => rfl
  | .list ds, _, h => by
    simp only [PyData.plain]
    cases h with
    | lst _ hl => exact plain_dpl ds _ hl
  | .tuple ds, _, h => by
    simp only [PyData.plain]
    cases h with
    | tup _ hl => exact plain_dpl ds _ hl
  | .dict _, _, h => by cases h
theorem plain_dpl : ∀ (ds : List PyData) (us : List V), DpAll K H us ds → PyData.plainAll ds = true
  | [], _, _ => rfl
  | d :: ds, _, h => by
    cases h with
    | cons h1 h2 =>
      simp only [PyData.plainAll, Bool.and_eq_true]
      exact ⟨plain_dp d _ h1, plain_dpl ds _ h2⟩
end
end
def deep64 (d : PyData) : Bool := decide (d.depth ≤ 64)
/-- two lists of unlike lengths -/
def unlike (st : Sto) (x y : PV) : Bool := match asS st x, asS st y with
  | some xs, some ys => xs.length != ys.length
  | _, _ => false
def oEqB (x y : PV) (st : Sto) : Option Bool := if unlike st x y then some false else match dataV st x, dataV st y with
  | some d, some e => if deep64 d && deep64 e then some (PyData.eqv d e) else none
  | _, _ => none
def oEq : O2 := fun x y st => (oEqB x y st).map .bl
def oNe : O2 := fun x y st => (oEqB x y st).map fun b => .bl (!b)
section
variable {X : Cx}
theorem oEqB_cases {K : PySem.W.Frag} {W : Wd} {st : Sto} {H : Hp} {x y : PV} {u v : V} {b : Bool} (ss : SimS K W st H) (hx : Rp K W H x u) (hy : Rp K W H y v) (h : oEqB x y st = some b) :
    (b = false ∧ ∃ a c vs ws, u = .ref a ∧ v = .ref c ∧ SqL K H a vs ∧ SqL K H c ws ∧ vs.length ≠ ws.length) ∨ ∃ d e, Dp K H u d ∧ Dp K H v e ∧ d.depth ≤ 64 ∧ b = PyData.eqv d e := by
  unfold oEqB at h
  split at h
  · rename_i hu
    cases h
    unfold unlike at hu
    split at hu
    · rename_i xs ys e1 e2
      obtain ⟨a, vs, rfl, s1, r1, _⟩ := asS_inv ss hx e1
      obtain ⟨c, ws, rfl, s2, r2, _⟩ := asS_inv ss hy e2
      exact .inl ⟨rfl, a, c, vs, ws, rfl, rfl, s1, s2, by rw [r1.len, r2.len]; simpa using hu⟩
    · cases hu
  · split at h
    · rename_i d e e1 e2
      split at h
      · rename_i hd
        cases h
        simp only [deep64, Bool.and_eq_true, decide_eq_true_eq] at hd
        exact .inr ⟨d, e, dv_of ss x u d hx e1, dv_of ss y v e hy e2, hd.1, rfl⟩
      · cases h
    · cases h
theorem lens_ne {pins : List (Addr × Obj)} {σ : L2.St} {H : Hp} {s : Shared} {a c : Addr} {vs ws : List V} (I : Inv X pins σ H s) (s1 : SqL X.K H a vs) (s2 : SqL X.K H c ws) (hne : vs.length ≠ ws.length) :
    ∃ i1 i2 : Array Value, s.heap.IsList a i1 ∧ s.heap.IsList c i2 ∧ (i1.size != i2.size) = true := by
  obtain ⟨l1, v1, p1, _⟩ := I.list s1
  obtain ⟨l2, v2, p2, _⟩ := I.list s2
  have e1 := v1.length
  have e2 := v2.length
  exact ⟨_, _, p1.isList, p2.isList, by simp only [List.size_toArray, bne_iff_ne]; omega⟩
theorem r_eq (hu : X.A.units + 66 < cLine) : OpR X (compareOp .Eq) (rM2 X.K oEq) := by
  intro pins s σ H xv yv v u Q I rx ry h
  obtain ⟨W, st, x, y, z, ss, hx, hy, hz, q⟩ := h
  unfold oEq at hz
  rw [Option.map_eq_some_iff] at hz
  obtain ⟨b, hb, rfl⟩ := hz
  have fin : EP X pins σ Q (.bool b) s := ⟨.bl b, H, I, rfl, q _ H (Le.refl _ _) ss rp_bl⟩
  rcases oEqB_cases ss hx hy hb with ⟨rfl, a, c, vs, ws, rfl, rfl, s1, s2, hne⟩ | ⟨d, e, h1, h2, hd, rfl⟩
  · cases rx
    cases ry
    obtain ⟨i1, i2, l1, l2, hn⟩ := lens_ne I s1 s2 hne
    exact SeqAt.RcAt.lists_lengths l1 l2 hn (by omega) X.prog X.w X.xe _ fin
  · obtain ⟨as, q1⟩ := Dp.reads I d xv v h1 rx
    obtain ⟨bs, q2⟩ := Dp.reads I e yv u h2 ry
    exact SeqAt.eq_plain q1 q2 (plain_dp d xv h1) (plain_dp e yv h2) (by have := Nat.min_le_left d.depth e.depth; omega) fin
theorem r_ne (hu : X.A.units + 66 < cLine) : OpR X (compareOp .NotEq) (rM2 X.K oNe) := by
  intro pins s σ H xv yv v u Q I rx ry h
  obtain ⟨W, st, x, y, z, ss, hx, hy, hz, q⟩ := h
  unfold oNe at hz
  rw [Option.map_eq_some_iff] at hz
  obtain ⟨b, hb, rfl⟩ := hz
  have fin : EP X pins σ Q (.bool (!b)) s := ⟨.bl (!b), H, I, rfl, q _ H (Le.refl _ _) ss rp_bl⟩
  rcases oEqB_cases ss hx hy hb with ⟨rfl, a, c, vs, ws, rfl, rfl, s1, s2, hne⟩ | ⟨d, e, h1, h2, hd, rfl⟩
  · cases rx
    cases ry
    obtain ⟨i1, i2, l1, l2, hn⟩ := lens_ne I s1 s2 hne
    exact SeqAt.RcNeAt.lists_lengths l1 l2 hn (by omega) X.prog X.w X.xe _ fin
  · obtain ⟨as, q1⟩ := Dp.reads I d xv v h1 rx
    obtain ⟨bs, q2⟩ := Dp.reads I e yv u h2 ry
    exact SeqAt.ne_plain q1 q2 (plain_dp d xv h1) (plain_dp e yv h2) (by have := Nat.min_le_left d.depth e.depth; omega) fin
end
end Mi

/-! Mi7: in, isinstance, len, places, slices, all, any, tuple, list, int, abs, gcd, repr; what changes. -/
namespace Mi
open PySem PySem.Spec PyProof.Rows L2

section
variable {X : Cx}
/-! ### in -/
/-- what `in` walks: a list's or a tuple's items -/
def asQ (st : Sto) (y : PV) : Option (List PV) := match asT y with
  | some xs => some xs
  | none => asS st y
def oInB (x y : PV) (st : Sto) : Option Bool := match x, y with
  | .str a, .str b => some (!(Builtin.Str.occurrences b a 0 b.length 1).isEmpty)
  | x, .dic ps => none
  | x, y => match dataV st x, dataV st y with
    | some d, some (.list es) => if deep64 d then some (es.any fun z => PyData.eqv z d) else none
    | some d, some (.tuple es) => if deep64 d then some (es.any fun z => PyData.eqv z d) else none
    | _, _ => none
def oIn : O2 := fun x y st => (oInB x y st).map .bl
def oNotIn : O2 := fun x y st => (oInB x y st).map fun b => .bl (!b)
theorem oInB_cases {K : PySem.W.Frag} {W : Wd} {st : Sto} {H : Hp} {x y : PV} {u v : V} {b : Bool} (ss : SimS K W st H) (hx : Rp K W H x u) (hy : Rp K W H y v) (h : oInB x y st = some b) :
    (∃ p q, u = .str p ∧ v = .str q ∧ b = !(Builtin.Str.occurrences q p 0 q.length 1).isEmpty) ∨
    ∃ d es, Dp K H u d ∧ d.depth ≤ 64 ∧ (Dp K H v (.list es) ∨ Dp K H v (.tuple es)) ∧ b = es.any fun z => PyData.eqv z d := by
  unfold oInB at h
  split at h
  · cases h
    exact .inl ⟨_, _, (str_inv hx).1, (str_inv hy).1, rfl⟩
  · cases h
  · split at h
    · rename_i d es e1 e2
      split at h
      · rename_i hd
        cases h
        exact .inr ⟨d, es, dv_of ss x u d hx e1, by simpa [deep64] using hd, .inl (dv_of ss y v _ hy e2), rfl⟩
      · cases h
    · rename_i d es e1 e2
      split at h
      · rename_i hd
        cases h
        exact .inr ⟨d, es, dv_of ss x u d hx e1, by simpa [deep64] using hd, .inr (dv_of ss y v _ hy e2), rfl⟩
      · cases h
    · cases h
theorem r_in (hu : X.A.units + 66 < cLine) : OpR X (compareOp .In) (rM2 X.K oIn) := by
  intro pins s σ H xv yv v u Q I rx ry h
  obtain ⟨W, st, x, y, z, ss, hx, hy, hz, q⟩ := h
  unfold oIn at hz
  rw [Option.map_eq_some_iff] at hz
  obtain ⟨b, hb, rfl⟩ := hz
  rcases oInB_cases ss hx hy hb with ⟨p, r, rfl, rfl, rfl⟩ | ⟨d, es, h1, hd, h2, rfl⟩
  · exact op_in_str pins s σ H _ _ v u Q I rx ry ⟨p, r, rfl, rfl, q _ H (Le.refl _ _) ss rp_bl⟩
  · have fin : EP X pins σ Q (.bool (es.any fun z => PyData.eqv z d)) s := ⟨.bl _, H, I, rfl, q _ H (Le.refl _ _) ss rp_bl⟩
    obtain ⟨as, q1⟩ := Dp.reads I d xv v h1 rx
    rcases h2 with h2 | h2
    · obtain ⟨bs, q2⟩ := Dp.reads I _ yv u h2 ry
      have hp := plain_dp _ yv h2
      exact SeqAt.in_list_data q2 q1 (by simpa only [PyData.plain] using hp) (plain_dp d xv h1) (by have := Nat.min_le_right (PyData.depthAll es) d.depth; omega) fin
    · obtain ⟨bs, q2⟩ := Dp.reads I _ yv u h2 ry
      have hp := plain_dp _ yv h2
      exact SeqAt.in_tuple_data q2 q1 (by simpa only [PyData.plain] using hp) (plain_dp d xv h1) (by have := Nat.min_le_right (PyData.depthAll es) d.depth; omega) fin
theorem r_notIn (hu : X.A.units + 66 < cLine) : OpR X (compareOp .NotIn) (rM2 X.K oNotIn) := by
  intro pins s σ H xv yv v u Q I rx ry h
  obtain ⟨W, st, x, y, z, ss, hx, hy, hz, q⟩ := h
  unfold oNotIn at hz
  rw [Option.map_eq_some_iff] at hz
  obtain ⟨b, hb, rfl⟩ := hz
  rcases oInB_cases ss hx hy hb with ⟨p, r, rfl, rfl, rfl⟩ | ⟨d, es, h1, hd, h2, rfl⟩
  · exact op_notIn_str pins s σ H _ _ v u Q I rx ry ⟨p, r, rfl, rfl, q _ H (Le.refl _ _) ss rp_bl⟩
  · have fin : EP X pins σ Q (.bool (!es.any fun z => PyData.eqv z d)) s := ⟨.bl _, H, I, rfl, q _ H (Le.refl _ _) ss rp_bl⟩
    obtain ⟨as, q1⟩ := Dp.reads I d xv v h1 rx
    rcases h2 with h2 | h2
    · obtain ⟨bs, q2⟩ := Dp.reads I _ yv u h2 ry
      have hp := plain_dp _ yv h2
      exact SeqAt.notIn_list_data q2 q1 (by simpa only [PyData.plain] using hp) (plain_dp d xv h1) (by have := Nat.min_le_right (PyData.depthAll es) d.depth; omega) fin
    · obtain ⟨bs, q2⟩ := Dp.reads I _ yv u h2 ry
      have hp := plain_dp _ yv h2
      exact SeqAt.notIn_tuple_data q2 q1 (by simpa only [PyData.plain] using hp) (plain_dp d xv h1) (by have := Nat.min_le_right (PyData.depthAll es) d.depth; omega) fin

/-! ### isinstance against a built-in class -/
def tyName (st : Sto) : PV → Option String
  | .non => some "NoneType"
  | .bl _ => some "bool"
  | .int _ => some "int"
  | .str _ => some "str"
  | .tup _ => some "tuple"
  | .lst _ => some "list"
  | .rol _ => some "list"
  | .dic _ => some "dict"
  | .ref i => match st[i]? with
    | some (.lst _) => some "list"
    | some (.dic _) => some "dict"
    | _ => none
  | _ => none
def isKind (a b : String) : Bool := a == b || (a == "bool" && b == "int")
theorem kit_tab : ∀ a ∈ ["NoneType", "bool", "int", "str", "tuple", "list", "dict"], ∀ b ∈ kinds, kitB a b = some (isKind a b) := by decide +kernel
/-- errors held as values are of none of these -/
def oIsi : OL := fun xs st => match xs with
  | [.exc _ _, .opq (.ty T)] => if kinds.contains T then some (.bl false) else none
  | [x, .opq (.ty T)] => if kinds.contains T then match tyName st x with
      | some a => some (.bl (isKind a T))
      | none => none
    else none
  | _ => none
theorem tyx_of {K : PySem.W.Frag} {W : Wd} {st : Sto} {H : Hp} {x : PV} {u : V} {a : String} (ss : SimS K W st H) (r : Rp K W H x u) (h : tyName st x = some a) :
    TyX K H u (.type a) ∧ a ∈ ["NoneType", "bool", "int", "str", "tuple", "list", "dict"] := by
  cases x with
  | non => simp only [tyName, Option.some.injEq] at h; subst h; rw [non_inv r]; exact ⟨.base .non, by decide⟩
  | bl b => simp only [tyName, Option.some.injEq] at h; subst h; rw [bl_inv' r]; exact ⟨.base (.bl b), by decide⟩
  | int b => simp only [tyName, Option.some.injEq] at h; subst h; rw [int_inv r]; exact ⟨.base (.int b), by decide⟩
  | str b => simp only [tyName, Option.some.injEq] at h; subst h; rw [(str_inv r).1]; exact ⟨.base (.str b), by decide⟩
  | tup xs =>
    simp only [tyName, Option.some.injEq] at h; subst h
    obtain ⟨p, vs, rfl, s1, _, _⟩ := asT_inv r rfl
    refine ⟨?_, by decide⟩
    rcases s1 with (s1 | ⟨o, s1⟩) | ⟨o, its, n, s1, s2, _⟩
    · exact .base (.tup s1)
    · exact .fTuple s1
    · exact .kTuple s1 s2
  | lst xs =>
    simp only [tyName, Option.some.injEq] at h; subst h
    obtain ⟨p, vs, rfl, s1, _, _⟩ := asL_inv ss r rfl
    exact ⟨.base (.lst s1), by decide⟩
  | rol xs =>
    simp only [tyName, Option.some.injEq] at h; subst h
    obtain ⟨p, vs, rfl, s1, _, _⟩ := asS_inv (st := st) ss r rfl
    refine ⟨?_, by decide⟩
    rcases s1 with (s1 | ⟨o, s1⟩) | ⟨o, its, n, s1, s2, _⟩
    · exact .base (.lst s1)
    · exact .base (.frz s1)
    · exact .kList s1 s2
  | dic ps =>
    simp only [tyName, Option.some.injEq] at h; subst h
    obtain ⟨p, ks, rfl, s1, _, _⟩ : ∃ a ks, u = .ref a ∧ Rd (Fz W H) a (.dK ks) ∧ RepD K (Fz W H) W.ρ ps ks ∧ ps.length ≤ sizeLine := by simpa only [Rp, Rep] using r
    refine ⟨?_, by decide⟩
    rcases s1 with s1 | ⟨o, s1⟩
    · exact .base (.dK (Fz_le s1))
    · exact .fDict (Fz_le s1)
  | ref i =>
    obtain ⟨p, rfl, ha⟩ : ∃ a, u = .ref a ∧ W.ρ[i]? = some a := by simpa only [Rp, Rep] using r
    simp only [tyName] at h
    split at h
    · rename_i xs es
      cases h
      obtain ⟨vs, h1, _⟩ := ss.ob i _ p es ha
      exact ⟨.base (.lst h1), by decide⟩
    · rename_i xs es
      cases h
      obtain ⟨vs, h1, _⟩ := ss.ob i _ p es ha
      exact ⟨.base (.dK h1), by decide⟩
    · cases h
  | opq v => simp [tyName] at h
  | exc C fs => simp [tyName] at h
theorem inst_exc {P : Program} {w : World} {W : Wd} {H : Hp} {hp : Heap} {K : PySem.W.Frag} {C : Addr} {fs : List (Str × PV)} {u : V} (hok : HOk P w H hp) (r : Rp K W H (.exc C fs) u) :
    ExK K C ∧ ∃ a ox od, u = .ref a ∧ PySem.W.InstAt hp a ox C od := by
  obtain ⟨hk, a, e, h⟩ : ExK K C ∧ ∃ a, u = .ref a ∧ ((fs = [] ∧ Fz W H a = some (exo a C none)) ∨ ∃ d ks, Fz W H a = some (exo a C (some d)) ∧ Fz W H d = some (exd d ks) ∧ RepF K (Fz W H) W.ρ fs ks) := by
    simpa only [Rp, Rep] using r
  refine ⟨hk, a, ?_⟩
  rcases h with ⟨_, h1⟩ | ⟨d, ks, h1, h2, _⟩
  · obtain ⟨t1, ho⟩ := exo_at hok (Fz_le h1)
    exact ⟨_, none, e, ho, rfl, rfl, True.intro⟩
  · obtain ⟨t1, ho⟩ := exo_at hok (Fz_le h1)
    obtain ⟨mA, hn, _⟩ := exd_at hok (Fz_le h2)
    obtain ⟨oD, es, ep, hoD, _⟩ := hn
    exact ⟨_, some oD, e, ho, rfl, rfl, hoD⟩
theorem c_isi : CallR X (.builtin "isinstance") (rML X.K oIsi) := by
  intro pins s σ H vs us Q I r h
  obtain ⟨W, st, xs, z, ss, rx, hz, q⟩ := h
  unfold oIsi at hz
  split at hz
  · rename_i C fs T
    split at hz
    · rename_i hT
      cases hz
      obtain ⟨u1, u2, rfl, r1, r2⟩ := rx.two
      rw [opq_inv r2] at r
      obtain ⟨hk, a, ox, od, rfl, J⟩ := inst_exc I.hok r1
      obtain ⟨g, hgt⟩ := hk.gt
      cases r with
      | cons ra rr =>
        cases rr with
        | cons rt rr =>
          cases rr
          cases ra
          cases rt
          exact PySem.W.kia_one (PySem.W.kitx_exc hk.cl hk.ga hgt hk.ox.exC hk.cc hk.nn hk.tk hk.ob) I.kIn J (hk.no T (by simpa using hT)) (fun z => nomatch z) fun tk => ⟨.bl false, H, I.kept (t' := tk) fun _ _ z => z, rfl, q _ H (Le.refl _ _) ss rp_bl⟩
    · cases hz
  · rename_i x T _
    split at hz
    · rename_i hT
      split at hz
      · rename_i a ha
        cases hz
        obtain ⟨u1, u2, rfl, r1, r2⟩ := rx.two
        obtain ⟨ty, hm⟩ := tyx_of ss r1 ha
        rw [opq_inv r2] at r
        exact call_isi pins s σ H _ us Q I r ⟨u1, .ty T, .type a, .type T, _, rfl, .ty T, ty, kit_ty (kit_tab a hm T (by simpa using hT)), q _ H (Le.refl _ _) ss rp_bl⟩
      · cases hz
    · cases hz
  · cases hz

/-! ### len -/
def oLen : OL := fun xs st => match xs with
  | [.str z] => some (.int z.length)
  | [x] => match asQ st x with
    | some ys => some (.int ys.length)
    | none => none
  | _ => none
theorem asQ_inv {K : PySem.W.Frag} {W : Wd} {st : Sto} {H : Hp} {x : PV} {u : V} {xs : List PV} (ss : SimS K W st H) (r : Rp K W H x u) (h : asQ st x = some xs) :
    ∃ a vs, u = .ref a ∧ (SqL K H a vs ∨ SqT K H a vs) ∧ RpL K W H xs vs ∧ xs.length ≤ sizeLine := by
  unfold asQ at h
  split at h
  · rename_i ys e
    cases h
    obtain ⟨a, vs, e1, s1, r1, z1⟩ := asT_inv r e
    exact ⟨a, vs, e1, .inr s1, r1, z1⟩
  · obtain ⟨a, vs, e1, s1, r1, z1⟩ := asS_inv ss r h
    exact ⟨a, vs, e1, .inl s1, r1, z1⟩
theorem c_len : CallR X (.builtin "len") (rML X.K oLen) := by
  intro pins s σ H vs us Q I r h
  obtain ⟨W, st, xs, z, ss, rx, hz, q⟩ := h
  unfold oLen at hz
  split at hz
  · cases hz
    obtain ⟨u, rfl, r1⟩ := rx.one
    obtain ⟨rfl, hl⟩ := str_inv r1
    exact call_len_str pins s σ H _ us Q I r ⟨_, rfl, hl, q _ H (Le.refl _ _) ss rp_int⟩
  · split at hz
    · rename_i ys e
      cases hz
      obtain ⟨u, rfl, r1⟩ := rx.one
      obtain ⟨a, ws, rfl, s1, r2, _⟩ := asQ_inv ss r1 e
      refine call_len_seq pins s σ H _ us Q I r ⟨a, ws, rfl, s1, ?_⟩
      rw [r2.len]
      exact q _ H (Le.refl _ _) ss rp_int
    · cases hz
  · cases hz

/-! ### places -/
def oIx : O2 := fun x y st => match x, y with
  | .str z, .int i => (atI z.cps.toList i).map fun c => .str ⟨#[c]⟩
  | x, .int i => match asQ st x with
    | some xs => atI xs i
    | none => none
  | _, _ => none
theorem atI_rep {K : PySem.W.Frag} {F : Hp} {ρ : List Addr} {xs : List PV} {vs : List V} {i : Int} {z : PV} (r : RepL K F ρ xs vs) (h : atI xs i = some z) : ∃ v, atI vs i = some v ∧ Rep K F ρ z v := by
  unfold atI at h ⊢
  rw [r.len]
  cases e : ixN xs.length i with
  | none => rw [e] at h; cases h
  | some j =>
    rw [e] at h
    exact RepL.get r h
theorem r_ix : IxR X (rM2 X.K oIx) := by
  intro value slice pins s σ H xv yv v u Q I rx ry h hs
  obtain ⟨W, st, x, y, z, ss, hx, hy, hz, q⟩ := h
  unfold oIx at hz
  split at hz
  · rename_i zs i
    rw [Option.map_eq_some_iff] at hz
    obtain ⟨c, hc, rfl⟩ := hz
    obtain ⟨rfl, hl⟩ := str_inv hx
    exact ix_str value slice pins s σ H _ _ v u Q I rx ry ⟨zs, i, c, rfl, int_inv hy, hl, hc, q _ H (Le.refl _ _) ss (rp_str one_short)⟩ hs
  · rename_i i _
    split at hz
    · rename_i xs e
      obtain ⟨a, ws, rfl, s1, r2, _⟩ := asQ_inv ss hx e
      obtain ⟨w, h1, h2⟩ := atI_rep r2 hz
      rcases s1 with s1 | s1
      · exact ix_list value slice pins s σ H _ _ v u Q I rx ry ⟨a, ws, i, w, rfl, int_inv hy, s1, h1, q _ H (Le.refl _ _) ss h2⟩ hs
      · exact ix_tup value slice pins s σ H _ _ v u Q I rx ry ⟨a, ws, i, w, rfl, int_inv hy, s1, h1, q _ H (Le.refl _ _) ss h2⟩ hs
    · cases hz
  · cases hz

/-! ### slices -/
abbrev MPart := M (Option Int)
def tMOr (K : PySem.W.Frag) (E : XK) (W : Wd) (H : Hp) (Q : Option Int → Hp → Prop) : Option (Res (Option Int)) → Prop
  | none => False
  | some (.ok x st) => ∀ H' W', Le W H W' H' → SimS K W' st H' → Q x H'
  | some (.exc x st) => ∀ cls d H' W', Le W H W' H' → SimS K W' st H' → RepX K W' H' x cls d → E cls d H'
def tMO (K : PySem.W.Frag) (E : EX) (m : MPart) : TO := fun σ H Q => ∃ W env st, SlotR K W H env σ ∧ SimS K W st H ∧ tMOr K (E σ) W H Q (m env st)
abbrev MP (X : Cx) (E : EX) (e : Option Expr) (m : MPart) : Prop := PO X e (tMO X.K E m)
def mNoPart : MPart := fun _ st => some (.ok none st)
def mPart (m : M PV) : MPart := m.bind fun x => fun _ st => match x with
  | .int i => some (.ok (some i) st)
  | _ => none
theorem poW {e : Option Expr} {t t' : TO} (h : PO X e t) (w : ∀ σ H Q, t' σ H Q → t σ H Q) : PO X e t' := ⟨fun pins s σ H Q I q => h.run pins s σ H Q I (w _ _ _ q)⟩
theorem mp_none {E : EX} : MP X E none mNoPart := by
  refine poW po_none fun σ H Q q => ?_
  obtain ⟨W, env, st, sl, ss, q⟩ := q
  exact q H W (Le.refl _ _) ss
theorem mp_some {E : EX} {e : Expr} {m : M PV} (h : ME X E e m) : MP X E (some e) (mPart m) := by
  refine poW (po_some h) fun σ H Q q => ?_
  obtain ⟨W, env, st, sl, ss, q⟩ := q
  refine ⟨W, env, st, sl, ss, ?_⟩
  unfold mPart M.bind at q
  cases em : m env st with
  | none => rw [em] at q; exact q
  | some r =>
    rw [em] at q
    cases r with
    | exc x st1 => exact q
    | ok x st1 =>
      intro u H' W' l s r
      cases x with
      | int i => exact ⟨i, int_inv r, q H' W' l s⟩
      | _ => exact q.elim
def cutP (xs : List PV) (lo hi : Option Int) : List PV := (xs.drop (HT.sIx xs.length 0 lo)).take (HT.sIx xs.length xs.length hi - HT.sIx xs.length 0 lo)
theorem cutP_rep {K : PySem.W.Frag} {F : Hp} {ρ : List Addr} {xs : List PV} {vs : List V} {lo hi : Option Int} (r : RepL K F ρ xs vs) : RepL K F ρ (cutP xs lo hi) (cutV vs lo hi) := by
  unfold cutP cutV
  rw [r.len]
  exact RepL.take _ (RepL.drop _ r)
theorem cutP_len {xs : List PV} {lo hi : Option Int} : (cutP xs lo hi).length ≤ xs.length := by
  unfold cutP
  rw [List.length_take, List.length_drop]
  omega
def oCut (x : PV) (lo hi : Option Int) (st : Sto) : Option PV := match x with
  | .str z => some (.str (cutS z lo hi))
  | .tup xs => some (.tup (cutP xs lo hi))
  | x => match asS st x with
    | some xs => some (.lst (cutP xs lo hi))
    | none => none
def mCut (m : M PV) (a b : MPart) : M PV := m.bind fun x => a.bind fun lo => b.bind fun hi => fun _ st => (oCut x lo hi st).map fun z => .ok z st
def rMC (K : PySem.W.Frag) : V → Option Int → Option Int → Hp → VK → Prop := fun u lo hi H Q => ∃ W st x z, SimS K W st H ∧ Rp K W H x u ∧ oCut x lo hi st = some z ∧ ∀ w H', Le W H W H' → SimS K W st H' → Rp K W H' z w → Q w H'
theorem sl_tupN : SlR X (fun x lo hi H Q => ∃ a xs, x = .ref a ∧ SqT X.K H a xs ∧
    (HT.sIx xs.length 0 lo = 0 ∧ HT.sIx xs.length xs.length hi = xs.length → Q (.ref a) H) ∧ (¬ (HT.sIx xs.length 0 lo = 0 ∧ HT.sIx xs.length xs.length hi = xs.length) → ∀ p (o : Obj), H p = none → o.dict = none → Q (.ref p) (upd H p (.frz o (.tup (cutV xs lo hi)))))) := by
  intro pins s σ H x v vl vu lo hi sl Q I rx hs pl pu h
  obtain ⟨a, xs, rfl, hx, q1, q2⟩ := h
  cases rx
  obtain ⟨its, r, ht, hz⟩ := I.tuple hx
  have hlen : its.toArray.size = xs.length := by rw [List.size_toArray]; exact r.length.symm
  refine ⟨"tuple", _, PyProof.Rows.slot_tuple_getitem.lookup, ht.typeIs, ?_⟩
  by_cases hw : HT.sIx xs.length 0 lo = 0 ∧ HT.sIx xs.length xs.length hi = xs.length
  · exact getItem_tuple_whole ht hs pl pu (by rw [hlen]; exact hw) ⟨.ref a, H, I, rfl, q1 hw⟩
  · refine HT.getItem_tuple_cut ht hs pl pu (by rw [hlen]; exact hw) ?_ (by rw [hlen]; exact hz)
    rw [hlen]
    refine ⟨.ref s.heap.objs.size, _, I.laid (t' := s.toks) (o := .frz { cls := .type "tuple", data := .seq ((its.drop (HT.sIx xs.length 0 lo)).take (HT.sIx xs.length xs.length hi - HT.sIx xs.length 0 lo)).toArray } (.tup (cutV xs lo hi))) (fun b ob q => Heap.get?_push_of_some _ q) (Nat.le_refl _) ?_, rfl, q2 hw _ _ (I.hok.fresh (Nat.le_refl _)) rfl⟩
    exact ⟨Heap.get?_push_size _ rfl, Nat.le_trans (cutV_length xs lo hi) hz, _, (r.drop (HT.sIx xs.length 0 lo)).take (HT.sIx xs.length xs.length hi - HT.sIx xs.length 0 lo), IsTup.new _ _⟩
theorem r_cut : SlR X (rMC X.K) := by
  intro pins s σ H xv v vl vu lo hi sl Q I rx hs pl pu h
  obtain ⟨W, st, x, z, ss, hx, hz, q⟩ := h
  by_cases c1 : ∃ y, x = .str y
  · obtain ⟨y, rfl⟩ := c1
    simp only [oCut, Option.some.injEq] at hz
    subst hz
    obtain ⟨rfl, hl⟩ := str_inv hx
    exact sl_str pins s σ H _ v vl vu lo hi sl Q I rx hs pl pu ⟨y, rfl, hl, q _ H (Le.refl _ _) ss (rp_str (Nat.le_trans (cutS_length _ _ _) hl))⟩
  by_cases c2 : ∃ y, x = .tup y
  · obtain ⟨xs, rfl⟩ := c2
    simp only [oCut, Option.some.injEq] at hz
    subst hz
    obtain ⟨a, ws, rfl, s1, r1, z1⟩ := asT_inv hx rfl
    refine sl_tupN pins s σ H _ v vl vu lo hi sl Q I rx hs pl pu ⟨a, ws, rfl, s1, fun hw => ?_, fun hw p ob hp hd => ?_⟩
    · have e : cutP xs lo hi = xs := by
        unfold cutP
        rw [r1.len] at hw
        rw [hw.1, hw.2, List.drop_zero, Nat.sub_zero, List.take_length]
      exact q _ H (Le.refl _ _) ss (by rw [e]; exact hx)
    · obtain ⟨l, s'⟩ := ss.new (o := .frz ob (.tup (cutV ws lo hi))) hp
      exact q _ _ l s' (new_tup ss hp hd (cutP_rep r1) (Nat.le_trans cutP_len z1))
  have hz' : ∃ xs, asS st x = some xs ∧ z = .lst (cutP xs lo hi) := by
    cases x with
    | str y => exact absurd ⟨y, rfl⟩ c1
    | tup y => exact absurd ⟨y, rfl⟩ c2
    | _ =>
      simp only [oCut] at hz
      split at hz
      · rename_i xs e; cases hz; exact ⟨xs, e, rfl⟩
      · cases hz
  obtain ⟨xs, e, rfl⟩ := hz'
  obtain ⟨a, ws, rfl, s1, r1, z1⟩ := asS_inv ss hx e
  refine sl_list pins s σ H _ v vl vu lo hi sl Q I rx hs pl pu ⟨a, ws, rfl, s1, fun p hp => ?_⟩
  obtain ⟨l, s'⟩ := ss.new (o := .lst (cutV ws lo hi)) hp
  exact q _ _ l s' (new_lst ss hp (cutP_rep r1) (Nat.le_trans cutP_len z1))
theorem bindO_at {E : EX} {K : PySem.W.Frag} {W : Wd} {env : MEnv} {st : Sto} {σ : L2.St} {H : Hp} {Q : VK} {ma : MPart} {f : Option Int → M PV} {R : Option Int → Hp → Prop} (sl : SlotR K W H env σ) (ss : SimS K W st H) (h : tMr K (E σ) W H Q (M.bind ma f env st))
    (k : ∀ x st1 W1 H1, Le W H W1 H1 → SlotR K W1 H1 env σ → SimS K W1 st1 H1 → tMr K (E σ) W1 H1 Q (f x env st1) → R x H1) : tMO K E ma σ H R := by
  refine ⟨W, env, st, sl, ss, ?_⟩
  unfold M.bind at h
  cases e : ma env st with
  | none => rw [e] at h; exact h
  | some r =>
    rw [e] at h
    cases r with
    | ok x st1 => exact fun H1 W1 l ss1 => k x st1 W1 H1 l (sl.le l) ss1 (h.le l)
    | exc x st1 => exact h
theorem m_cut {E : EX} {e : Expr} {lo hi : Option Expr} {p2 pos : Pos} {m : M PV} {a b : MPart} (he : ME X E e m) (hl : MP X E lo a) (hu : MP X E hi b) : ME X E (.Subscript e (.Slice lo hi none p2) pos) (mCut m a b) := by
  refine peW (pe_slice r_cut he hl hu) fun σ H Q q => ?_
  obtain ⟨W, env, st, sl, ss, q⟩ := q
  refine bind_at sl ss q fun x u st1 W1 H1 l1 sl1 ss1 rx q1 => ?_
  refine bindO_at sl1 ss1 q1 fun lo st2 W2 H2 l2 sl2 ss2 q2 => ?_
  refine bindO_at sl2 ss2 q2 fun hi st3 W3 H3 l3 sl3 ss3 q3 => ?_
  cases ec : oCut x lo hi st3 with
  | none => rw [ec] at q3; exact q3.elim
  | some z =>
    rw [ec] at q3
    exact ⟨W3, st3, x, z, ss3, (rx.le l2).le l3, ec, fun w H' l s r => q3 w H' W3 l s r⟩
end
end Mi

/-! Mi8: all, any, tuple, list, int, abs, gcd, repr; methods of lists, stores to places; chains. -/
namespace Mi
open PySem PySem.Spec PyProof.Rows L2

section
variable {X : Cx}
/-! ### all, any -/
def bools : List PV → Option (List Bool)
  | [] => some []
  | .bl b :: r => match bools r with
    | some bs => some (b :: bs)
    | none => none
  | _ :: _ => none
theorem bools_rep {K : PySem.W.Frag} {F : Hp} {ρ : List Addr} : ∀ {xs : List PV} {vs : List V} {bs : List Bool}, RepL K F ρ xs vs → bools xs = some bs → vs = bs.map V.bl
  | [], vs, bs, r, h => by
    simp only [bools, Option.some.injEq] at h; subst h
    simp only [RepL] at r; subst r; rfl
  | x :: xs, vs, bs, r, h => by
    simp only [RepL] at r
    obtain ⟨v, t, rfl, r1, r2⟩ := r
    cases x with
    | bl b =>
      simp only [bools] at h
      split at h
      · rename_i bs' e
        cases h
        simp only [Rep] at r1
        rw [r1, bools_rep r2 e]; rfl
      · cases h
    | _ => simp [bools] at h
def oAll : OL := fun xs st => match xs with
  | [x] => match asS st x with
    | some ys => match bools ys with
      | some bs => some (.bl (bs.all id))
      | none => none
    | none => none
  | _ => none
def oAny : OL := fun xs st => match xs with
  | [x] => match asS st x with
    | some ys => match bools ys with
      | some bs => some (.bl (bs.any id))
      | none => none
    | none => none
  | _ => none
theorem c_all (hc : X.calm = true) : CallR X (.builtin "all") (rML X.K oAll) := by
  intro pins s σ H vs us Q I r h
  obtain ⟨W, st, xs, z, ss, rx, hz, q⟩ := h
  unfold oAll at hz
  split at hz
  · split at hz
    · rename_i ys e
      split at hz
      · rename_i bs eb
        cases hz
        obtain ⟨u, rfl, r1⟩ := rx.one
        obtain ⟨a, ws, rfl, s1, r2, _⟩ := asS_inv ss r1 e
        rw [bools_rep r2 eb] at s1
        exact cr_all hc pins s σ H _ us Q I r ⟨a, bs, rfl, s1, q _ H (Le.refl _ _) ss rp_bl⟩
      · cases hz
    · cases hz
  · cases hz
theorem c_any (hc : X.calm = true) : CallR X (.builtin "any") (rML X.K oAny) := by
  intro pins s σ H vs us Q I r h
  obtain ⟨W, st, xs, z, ss, rx, hz, q⟩ := h
  unfold oAny at hz
  split at hz
  · split at hz
    · rename_i ys e
      split at hz
      · rename_i bs eb
        cases hz
        obtain ⟨u, rfl, r1⟩ := rx.one
        obtain ⟨a, ws, rfl, s1, r2, _⟩ := asS_inv ss r1 e
        rw [bools_rep r2 eb] at s1
        exact cr_any hc pins s σ H _ us Q I r ⟨a, bs, rfl, s1, q _ H (Le.refl _ _) ss rp_bl⟩
      · cases hz
    · cases hz
  · cases hz

/-! ### tuple(x), list(x), int(x), abs(x), gcd(x, y) -/
def oTuple : OL := fun xs st => match xs with
  | [.tup ys] => some (.tup ys)
  | [x] => match asS st x with
    | some ys => some (.tup ys)
    | none => none
  | _ => none
theorem call_tupleN : CallR X (.type "tuple") (fun xs H Q => ∃ p ys, xs = [.ref p] ∧ ((SqL X.K H p ys ∧ ∀ l (o : Obj), H l = none → o.dict = none → Q (.ref l) (upd H l (.frz o (.tup ys)))) ∨ (SqT X.K H p ys ∧ Q (.ref p) H))) := by
  intro pins s σ H xs us Q I r h
  obtain ⟨p, ys, rfl, h⟩ := h
  obtain ⟨u, rfl, rx⟩ := vals1 r
  cases rx
  rcases h with ⟨hq, q⟩ | ⟨hq, q⟩
  · obtain ⟨its, r', pl, hz⟩ := I.list hq
    have hlen := r'.length
    refine call_tuple_list pl.isList (fun h' kp => ?_) (by simp only [List.size_toArray] <;> omega)
    have I1 : Inv X pins σ H { s with heap := h' } := I.kept (t' := s.toks) kp
    have I2 : Inv X pins σ (upd H h'.objs.size (.frz { cls := .type "tuple", data := .seq its.toArray } (.tup ys))) { s with heap := h'.push { cls := .type "tuple", data := .seq its.toArray } } :=
      I1.laid (t' := s.toks) (fun b o e => Heap.get?_push_of_some _ e) (Nat.le_refl _) (show ObjOk X.prog X.w _ _ _ (.frz _ (.tup ys)) from ⟨Heap.get?_push_size _ rfl, hz, its, r', IsTup.new _ _⟩)
    exact ⟨.ref h'.objs.size, _, I2, rfl, q _ _ (I1.hok.fresh (Nat.le_refl _)) rfl⟩
  · obtain ⟨its, r', pl, hz⟩ := I.tuple hq
    exact call_tuple_same pl ⟨.ref p, H, I, rfl, q⟩
theorem c_tuple : CallR X (.type "tuple") (rML X.K oTuple) := by
  intro pins s σ H vs us Q I r h
  obtain ⟨W, st, xs, z, ss, rx, hz, q⟩ := h
  unfold oTuple at hz
  split at hz
  · cases hz
    obtain ⟨u, rfl, r1⟩ := rx.one
    obtain ⟨a, ws, rfl, s1, r2, _⟩ := asT_inv r1 rfl
    exact call_tupleN pins s σ H _ us Q I r ⟨a, ws, rfl, .inr ⟨s1, q _ H (Le.refl _ _) ss r1⟩⟩
  · split at hz
    · rename_i ys e
      cases hz
      obtain ⟨u, rfl, r1⟩ := rx.one
      obtain ⟨a, ws, rfl, s1, r2, hl⟩ := asS_inv ss r1 e
      refine call_tupleN pins s σ H _ us Q I r ⟨a, ws, rfl, .inl ⟨s1, fun p ob hp hd => ?_⟩⟩
      obtain ⟨l, s'⟩ := ss.new (o := .frz ob (.tup ws)) hp
      exact q _ _ l s' (new_tup ss hp hd r2 hl)
    · cases hz
  · cases hz
/-- a new list out of what is built in -/
abbrev OF := List PV → Sto → Option (List PV)
def rMF (K : PySem.W.Frag) (o : OF) : List V → Hp → VK → Prop := fun us H Q => ∃ W st xs ys, SimS K W st H ∧ RpL K W H xs us ∧ o xs st = some ys ∧
  ∀ p ws H' , Le W H W H' → SimS K W st H' → RpL K W H' ys ws → ys.length ≤ sizeLine → H' p = none → Q (.ref p) (upd H' p (.lst ws))
def mClF (o : OF) (a : M (List PV)) : M (List PV) := a.bind fun xs => fun _ st => (o xs st).map fun z => .ok z st
theorem clF_body {E : EX} {K : PySem.W.Frag} {o : OF} {ta : M (List PV)} {σ : L2.St} {H : Hp} {Q : VK} (q : tMF K E (mClF o ta) σ H Q) : tCB (rMF K o) (tML K E ta) σ H Q := by
  obtain ⟨W, env, st, sl, ss, q⟩ := q
  refine bindF_at sl ss q fun x u st1 W1 H1 l1 sl1 ss1 rx q1 => ?_
  cases e : o x st1 with
  | none => rw [e] at q1; exact q1.elim
  | some z =>
    rw [e] at q1
    exact ⟨W1, st1, x, z, ss1, rx, e, fun p ws H' l s r hz hp => q1 p ws H' W1 l s r hz hp⟩
theorem f_callB {E : EX} {e : Expr} {es : List Expr} {pos : Pos} {id : String} {x : Str} {p : Pos} {o : OF} {ta : M (List PV)} (hc : CallR X (.builtin id) (rMF X.K o)) (hg : Gl X x) (hm : X.mg x = none) (hv : bootBuiltins x = some (.builtin id)) (ha : MA X E (e :: es) ta)
    (hn : x ≠ "__name__" := by decide) (hdb : (x == ("__debug__" : Str)) = false := by decide)
    (he : starEach (e :: es) X.env = (false, eval e X.env) :: starEach es X.env := by rfl) (hpl : (backTo pos (starEach es X.env)).any (·.1) = false := by rfl) : MF X E (.Call (.Name x p) (e :: es) [] pos) (mClF o ta) :=
  peW (pe_callB hc hg hm hv ha hn hdb he hpl) fun _ _ _ q => clF_body q
theorem f_callTy {E : EX} {e : Expr} {es : List Expr} {pos : Pos} {T : String} {x : Str} {p : Pos} {o : OF} {ta : M (List PV)} (hc : CallR X (.type T) (rMF X.K o)) (hg : Gl X x) (hm : X.mg x = none) (hv : bootBuiltins x = some (.type T)) (ha : MA X E (e :: es) ta)
    (hn : x ≠ "__name__" := by decide) (hdb : (x == ("__debug__" : Str)) = false := by decide)
    (he : starEach (e :: es) X.env = (false, eval e X.env) :: starEach es X.env := by rfl) (hpl : (backTo pos (starEach es X.env)).any (·.1) = false := by rfl) : MF X E (.Call (.Name x p) (e :: es) [] pos) (mClF o ta) :=
  peW (pe_callTy hc hg hm hv ha hn hdb he hpl) fun _ _ _ q => clF_body q
def oList : OF := fun xs st => match xs with
  | [x] => asQ st x
  | _ => none
theorem c_list : CallR X (.type "list") (rMF X.K oList) := by
  intro pins s σ H vs us Q I r h
  obtain ⟨W, st, xs, ys, ss, rx, hz, q⟩ := h
  unfold oList at hz
  split at hz
  · obtain ⟨u, rfl, r1⟩ := rx.one
    obtain ⟨a, ws, rfl, s1, r2, hl⟩ := asQ_inv ss r1 hz
    exact call_list_of pins s σ H _ us Q I r ⟨a, ws, rfl, s1, fun p hp => q p ws H (Le.refl _ _) ss r2 hl hp⟩
  · cases hz
def oInt : OL := fun xs _ => match xs with
  | [.int i] => some (.int i)
  | _ => none
theorem c_int : CallR X (.type "int") (rML X.K oInt) := by
  intro pins s σ H vs us Q I r h
  obtain ⟨W, st, xs, z, ss, rx, hz, q⟩ := h
  unfold oInt at hz
  split at hz
  · cases hz
    obtain ⟨u, rfl, r1⟩ := rx.one
    rw [int_inv r1] at r
    exact call_int1 pins s σ H _ us Q I r (.inl ⟨_, rfl, q _ H (Le.refl _ _) ss rp_int⟩)
  · cases hz
def oAbs : OL := fun xs _ => match xs with
  | [.int i] => some (.int (if i < 0 then -i else i))
  | _ => none
theorem c_abs : CallR X (.builtin "abs") (rML X.K oAbs) := by
  intro pins s σ H vs us Q I r h
  obtain ⟨W, st, xs, z, ss, rx, hz, q⟩ := h
  unfold oAbs at hz
  split at hz
  · cases hz
    obtain ⟨u, rfl, r1⟩ := rx.one
    rw [int_inv r1] at r
    exact call_abs pins s σ H _ us Q I r ⟨_, rfl, q _ H (Le.refl _ _) ss rp_int⟩
  · cases hz
def oGcd : OL := fun xs _ => match xs with
  | [.int i, .int j] => some (.int ((Nat.gcd i.natAbs j.natAbs : Nat) : Int))
  | _ => none
theorem c_gcd : CallR X (.builtin "math.gcd") (rML X.K oGcd) := by
  intro pins s σ H vs us Q I r h
  obtain ⟨W, st, xs, z, ss, rx, hz, q⟩ := h
  unfold oGcd at hz
  split at hz
  · cases hz
    obtain ⟨u, w, rfl, r1, r2⟩ := rx.two
    rw [int_inv r1, int_inv r2] at r
    exact cr_gcd pins s σ H _ us Q I r ⟨_, _, rfl, q _ H (Le.refl _ _) ss rp_int⟩
  · cases hz
theorem m_callBf {E : EX} {e : Expr} {es : List Expr} {pos : Pos} {id : String} {x : Str} {p : Pos} {o : OL} {ta : M (List PV)} (hc : CallR X (.builtin id) (rML X.K o)) (hg : Gl X x) (hm : X.mg x = some (.builtin id)) (ha : MA X E (e :: es) ta)
    (hdb : (x == ("__debug__" : Str)) = false := by decide)
    (he : starEach (e :: es) X.env = (false, eval e X.env) :: starEach es X.env := by rfl) (hpl : (backTo pos (starEach es X.env)).any (·.1) = false := by rfl) : ME X E (.Call (.Name x p) (e :: es) [] pos) (mCl o ta) :=
  peW (pe_callBfun hc hg hm ha hdb he hpl) fun _ _ _ q => cl_body q

/-! ### repr -/
def shows (d : PyData) : Bool := d.showable && decide (d.depth ≤ 64) && decide (d.shown.length ≤ sizeLine)
def oRepr : OL := fun xs st => match xs with
  | [x] => match dataV st x with
    | some d => if shows d then some (.str d.shown) else none
    | none => none
  | _ => none
theorem noDict_dp {K : PySem.W.Frag} {H : Hp} {d : PyData} {u : V} (h : Dp K H u d) : d.hasDict = false := by
  have key : ∀ d : PyData, d.plain = true → d.hasDict = false := by
    intro d
    exact (PyData.rec (motive_1 := fun d => d.plain = true → d.hasDict = false) (motive_2 := fun ds => PyData.plainAll ds = true → PyData.hasDictAll ds = false) (motive_3 := fun _ => True) (motive_4 := fun _ => True)
      (fun _ => rfl) (fun _ _ => rfl) (fun _ _ => rfl) (fun _ _ => rfl) (fun xs ih h => ih (by simpa only [PyData.plain] using h)) (fun xs ih h => ih (by simpa only [PyData.plain] using h)) (fun _ _ h => by simp [PyData.plain] at h)
      (fun _ => rfl) (fun x xs i1 i2 h => by simp only [PyData.plainAll, Bool.and_eq_true] at h; simp only [PyData.hasDictAll, i1 h.1, i2 h.2, Bool.or_false]) trivial (fun _ _ _ _ => trivial) (fun _ _ _ _ => trivial) d)
  exact key d (plain_dp d u h)
theorem c_repr (hg : X.A.guards = some []) (hu : X.A.units + 66 < cLine) : CallR X (.builtin "repr") (rML X.K oRepr) := by
  intro pins s σ H vs us Q I r h
  obtain ⟨W, st, xs, z, ss, rx, hz, q⟩ := h
  unfold oRepr at hz
  split at hz
  · rename_i x
    split at hz
    · rename_i d e
      split at hz
      · rename_i hs
        cases hz
        simp only [shows, Bool.and_eq_true, decide_eq_true_eq] at hs
        obtain ⟨⟨hsh, hd⟩, hl⟩ := hs
        obtain ⟨u, rfl, r1⟩ := rx.one
        have dp := dv_of ss x u d r1 e
        obtain ⟨w, rfl, rw'⟩ := r.one
        have fin : ∀ tk (u : Tok), EP X pins σ Q (.str d.shown u) { s with toks := tk } := fun tk u => ⟨.str d.shown, H, I.tok tk, ⟨_, rfl⟩, q _ H (Le.refl _ _) ss (rp_str hl)⟩
        have rep := Dp.reads I d u w dp rw'
        cases dp with
        | non => cases rw'; exact PySem.P.repr_of_none (by simpa only [PyData.shown] using fin _ _)
        | bl b => cases rw'; exact PySem.P.repr_of_bool (by simpa only [PyData.shown] using fin _ _)
        | int i =>
          obtain ⟨t, rfl⟩ := rw'
          exact PySem.P.repr_of_int (by simpa [PyData.showable] using hsh) (by simpa only [PyData.shown] using fin _ _)
        | str y =>
          obtain ⟨t, rfl⟩ := rw'
          exact PySem.P.repr_of_str (by simpa only [PyData.shown] using fin _ _) (by simpa only [PyData.shown] using hl)
        | lst s1 s2 =>
          cases rw'
          obtain ⟨as, rd⟩ := rep
          exact repr_of_reads' rd hsh (PyData.noDict_hsm (noDict_dp (Dp.lst s1 s2))) hg (by omega) (fun _ _ e => e) (fun h' t tk hk => ⟨.str _, H, I.kept (h' := h') (t' := tk) hk, ⟨_, rfl⟩, q _ H (Le.refl _ _) ss (rp_str hl)⟩) hl
        | tup s1 s2 =>
          cases rw'
          obtain ⟨as, rd⟩ := rep
          exact repr_of_reads' rd hsh (PyData.noDict_hsm (noDict_dp (Dp.tup s1 s2))) hg (by omega) (fun _ _ e => e) (fun h' t tk hk => ⟨.str _, H, I.kept (h' := h') (t' := tk) hk, ⟨_, rfl⟩, q _ H (Le.refl _ _) ss (rp_str hl)⟩) hl
      · cases hz
    · cases hz
  · cases hz
end

/-! ### what changes: a list of the store -/
section
variable {K : PySem.W.Frag} {W : Wd} {st : Sto} {H : Hp} {r : Nat} {a : Addr}
theorem SimS.put (ss : SimS K W st H) (ha : W.ρ[r]? = some a) {o : HO} {m : MO} (hm : ∀ H', (∀ a o', Fz W H a = some o' → Fz W H' a = some o') → H' a = some o → ObR K W H' m a) (hn : ∀ od u, H a ≠ some (.frz od u)) :
    Le W H W (upd H a o) ∧ SimS K W (st.set r m) (upd H a o) := by
  have hmem : a ∈ W.ρ := List.mem_of_getElem? ha
  have hF : ∀ b o', Fz W H b = some o' → Fz W (upd H a o) b = some o' := fun b o' e => by
    obtain ⟨h1, h2, h3⟩ := Fz_some.mp e
    exact Fz_some.mpr ⟨h1, h2, by rw [upd_ne fun z => h1 (by rw [z]; exact hmem)]; exact h3⟩
  refine ⟨⟨List.prefix_refl _, fun _ h => h, hF, fun b hb => upd_ne fun z => ss.dj a hmem (by rw [← z]; exact hb), fun b _ od u e => by rw [upd_ne fun z => hn od u (by rw [← z]; exact e)]; exact e⟩, by rw [ss.len, List.length_set], ss.nd, ss.dj, fun b hb => ?_, fun i m' b e1 e2 => ?_⟩
  · rw [upd_ne fun z => ss.dj a hmem (by rw [← z]; exact hb)]
    exact ss.hs b hb
  · by_cases hi : r = i
    · subst hi
      rw [ha] at e2; cases e2
      have hl : r < st.length := by rw [← ss.len]; exact (List.getElem?_eq_some_iff.mp ha).1
      rw [List.getElem?_set_self hl] at e1
      cases e1
      exact hm _ hF upd_same
    · rw [List.getElem?_set_ne hi] at e1
      have ne : b ≠ a := fun z => by
        subst z
        obtain ⟨g1, k1⟩ := List.getElem?_eq_some_iff.mp ha
        obtain ⟨g2, k2⟩ := List.getElem?_eq_some_iff.mp e2
        exact hi ((List.getElem_inj ss.nd).mp (k1.trans k2.symm))
      exact (ss.ob i m' b e1 e2).mono hF (List.prefix_refl _) (upd_ne ne)
theorem SimS.putL (ss : SimS K W st H) (ha : W.ρ[r]? = some a) {xs : List PV} {vs : List V} (rx : RpL K W H xs vs) (hz : xs.length ≤ sizeLine) {v0 : List V} (h0 : H a = some (.lst v0)) :
    Le W H W (upd H a (.lst vs)) ∧ SimS K W (st.set r (.lst xs)) (upd H a (.lst vs)) :=
  ss.put ha (fun H' hF e => ⟨vs, e, RepL.mono hF (List.prefix_refl _) _ _ rx, hz⟩) fun od u e => by rw [h0] at e; cases e
end
/-- a method's answer and the store behind it -/
abbrev OMt := PV → List PV → Sto → Option (PV × Sto)
def rMt (K : PySem.W.Frag) (o : OMt) : V → List V → Hp → VK → Prop := fun u us H Q => ∃ W st x xs z st', SimS K W st H ∧ Rp K W H x u ∧ RpL K W H xs us ∧ o x xs st = some (z, st') ∧
  ∀ w H', Le W H W H' → SimS K W st' H' → Rp K W H' z w → Q w H'
/-- the receiver is of the built-in type T, ahead of the arguments -/
def rcv (T : String) (x : PV) (st : Sto) : Bool := match x with
  | .str _ => T == "str"
  | .ref r => match st[r]? with
    | some (.lst _) => T == "list"
    | some (.dic _) => T == "dict"
    | _ => false
  | x => T == "list" && (asS st x).isSome
def mMt (T : String) (o : OMt) (m : M PV) (a : M (List PV)) : M PV := m.bind fun x => fun env st => if rcv T x st then M.bind a (fun xs => fun _ st => (o x xs st).map fun r => .ok r.1 r.2) env st else none
theorem rcv_ty {K : PySem.W.Frag} {W : Wd} {st : Sto} {H : Hp} {x : PV} {u : V} {T : String} (ss : SimS K W st H) (r : Rp K W H x u) (h : rcv T x st = true) : tyV K T u H := by
  have seq : (T == "list" && (asS st x).isSome) = true → tyV K T u H := fun h' => by
    rw [Bool.and_eq_true] at h'
    obtain ⟨ys, hy⟩ := Option.isSome_iff_exists.mp h'.2
    obtain ⟨p, vs, rfl, s1, _, _⟩ := asS_inv ss r hy
    exact .inl ⟨by simpa using h'.1, vs, s1⟩
  cases x with
  | str z =>
    rw [(str_inv r).1]
    have h' : (T == "str") = true := h
    exact (by simpa using h' : T = "str")
  | ref i =>
    obtain ⟨a, rfl, ha⟩ : ∃ a, u = .ref a ∧ W.ρ[i]? = some a := by simpa only [Rp, Rep] using r
    simp only [rcv] at h
    split at h
    · rename_i ys e
      obtain ⟨vs, h1, _⟩ := ss.ob i _ a e ha
      exact .inl ⟨by simpa using h, vs, .inl (.inl h1)⟩
    · rename_i ps e
      obtain ⟨ks, h1, _⟩ := ss.ob i _ a e ha
      exact .inr (.inr (.inl ⟨by simpa using h, .inl ⟨ks, h1⟩⟩))
    · cases h
  | _ => exact seq h
section
variable {X : Cx} {E : EX} {o e : Expr} {es : List Expr} {apos cpos : Pos} {T id : String} {name : Str}
theorem m_mt {om : OMt} {m : M PV} {a : M (List PV)} (pa : PlainAttrs T) (slot : Slot T name id) (hty : typeOf (.builtin id) = pure (.type "method_descriptor")) (hm : MtR X id (rMt X.K om)) (ho : ME X E o m) (ha : MA X E (e :: es) a)
    (hbase : attributeBase o name X.env (eval o X.env) = eval o X.env := by rfl)
    (hfew : ((backTo cpos (starEach (e :: es) X.env)).all (fun x => !x.1) && (backToKw cpos (keywordEach [] X.env)).all (fun x => x.1.isSome)
      && decide ((e :: es).length + ([] : List Keyword).length + (if ([] : List Keyword).isEmpty then 0 else 1) < 30)) = true := by rfl)
    (hline : (apos.endLine == cpos.line) = true := by rfl) (hs : starEach (e :: es) X.env = (false, eval e X.env) :: starEach es X.env := by rfl) (hplain : (backTo cpos (starEach es X.env)).any (·.1) = false := by rfl) :
    ME X E (.Call (.Attribute o name apos) (e :: es) [] cpos) (mMt T om m a) := by
  refine peW (pe_bm pa slot hty hm ho ha hbase hfew hline hs hplain) fun σ H Q q => ?_
  obtain ⟨W, env, st, sl, ss, q⟩ := q
  refine bind_at sl ss q fun x u st1 W1 H1 l1 sl1 ss1 rx q1 => ?_
  split at q1
  · rename_i hc
    refine ⟨rcv_ty ss1 rx hc, ?_⟩
    refine bindL_at sl1 ss1 q1 fun xs us st2 W2 H2 l2 sl2 ss2 rxs q2 => ?_
    cases eo : om x xs st2 with
    | none => rw [eo] at q2; exact q2.elim
    | some r =>
      rw [eo] at q2
      exact ⟨W2, st2, x, xs, r.1, r.2, ss2, rx.le l2, rxs, eo, fun w H' l s rz => q2 w H' W2 l s rz⟩
  · exact q1.elim
/-! append, extend, insert -/
def oAppend : OMt := fun x xs st => match x, xs with
  | .ref r, [y] => match st[r]? with
    | some (.lst ys) => if ys.length < sizeLine then some (.non, st.set r (.lst (ys ++ [y]))) else none
    | _ => none
  | _, _ => none
theorem mt_app : MtR X "list.append" (rMt X.K oAppend) := by
  intro pins s σ H xv vs v us Q I rx rv h
  obtain ⟨W, st, x, xs, z, st', ss, hx, hxs, ho, q⟩ := h
  unfold oAppend at ho
  split at ho
  · rename_i r y
    split at ho
    · rename_i ys es
      split at ho
      · rename_i hz
        cases ho
        obtain ⟨a, rfl, ha⟩ : ∃ a, xv = .ref a ∧ W.ρ[r]? = some a := by simpa only [Rp, Rep] using hx
        obtain ⟨w, rfl, ry⟩ := hxs.one
        obtain ⟨ws, h1, h2, h3⟩ := ss.ob r _ a es ha
        obtain ⟨l, s'⟩ := ss.putL ha (RepL.append h2 (RepL.cons ry RepL.nil)) (by simp; omega) h1
        exact mt_append pins s σ H _ _ v us Q I rx rv ⟨a, ws, w, rfl, rfl, h1, by rw [h2.len]; exact hz, q _ _ l s' rp_non⟩
      · cases ho
    · cases ho
  · cases ho
def oExtend : OMt := fun x xs st => match x, xs with
  | .ref r, [y] => match st[r]?, asL st y with
    | some (.lst ys), some zs => if ys.length + zs.length ≤ sizeLine then some (.non, st.set r (.lst (ys ++ zs))) else none
    | _, _ => none
  | _, _ => none
theorem mt_ext : MtR X "list.extend" (rMt X.K oExtend) := by
  intro pins s σ H xv vs v us Q I rx rv h
  obtain ⟨W, st, x, xs, z, st', ss, hx, hxs, ho, q⟩ := h
  unfold oExtend at ho
  split at ho
  · rename_i r y
    split at ho
    · rename_i ys zs es ez
      split at ho
      · rename_i hz
        cases ho
        obtain ⟨a, rfl, ha⟩ : ∃ a, xv = .ref a ∧ W.ρ[r]? = some a := by simpa only [Rp, Rep] using hx
        obtain ⟨w, rfl, ry⟩ := hxs.one
        obtain ⟨ws, h1, h2, h3⟩ := ss.ob r _ a es ha
        obtain ⟨b, us2, rfl, g1, g2, g3⟩ := asL_inv ss ry ez
        obtain ⟨l, s'⟩ := ss.putL ha (RepL.append h2 g2) (by simp; omega) h1
        exact mt_extend pins s σ H _ _ v us Q I rx rv ⟨a, b, ws, us2, rfl, rfl, h1, g1, by rw [h2.len, g2.len]; exact hz, q _ _ l s' rp_non⟩
      · cases ho
    · cases ho
  · cases ho
def oInsert : OMt := fun x xs st => match x, xs with
  | .ref r, [.int i, y] => match st[r]? with
    | some (.lst ys) => if ys.length < sizeLine ∧ 0 ≤ i ∧ i < 2 ^ 63 then some (.non, st.set r (.lst (ys.take i.toNat ++ [y] ++ ys.drop i.toNat))) else none
    | _ => none
  | _, _ => none
theorem mt_ins : MtR X "list.insert" (rMt X.K oInsert) := by
  intro pins s σ H xv vs v us Q I rx rv h
  obtain ⟨W, st, x, xs, z, st', ss, hx, hxs, ho, q⟩ := h
  unfold oInsert at ho
  split at ho
  · rename_i r i y
    split at ho
    · rename_i ys es
      split at ho
      · rename_i hz
        cases ho
        obtain ⟨a, rfl, ha⟩ : ∃ a, xv = .ref a ∧ W.ρ[r]? = some a := by simpa only [Rp, Rep] using hx
        obtain ⟨w0, w, rfl, r0, ry⟩ := hxs.two
        rw [int_inv r0] at rv
        obtain ⟨ws, h1, h2, h3⟩ := ss.ob r _ a es ha
        obtain ⟨l, s'⟩ := ss.putL ha (RepL.append (RepL.append (RepL.take i.toNat h2) (RepL.cons ry RepL.nil)) (RepL.drop i.toNat h2)) (by
          rw [List.length_append, List.length_append, List.length_take, List.length_drop, List.length_singleton]; omega) h1
        exact mt_insert pins s σ H _ _ v us Q I rx rv ⟨a, ws, i, w, rfl, rfl, h1, by rw [h2.len]; exact hz.1, hz.2.1, hz.2.2, q _ _ l s' rp_non⟩
      · cases ho
    · cases ho
  · cases ho
end

/-! ### x[i] = e, x[i] += e -/
section
variable {X : Cx} {E : EX} {o i e : Expr} {pos tpos : Pos}
def oPut (x i y : PV) (st : Sto) : Option Sto := match x, i with
  | .ref r, .int k => match st[r]? with
    | some (.lst xs) => (ixN xs.length k).map fun j => st.set r (.lst (xs.set j y))
    | _ => none
  | _, _ => none
def rPut (K : PySem.W.Frag) : TSet := fun o i v H Q => ∃ W st x k y st', SimS K W st H ∧ Rp K W H x o ∧ Rp K W H k i ∧ Rp K W H y v ∧ oPut x k y st = some st' ∧ ∀ H', Le W H W H' → SimS K W st' H' → Q H'
theorem s_put : PSet X (rPut X.K) := by
  intro pins s σ H ov iv vv ou iu vu Q I ro ri rv h
  obtain ⟨W, st, x, k, y, st', ss, hx, hk, hy, ho, q⟩ := h
  unfold oPut at ho
  split at ho
  · rename_i r k
    split at ho
    · rename_i xs es
      rw [Option.map_eq_some_iff] at ho
      obtain ⟨j, hj, rfl⟩ := ho
      obtain ⟨a, rfl, ha⟩ : ∃ a, ov = .ref a ∧ W.ρ[r]? = some a := by simpa only [Rp, Rep] using hx
      obtain ⟨ws, h1, h2, h3⟩ := ss.ob r _ a es ha
      obtain ⟨l, s'⟩ := ss.putL ha (RepL.set j h2 hy) (by rw [List.length_set]; exact h3) h1
      exact set_list pins s σ H _ _ _ ou iu vu Q I ro ri rv ⟨a, ws, k, j, rfl, int_inv hk, h1, by rw [h2.len]; exact hj, q _ l s'⟩
    · cases ho
  · cases ho
/-- x[i] = e -/
def mPut (me mo mi : M PV) : MS := me.bindS fun y => M.bindS mo fun x => M.bindS mi fun k => fun env st => (oPut x k y st).map fun st' => .next env st'
theorem ms_put {me mo mi : M PV} (he : ME X E e me) (ho : ME X E o mo) (hi : ME X E i mi)
    (ha : ∀ v, assign (.Subscript o i tpos) X.env v = (do
      let ov ← holding [v] (eval o X.env)
      let iv ← holding [v, ov] (eval i X.env)
      standAt tpos
      holding [v, ov, iv] (setItem ov iv v)
      release [v, ov, iv] []) := by intro _; rfl)
    (hs : swapsWithSole [.Subscript o i tpos] e pos.line X.env = pure false := by rfl) (hw : swappedStores [.Subscript o i tpos] e X.env = pure none := by rfl)
    (h1 : (assignEach [.Subscript o i tpos] X.env).map (·.2) = [assign (.Subscript o i tpos) X.env] := by rfl) : MSt X E (.Assign [.Subscript o i tpos] e pos) (mPut me mo mi) := by
  refine psW (ps_asg he (pg_sub ho hi s_put ha) hs hw h1) fun D σ H q => ?_
  obtain ⟨W, env, st, sl, ss, q⟩ := q
  refine bindS_at sl ss q fun y vy st1 W1 H1 l1 sl1 ss1 ry q1 => ?_
  refine bindS_at sl1 ss1 q1 fun x vx st2 W2 H2 l2 sl2 ss2 rx q2 => ?_
  refine bindS_at sl2 ss2 q2 fun k vk st3 W3 H3 l3 sl3 ss3 rk q3 => ?_
  cases eo : oPut x k y st3 with
  | none => rw [eo] at q3; exact q3.elim
  | some st' =>
    rw [eo] at q3
    exact ⟨W3, st3, x, k, y, st', ss3, rx.le l3, rk, (ry.le l2).le l3, eo, fun H' l s => q3 σ H' W3 l (sl3.le l) s⟩
/-- a list's item by a place from 0 on -/
def oIxN : O2 := fun x k st => match k with
  | .int i => if 0 ≤ i then (match asS st x with
    | some xs => xs[i.toNat]?
    | none => none) else none
  | _ => none
theorem g_ix : PGet X (rM2 X.K oIxN) := by
  intro pins s σ H ov iv ou iu Q I ro ri h
  obtain ⟨W, st, x, y, z, ss, hx, hy, hz, q⟩ := h
  unfold oIxN at hz
  split at hz
  · rename_i i
    split at hz
    · rename_i h0
      split at hz
      · rename_i xs e
        obtain ⟨a, ws, rfl, s1, r2, hl⟩ := asS_inv ss hx e
        obtain ⟨w, g1, g2⟩ := RepL.get r2 hz
        rw [int_inv hy] at ri
        obtain ⟨t, rfl⟩ := ri
        cases ro
        obtain ⟨its, rv, pl, hz2⟩ := I.list s1
        obtain ⟨w2, k1, k2⟩ := rv.get g1
        have hn := line63
        have hb := (List.getElem?_eq_some_iff.mp hz).1
        exact PySem.wpAny_getItem_list pl.isList h0 (by omega) (by simpa using k1) ⟨w, H, I, k2, q _ H (Le.refl _ _) ss g2⟩
      · cases hz
    · cases hz
  · cases hz
theorem r_iadd : OpR X (inplaceOp .Add) (rM2 X.K (oI (fun _ _ => True) fun i j => .int (i + j))) := r_I0 iop_add
/-- x[i] op= e -/
def mAugP (op : O2) (mo mi me : M PV) : MS := mo.bindS fun x => M.bindS mi fun k => fun env st => match oIxN x k st with
  | none => none
  | some v => M.bindS me (fun y => fun env st => match op v y st with
    | none => none
    | some z => (oPut x k z st).map fun st' => .next env st') env st
theorem ms_augP {op : Operator} {o2 : O2} {mo mi me : M PV} (hop : OpR X (inplaceOp op) (rM2 X.K o2)) (ho : ME X E o mo) (hi : ME X E i mi) (he : ME X E e me)
    (ha : ∀ ov iv new, augStore i ov iv new = (do holding [new, ov, iv] (setItem ov iv new); release [new, ov, iv] []; pure .next) := by intros; rfl) : MSt X E (.AugAssign (.Subscript o i tpos) op e pos) (mAugP o2 mo mi me) := by
  refine psW (ps_augS ho hi g_ix he hop s_put ha) fun D σ H q => ?_
  obtain ⟨W, env, st, sl, ss, q⟩ := q
  refine bindS_at sl ss q fun x vx st1 W1 H1 l1 sl1 ss1 rx q1 => ?_
  refine bindS_at sl1 ss1 q1 fun k vk st2 W2 H2 l2 sl2 ss2 rk q2 => ?_
  cases ei : oIxN x k st2 with
  | none => rw [ei] at q2; exact q2.elim
  | some v =>
    rw [ei] at q2
    refine ⟨W2, st2, x, k, v, ss2, rx.le l2, rk, ei, fun w H3 l3 ss3 rv => ?_⟩
    have q3 : tSr X.K E W2 H3 D (M.bindS me (fun y => fun env st => match o2 v y st with
      | none => none
      | some z => (oPut x k z st).map fun st' => .next env st') env st2) := tSr.le l3 q2
    refine bindS_at (sl2.le l3) ss3 q3 fun y vy st4 W4 H4 l4 sl4 ss4 ry q4 => ?_
    cases eo : o2 v y st4 with
    | none => rw [eo] at q4; exact q4.elim
    | some z =>
      rw [eo] at q4
      refine ⟨W4, st4, v, y, z, ss4, rv.le l4, ry, eo, fun w5 H5 l5 ss5 rz => ?_⟩
      cases ep : oPut x k z st4 with
      | none =>
        have q4 : tSr X.K E W4 H4 D ((oPut x k z st4).map fun st' => .next env st') := q4
        rw [ep] at q4; exact q4.elim
      | some st' =>
        have q4 : tSr X.K E W4 H4 D ((oPut x k z st4).map fun st' => .next env st') := q4
        rw [ep] at q4
        exact ⟨W4, st4, x, k, z, st', ss5, (((rx.le l2).le l3).le l4).le l5, ((rk.le l3).le l4).le l5, rz, ep, fun H' l s => q4 σ H' W4 (l5.trans l) ((sl4.le l5).le l) s⟩
end

/-! ### a op1 b op2 c -/
section
variable {X : Cx} {E : EX} {a b c : Expr} {pos : Pos}
def mChain (o o' : O2) (ma mb mc : M PV) : M PV := ma.bind fun x => mb.bind fun y => fun env st => match o x y st with
  | some (.bl true) => M.bind mc (fun z => fun _ st => (o' y z st).map fun r => .ok r st) env st
  | some (.bl false) => some (.ok (.bl false) st)
  | _ => none
theorem chain_body {K : PySem.W.Frag} {o o' : O2} {ma mb mc : M PV} {σ : L2.St} {H : Hp} {Q : VK} (q : tM K E (mChain o o' ma mb mc) σ H Q) : tChain (rM2 K o) (rM2 K o') (tM K E ma) (tM K E mb) (tM K E mc) σ H Q := by
  obtain ⟨W, env, st, sl, ss, q⟩ := q
  refine bind_at sl ss q fun x u st1 W1 H1 l1 sl1 ss1 rx q1 => ?_
  refine bind_at sl1 ss1 q1 fun y v st2 W2 H2 l2 sl2 ss2 ry q2 => ?_
  cases eo : o x y st2 with
  | none => rw [eo] at q2; exact q2.elim
  | some z =>
    refine ⟨W2, st2, x, y, z, ss2, rx.le l2, ry, eo, fun w H3 l3 ss3 rz => ?_⟩
    rw [eo] at q2
    cases z with
    | bl k =>
      refine ⟨k, bl_inv' rz, ?_⟩
      cases k with
      | false =>
        rw [if_neg Bool.false_ne_true]
        exact q2 _ H3 W2 l3 ss3 rp_bl
      | true =>
        rw [if_pos rfl]
        have q3 : tMr K (E σ) W2 H3 Q (M.bind mc (fun z => fun _ st => (o' y z st).map fun r => .ok r st) env st2) := tMr.le l3 q2
        refine bind_at (sl2.le l3) ss3 q3 fun z w st4 W4 H4 l4 sl4 ss4 rz' q4 => ?_
        cases eo' : o' y z st4 with
        | none => rw [eo'] at q4; exact q4.elim
        | some r =>
          rw [eo'] at q4
          exact ⟨W4, st4, y, z, r, ss4, (ry.le l3).le l4, rz', eo', fun w5 H5 l5 ss5 r5 => q4 _ H5 W4 l5 ss5 r5⟩
    | _ => exact q2.elim
theorem m_chain {op op' : CmpOp} {o o' : O2} {ma mb mc : M PV} (ho : OpR X (compareOp op) (rM2 X.K o)) (ho' : OpR X (compareOp op') (rM2 X.K o')) (ha : ME X E a ma) (hb : ME X E b mb) (hc : ME X E c mc)
    (hm : lastMarks [op, op'] [b, c] = false := by with_unfolding_all rfl) : ME X E (.Compare a [op, op'] [b, c] pos) (mChain o o' ma mb mc) :=
  peW (pe_chain ho ho' ha hb hc hm) fun _ _ _ q => chain_body q
theorem tst_mono {K : PySem.W.Frag} {m : M PV} {σ : L2.St} {H : Hp} {Q : Bool → Hp → Prop} (q : tMB K E (mTst m) σ H Q) : tM K E m σ H fun x H' => ∃ k, x = .bl k ∧ Q k H' := tTest_of q
theorem m_chainT {op op' : CmpOp} {o o' : O2} {ma mb mc : M PV} (ho : OpR X (compareOp op) (rM2 X.K o)) (ho' : OpR X (compareOp op') (rM2 X.K o')) (ha : ME X E a ma) (hb : ME X E b mb) (hc : ME X E c mc)
    (hm : lastMarks [op, op'] [b, c] = false := by with_unfolding_all rfl) : MT X E (.Compare a [op, op'] [b, c] pos) (mTst (mChain o o' ma mb mc)) :=
  ptW (pt_chain ho ho' ha hb hc hm) fun _ _ _ q => chain_body (tst_mono q)
end
end Mi

/-! Mi9: rows of and | or, x op= e, a def as it is called. -/
namespace Mi
open PySem PySem.Spec PyProof.Rows L2
section
variable {X : Cx} {E : EX} {a e : Expr} {pos : Pos}
theorem m_bone {op : BoolOp} {m : M PV} (h : ME X E a m) : ME X E (.BoolOp op [a] pos) m := pe_one h
theorem m_and1 {m : M Bool} (h : MT X E a m) : PW X (.BoolOp .And [a] pos) (tMB X.K E m) := pw_and1 h
theorem m_or1 {m : M Bool} (h : MT X E a m) : PW X (.BoolOp .Or [a] pos) (tMB X.K E m) := pw_or1 h
theorem nm {op : CmpOp} (b : Expr) (h : op ≠ .In) (h2 : op ≠ .NotIn) : behindInMarks op b = false := nobehind b h h2
/-- x op= e -/
def mAug (o : O2) (i : Nat) (m : M PV) : MS := M.bindS (mVar i) fun x => M.bindS m fun y => fun env st => match o x y st with
  | some z => some (.next (env.set i (some z)) st)
  | none => none
theorem ms_aug {o : O2} {op : Operator} {i : Nat} {x : Str} {m : M PV} {pos' : Pos} (hop : OpR X (inplaceOp op) (rM2 X.K o)) (hN : X.N.Nodup) (hi : X.N[i]? = some x) (hx : Loc X.env.scope x) (he : ME X E e m)
    (hf : X.fn x = true ∨ X.env.scope.names.lookup x = some .local := by first | exact .inl rfl | exact .inr rfl | assumption) : MSt X E (.AugAssign (.Name x pos') op e pos) (mAug o i m) := by
  refine psW (ps_aug hN hi hx he hop hf) fun D σ H q => ?_
  obtain ⟨W, env, st, sl, ss, q⟩ := q
  have q0 : tSr X.K E W H D (match env[i]? with
    | some (some z) => M.bindS m (fun y => fun env st => match o z y st with
        | some r => some (.next (env.set i (some r)) st)
        | none => none) env st
    | _ => none) := by
    unfold mAug M.bindS mVar at q
    cases e1 : env[i]? with
    | none => rw [e1] at q; exact q
    | some z => cases z with
      | none => rw [e1] at q; exact q
      | some z => rw [e1] at q; exact q
  cases e1 : env[i]? with
  | none => rw [e1] at q0; exact q0.elim
  | some z => cases z with
    | none => rw [e1] at q0; exact q0.elim
    | some z =>
      rw [e1] at q0
      obtain ⟨v, g1, g2⟩ := sl.get _ _ e1
      refine ⟨v, g1, bindS_at sl ss q0 fun y u st2 W2 H2 l2 sl2 ss2 ry q2 => ?_⟩
      cases eo : o z y st2 with
      | none => rw [eo] at q2; exact q2.elim
      | some r =>
        rw [eo] at q2
        exact ⟨W2, st2, z, y, r, ss2, g2.le l2, ry, eo, fun w H' l s rz => q2 _ H' W2 l ((sl2.le l).set i rz) s⟩
/-- return a new list, that the caller changes -/
def mRetA (m : M (List PV)) : MS := m.bindS fun xs _ st => some (.ret (.ref st.length) (st ++ [.lst xs]))
theorem ms_retA {m : M (List PV)} (he : MF X E e m) : MSt X E (.Return (some e) pos) (mRetA m) := by
  refine psW (ps_ret he) fun D σ H q => ?_
  obtain ⟨W, env, st, sl, ss, q⟩ := q
  refine bindFS_at sl ss q fun xs p us st1 W1 H1 l1 sl1 ss1 rx hz hp q1 => ?_
  obtain ⟨l2, ss2⟩ := ss1.push_lst hp rx hz
  exact q1 _ _ (W1.push p) l2 ss2 (rep_push ss1)
theorem m_dict0 : ME X E (.Dict [] [] pos) (mC (.dic [])) := by
  refine peW pe_dnewK fun σ H Q q => ?_
  obtain ⟨W, env, st, sl, ss, q⟩ := q
  intro d hd
  obtain ⟨l, s'⟩ := ss.new (o := .dK []) hd
  refine q _ _ W l s' ?_
  show Rep _ _ _ _ _
  simp only [Rep, RepD]
  exact ⟨d, [], rfl, .inl (Fz_at ss hd), rfl, Nat.zero_le _⟩
end
/-- a def of the text as its callers know it: its mirror φ, its level k -/
structure Def (P : Program) (w : World) (K : PySem.W.Frag) (mg : Str → Option Value) (base : Heap) (x : Str) (n k : Nat) (φ : FnM) : Prop where
  ex : ∃ (f : Addr) (fd : FuncData) (ps : List Str), ps.length = n ∧ FnG P w K mg base CX0 k f fd ps (spM K n φ) ∧ mg x = some (.ref f) ∧ PySem.W.keepIn K (.ref f) = true ∧ Binds K fd ps []
  ar : ∀ xs st r, φ xs st = some r → xs.length = n
/-- what the top has left of a def -/
structure At (K : PySem.W.Frag) (mg : Str → Option Value) (x : Str) (st : Stmt) (ps : List Str) : Prop where
  ex : ∃ (f : Addr) (fd : FuncData), Fun K x x st f fd ∧ mg x = some (.ref f) ∧ Binds K fd ps []
section
variable {P : Program} {w : World} {K : PySem.W.Frag} {mg : Str → Option Value} {base : Heap}
theorem defN_of {x : Str} {st : Stmt} {N ps : List Str} {k n nN : Nat} {mb : MS} (T : At K mg x st ps) (S : FnScope N ps (defScope st)) (hn : ps.length = n) (hN : N.length = nN)
    (hb : ∀ (f : Addr) (cdv : Value) (A : Around) (outer : List Env) (s : Shared) (H : Hp) (E : XK), A.guards = some [] → Room k (A.deeper (envOfC x (defScope st) s.heap.objs.size f cdv)) →
      MSs (cxOf CX0 P w K mg base N x (defScope st) f cdv A outer s H E).nox E00 (defBody st) mb) : Def P w K mg base x n (k + 1) (defN n nN mb) := by
  obtain ⟨f, fd, F, hm, b⟩ := T.ex
  subst hn hN
  exact ⟨⟨f, fd, ps, rfl, def_ok F S (hb f), hm, F.kp, b⟩, defN_ar⟩
theorem defT_of {x : Str} {st : Stmt} {N ps : List Str} {k n nN : Nat} {mb : MS} (T : At K mg x st ps) (S : FnScope N ps (defScope st)) (hn : ps.length = n) (hN : N.length = nN)
    (hb : ∀ (f : Addr) (cdv : Value) (A : Around) (outer : List Env) (s : Shared) (H : Hp) (E : XK), A.guards = some [] → Room k (A.deeper (envOfC x (defScope st) s.heap.objs.size f cdv)) →
      MSs (cxOf CX0 P w K mg base N x (defScope st) f cdv A outer s H E).nox E00 (defBody st) mb) : Def P w K mg base x n (k + 1) (defT n nN mb) := by
  obtain ⟨f, fd, F, hm, b⟩ := T.ex
  subst hn hN
  exact ⟨⟨f, fd, ps, rfl, def_okT F S (hb f), hm, F.kp, b⟩, defT_ar⟩
end
section
variable {X : Cx} {E : EX} {n j k : Nat} {φ : FnM} {x : Str} {p pos : Pos} {e : Expr} {es : List Expr} {m : M (List PV)}
theorem m_call (D : Def X.prog X.w X.K X.mg X.base x n j φ) (hG : X.A.guards = some []) (hr : Room k X.A) (hg : Gl X x) (ha : MA X E (e :: es) m) (hj : j ≤ k := by decide)
    (hdb : (x == ("__debug__" : Str)) = false := by decide) (he : starEach (e :: es) X.env = (false, eval e X.env) :: starEach es X.env := by rfl) (hpl : (backTo pos (starEach es X.env)).any (·.1) = false := by rfl) :
    ME X E (.Call (.Name x p) (e :: es) [] pos) (mCall0 φ m) := by
  obtain ⟨f, fd, ps, hn, F, hm, hk, hb⟩ := D.ex
  subst hn
  exact m_call0 F D.ar hG (hr.mono hj) hg hm hk hb ha hdb he hpl
end
end Mi
namespace Mi
open PySem PySem.Spec PyProof.Rows L2
theorem units66 {k : Nat} {A : Around} (h : Room k A) : A.units + 66 < cLine := by have := h.un; omega
section
variable {P : Program} {w : World} {K : PySem.W.Frag} {mg : Str → Option Value} {base : Heap}
/-- a def of which nothing is told -/
theorem def_none {x : Str} {st : Stmt} {ps : List Str} {n k : Nat} (T : At K mg x st ps) (hn : ps.length = n) : Def P w K mg base x n k (fun _ _ => none) := by
  obtain ⟨f, fd, F, hm, b⟩ := T.ex
  subst hn
  refine ⟨⟨f, fd, ps, rfl, ⟨fun vs H Q E h => ?_, fun A outer s H args us vs Q E _ _ _ _ _ h => ?_⟩, hm, F.kp, b⟩, fun _ _ _ h => nomatch h⟩
  · obtain ⟨W, st, xs, _, r, e, _⟩ := h
    rw [← e, r.len]
  · obtain ⟨W, st, xs, _, r, e, h⟩ := h
    exact h.elim
theorem Def.up {x : Str} {n j k : Nat} {φ : FnM} (D : Def P w K mg base x n j φ) (h : j ≤ k) : Def P w K mg base x n k φ := by
  obtain ⟨f, fd, ps, hn, F, hm, hk, hb⟩ := D.ex
  exact ⟨⟨f, fd, ps, hn, F.up h, hm, hk, hb⟩, D.ar⟩
end
end Mi

/-! MiE: errors of own classes made as values. -/
namespace Mi
open PySem PySem.Spec PyProof.Rows L2
section
variable {X : Cx} {e : Expr} {es : List Expr} {ta : TA} {p p1 p2 pos : Pos} {B x : Str} {D C : Addr} {mc : Value}
/-- B.__init__(self, ..) said by name, B an own class over ValueError without an own __init__; nothing of it is told -/
theorem pe_bsinit {pl : Sem Bool} (hg : Gl X B) (hm : X.mg B = some (.ref D)) (r : ClX.CRead X.K D mc) (vV : PySem.W.findCls X.K (.ref D) mc "__init__" = some (.val (.builtin "ValueError.__init__"))) (ha : PA X (e :: es) ta)
    (hdb : (B == ("__debug__" : Str)) = false := by decide)
    (hc : eval (.Call (.Attribute (.Name B p1) "__init__" p2) (e :: es) [] pos) X.env = (do let ov ← eval (.Name B p1) X.env; standAt p2.atName; let (f, first) ← holding [ov] (getMethod ov "__init__" pl); callWith pos f first (backTo pos (starEach (e :: es) X.env)) (backToKw pos (keywordEach [] X.env))) := by rfl)
    (he : starEach (e :: es) X.env = (false, eval e X.env) :: starEach es X.env := by rfl) (hpl : (backTo pos (starEach es X.env)).any (·.1) = false := by rfl) : PE X (.Call (.Attribute (.Name B p1) "__init__" p2) (e :: es) [] pos) (tVeI X.K ta) := by
  constructor
  intro pins s σ H Q I h
  refine PySem.W.methodCall_KW (ld_glob I hg hm ?_ hdb) hc
  refine PySem.W.method_cls I.kIn r.ga (PySem.W.cls_value I.kIn r.rd vV rfl ?_)
  show wpAny _ _ (callWith pos (Value.builtin "ValueError.__init__") [] (backTo pos (starEach (e :: es) X.env)) []) _ _ _
  refine PyProof.Rows.callWith_method1 (thn (ha.run pos pins _ σ H _ (I.tok _) h) fun us s1 q => ?_) he hpl
  obtain ⟨vs, H1, I1, r1, a, C, ws, rfl, hl, T, ea, q⟩ := q
  cases r1 with
  | @cons _ u0 _ ur ra rw' =>
    obtain rfl : u0 = Value.ref a := ra
    have hz : ur.length = ws.length := (Paired.length rw').symm
    exact oinit_ok T I1 ea (by rw [hz, sizeLine_eq]; omega) fun s2 J => ⟨.non, H1, J, rfl, q⟩
/-- C(e, ..) as a value, C's own __init__ keeping sp -/
def tMkV (C : Addr) (sp : Sp) (ta : TA) : TE := fun σ H Q => ta σ H fun vs H1 => vs.length ≤ 1000 ∧ ∀ a, H1 a = none → sp (.ref a :: vs) (upd H1 a (exo a C none)) (fun v H2 => v = .non ∧ Q (.ref a) H2) E0
theorem pe_mkV {fI : Addr} {k : Nat} {fd : FuncData} {ps : List Str} {sp : Sp} (T : OexC X.K C) (iC : PySem.W.findIn X.K (.ref C) "__init__" = some (some (.ref fI))) (tI : PySem.W.typeIn X.K (.ref fI) = some (.type "function")) (F1 : FnOk X.prog X.w X.K X.mg X.base CX0 k fI fd ps sp)
    (hr : Room (k + 1) X.A) (hb : Binds X.K fd ps []) (hg : Gl X x) (hm : X.mg x = some (.ref C)) (ha : PA X (e :: es) ta) (hdb : (x == ("__debug__" : Str)) = false := by decide)
    (he : starEach (e :: es) X.env = (false, eval e X.env) :: starEach es X.env := by rfl) (hpl : (backTo pos (starEach es X.env)).any (·.1) = false := by rfl) : PE X (.Call (.Name x p) (e :: es) [] pos) (tMkV C sp ta) := by
  constructor
  intro pins s σ H Q I h
  obtain ⟨nm, q, N, bs, bm, sn, sub, ab, col, dd, k0, k1, k2, k3, k5, hC, hbm⟩ := T.cls
  refine wpAny_Call_Name_kw (ld_glob I hg hm ?_ hdb)
  refine PySem.W.callWith_K (h₀ := X.base) I.ok.mod.kin T.kC (thn (ha.run pos pins s σ H _ I h) fun us s1 z => ?_) he hpl
  obtain ⟨vs, H1, I1, r1, hz, q1⟩ := z
  refine ⟨I1.kIn, ?_⟩
  show wpAny _ _ (call (.ref C) us) _ _ _
  obtain ⟨hp, g, dr, tk, os⟩ := s1
  have big : hp.objs.size ≤ hp.objs.size + 1 := Nat.le_succ _
  have hq := q1 _ (I1.hok.fresh big)
  have old : ∀ b o, hp.get? b = some o → ((hp.push (PySem.W.kdv_tup us)).push (PySem.HandSPX.excO C hp.objs.size)).get? b = some o := fun b o z => Heap.get?_push_of_some _ (Heap.get?_push_of_some _ z)
  have new : ((hp.push (PySem.W.kdv_tup us)).push (PySem.HandSPX.excO C hp.objs.size)).get? (hp.objs.size + 1) = some (PySem.HandSPX.excO C hp.objs.size) := by heap_get
  have I2 := I1.laid (t' := tk) (a := hp.objs.size + 1) (o := exo (hp.objs.size + 1) C none) (h' := (hp.push (PySem.W.kdv_tup us)).push (PySem.HandSPX.excO C hp.objs.size)) old big (exo_ok new)
  have lu : us.length = vs.length := (Paired.length r1).symm
  have lp : (Value.ref (hp.objs.size + 1) :: us ++ []).length = ps.length := by
    have e1 := F1.len _ _ _ _ hq
    simp only [List.length_cons, List.append_nil] at e1 ⊢
    omega
  refine wpAny_call (PySem.HandSPX.call_own F.excBase_ValueError (fun Y => PySem.HandSPX.refsVE_contains Y bm hbm) (I1.kIn _ _ hC) (PySem.W.looks_findIn I1.kIn iC) (fun self => PySem.W.bind_fn I1.kIn self tI) (by rw [lu, sizeLine_eq]; omega)
    (codeAny_mono (F1.run _ X.stack _ _ ⟨Value.ref (hp.objs.size + 1) :: us, []⟩ (Value.ref (hp.objs.size + 1) :: us) _ _ E0 (hr.make C us []) (I2.env0.make C us []) (by
      have b := hb { heap := _, gens := g, drawn := dr, toks := tk, os := os } (Value.ref (hp.objs.size + 1) :: us) I2.kIn lp
      rw [List.append_nil] at b
      exact b) (show Vals (V.ref (hp.objs.size + 1) :: vs) (Value.ref (hp.objs.size + 1) :: us) from .cons rfl r1) hq) fun r s' z => ?_))
  cases r with
  | error er => exact pass0 pins σ _ _ er s' I2 z
  | ok fl =>
    cases fl with
    | ret u =>
      obtain ⟨v, H2, os2, bare2, un2, hok2, rv, ev, q2⟩ := z
      subst ev
      exact ⟨rv, .ref _, H2, I2.call' (ch := []) os2 un2 hok2 bare2 (fun b y => absurd y (by simp)), rfl, q2⟩
    | next => exact False.elim z
    | brk => exact False.elim z
    | cont => exact False.elim z
end
/-- an own __init__ that says the base's, then keeps its arguments as the fields fs -/
def spI (C : Addr) (fs : List Str) : Sp := fun vs H Q E => ∃ a xs, vs = .ref a :: xs ∧ xs.length = fs.length ∧ H a = some (exo a C none) ∧ (fs = [] → Q .non H) ∧
  (fs ≠ [] → ∀ dx H2, H dx = none → dx ≠ a → H2 a = some (exo a C (some dx)) → H2 dx = some (exd dx (fs.zip xs).reverse) → (∀ b, b ≠ a → b ≠ dx → H2 b = H b) → Q .non H2)
theorem kinds6 {K : PySem.W.Frag} {C : Addr} (h1 : PySem.W.kitOne K (.ref C) (.type "int") = some false) (h2 : PySem.W.kitOne K (.ref C) (.type "bool") = some false) (h3 : PySem.W.kitOne K (.ref C) (.type "str") = some false)
    (h4 : PySem.W.kitOne K (.ref C) (.type "tuple") = some false) (h5 : PySem.W.kitOne K (.ref C) (.type "list") = some false) (h6 : PySem.W.kitOne K (.ref C) (.type "dict") = some false) : ∀ T ∈ kinds, PySem.W.kitOne K (.ref C) (.type T) = some false := by
  intro T hT
  simp only [kinds, List.mem_cons, List.not_mem_nil, or_false] at hT
  rcases hT with rfl | rfl | rfl | rfl | rfl | rfl
  · exact h1
  · exact h2
  · exact h3
  · exact h4
  · exact h5
  · exact h6
/-- a base class over ValueError -/
structure Base (K : PySem.W.Frag) (mg : Str → Option Value) (x : Str) (D : Addr) : Prop where
  gD : mg x = some (.ref D)
  rd : ∃ mc, ClX.CRead K D mc ∧ PySem.W.findCls K (.ref D) mc "__init__" = some (.val (.builtin "ValueError.__init__"))
theorem len1 {α : Type} : ∀ {xs : List α}, xs.length = 1 → ∃ x, xs = [x]
  | [x], _ => ⟨x, rfl⟩
theorem len2 {α : Type} : ∀ {xs : List α}, xs.length = 2 → ∃ x y, xs = [x, y]
  | [x, y], _ => ⟨x, y, rfl⟩
/-- a class of the text, its fields fs -/
structure Cls (P : Program) (w : World) (K : PySem.W.Frag) (mg : Str → Option Value) (base : Heap) (x : Str) (fs : List Str) (k : Nat) (C : Addr) : Prop where
  ek : ExK K C
  gC : mg x = some (.ref C)
  sm : fs.length ≤ 9
  ini : ∃ (fI : Addr) (fd : FuncData) (ps : List Str), PySem.W.findIn K (.ref C) "__init__" = some (some (.ref fI)) ∧ PySem.W.typeIn K (.ref fI) = some (.type "function") ∧ FnOk P w K mg base CX0 k fI fd ps (spI C fs) ∧ Binds K fd ps []
def mMk (C : Addr) (fs : List Str) (m : M (List PV)) : M PV := m.bind fun xs _ st => if xs.length = fs.length then some (.ok (.exc C (fs.zip xs).reverse) st) else none
section
variable {K : PySem.W.Frag} {F : Hp} {ρ : List Addr}
theorem repF_snoc : ∀ (ps : List (Str × PV)) (ks : List (Str × V)) (f : Str) (x : PV) (v : V), RepF K F ρ ps ks → Rep K F ρ x v → RepF K F ρ (ps ++ [(f, x)]) (ks ++ [(f, v)])
  | [], ks, f, x, v, h, r => by
    simp only [RepF] at h
    subst h
    simp only [List.nil_append, RepF]
    exact ⟨v, [], rfl, r, rfl⟩
  | (g, y) :: ps, ks, f, x, v, h, r => by
    simp only [RepF] at h
    obtain ⟨u, t, rfl, h1, h2⟩ := h
    simp only [List.cons_append, RepF]
    exact ⟨u, _, rfl, h1, repF_snoc ps t f x v h2 r⟩
theorem repF_zip : ∀ (fs : List Str) (xs : List PV) (vs : List V), xs.length = fs.length → RepL K F ρ xs vs → RepF K F ρ (fs.zip xs).reverse (fs.zip vs).reverse
  | [], xs, vs, e, h => by simp [RepF]
  | f :: fs, [], vs, e, h => by simp at e
  | f :: fs, x :: xs, vs, e, h => by
    simp only [RepL] at h
    obtain ⟨v, r, rfl, h1, h2⟩ := h
    simp only [List.zip_cons_cons, List.reverse_cons]
    exact repF_snoc _ _ _ _ _ (repF_zip fs xs r (by simpa using e) h2) h1
end
section
variable {X : Cx} {E : EX} {x : Str} {C : Addr} {fs : List Str} {k j : Nat} {e : Expr} {es : List Expr} {p pos : Pos} {m : M (List PV)}
theorem m_mk (D : Cls X.prog X.w X.K X.mg X.base x fs j C) (hr : Room k X.A) (hg : Gl X x) (ha : MA X E (e :: es) m) (hj : j + 1 ≤ k := by decide) (hdb : (x == ("__debug__" : Str)) = false := by decide)
    (he : starEach (e :: es) X.env = (false, eval e X.env) :: starEach es X.env := by rfl) (hpl : (backTo pos (starEach es X.env)).any (·.1) = false := by rfl) : ME X E (.Call (.Name x p) (e :: es) [] pos) (mMk C fs m) := by
  obtain ⟨fI, fd, ps, iC, tI, F1, hb⟩ := D.ini
  refine peW (pe_mkV D.ek.ox iC tI F1 (hr.mono hj) hb hg D.gC ha hdb he hpl) fun σ H Q q => ?_
  obtain ⟨W, env, st, sl, ss, q⟩ := q
  refine bindL_at sl ss q fun xs us st1 W1 H1 l1 sl1 ss1 rx q1 => ?_
  have hl : xs.length = fs.length := by
    by_cases hl : xs.length = fs.length
    · exact hl
    · rw [if_neg hl] at q1; exact q1.elim
  rw [if_pos hl] at q1
  have lu : us.length = fs.length := rx.len.trans hl
  refine ⟨by have := D.sm; omega, fun a hn => ⟨a, us, rfl, lu, upd_same, fun h0 => ⟨rfl, ?_⟩, fun h0 dx H2 hd hne ea ed hk => ⟨rfl, ?_⟩⟩⟩
  · obtain ⟨l2, ss2⟩ := ss1.new (o := exo a C none) hn
    refine q1 _ _ W1 l2 ss2 ?_
    show Rep _ _ _ _ _
    simp only [Rep]
    subst h0
    exact ⟨D.ek, a, rfl, .inl ⟨by simp, Fz_at ss1 hn⟩⟩
  · have hdn : H1 dx = none := by
      rw [upd_ne hne] at hd; exact hd
    obtain ⟨l2, ss2⟩ := ss1.new (o := exo a C (some dx)) hn
    obtain ⟨l3, ss3⟩ := ss2.new (p := dx) (o := exd dx (fs.zip us).reverse) (by rw [upd_ne hne]; exact hdn)
    have eH : H2 = upd (upd H1 a (exo a C (some dx))) dx (exd dx (fs.zip us).reverse) := by
      funext b
      by_cases h1 : b = dx
      · rw [h1, upd_same, ed]
      · rw [upd_ne h1]
        by_cases h2 : b = a
        · rw [h2, upd_same, ea]
        · rw [upd_ne h2, hk b h2 h1, upd_ne h2]
    rw [eH]
    refine q1 _ _ W1 (l2.trans l3) ss3 ?_
    show Rep _ _ _ _ _
    simp only [Rep]
    refine ⟨D.ek, a, rfl, .inr ⟨dx, _, l3.fz _ _ (Fz_at ss1 hn), Fz_at ss2 (by rw [upd_ne hne]; exact hdn), ?_⟩⟩
    exact repF_zip fs xs us hl (RepL.mono (l2.trans l3).fz (l2.trans l3).pre _ _ rx)
end
/-! ### the walk of such an __init__ -/
section
variable {K : PySem.W.Frag} {C a : Addr} {f g : Str} {x y : V} {H : Hp} {Q : VK}
theorem init_t1 (T : OexC K C) (n1 : PySem.W.findIn K (.ref C) f = some none) (h : spI C [f] [.ref a, x] H Q E0) :
    tSeq (tDrop (tVeI K (tCons (tVar 0) (tCons (tVar 1) tNil)))) (tOst K f (tVar 0) (tVar 1)) { nx := fun _ H' => Q .non H', rt := Q } [some (.ref a), some x] H := by
  obtain ⟨a', xs, e, hl, ha, _, q⟩ := h
  cases e
  refine ⟨.ref a, rfl, x, rfl, a, C, [x], rfl, (by simp), T, ha, x, rfl, .ref a, rfl, a, C, rfl, T, n1, .inl ⟨ha, fun dx hd hne => ?_⟩⟩
  exact q (by simp) dx _ hd hne upd_same (by rw [upd_ne hne, upd_same]; rfl) fun b h1 h2 => by rw [upd_ne h1, upd_ne h2]
theorem init_t2 (T : OexC K C) (n1 : PySem.W.findIn K (.ref C) f = some none) (n2 : PySem.W.findIn K (.ref C) g = some none) (h : spI C [f, g] [.ref a, x, y] H Q E0) :
    tSeq (tDrop (tVeI K (tCons (tVar 0) (tCons (tVar 1) (tCons (tVar 2) tNil))))) (tSeq (tOst K f (tVar 0) (tVar 1)) (tOst K g (tVar 0) (tVar 2))) { nx := fun _ H' => Q .non H', rt := Q } [some (.ref a), some x, some y] H := by
  obtain ⟨a', xs, e, hl, ha, _, q⟩ := h
  cases e
  refine ⟨.ref a, rfl, x, rfl, y, rfl, a, C, [x, y], rfl, (by simp), T, ha, x, rfl, .ref a, rfl, a, C, rfl, T, n1, .inl ⟨ha, fun dx hd hne => ?_⟩⟩
  refine ⟨y, rfl, .ref a, rfl, a, C, rfl, T, n2, .inr ⟨dx, [(f, x)], upd_same, by rw [upd_ne hne, upd_same], by simp, ?_⟩⟩
  exact q (by simp) dx _ hd hne (by rw [upd_ne (Ne.symm hne), upd_same]) upd_same fun b h1 h2 => by rw [upd_ne h2, upd_ne h1, upd_ne h2]
theorem init_t0 (T : OexC K C) (h : spI C [] [.ref a] H Q E0) : tDrop (tVeI K (tCons (tVar 0) tNil)) { nx := fun _ H' => Q .non H', rt := Q } [some (.ref a)] H := by
  obtain ⟨a', xs, e, hl, ha, q, _⟩ := h
  cases e
  exact ⟨.ref a, rfl, a, C, [], rfl, by decide, T, ha, q rfl⟩
end
end Mi

/-! Mi10: dicts: what they hold, stores to them, new changing lists and dicts. -/
namespace Mi
open PySem PySem.Spec PyProof.Rows L2
/-! ### tables of mirrored values -/
def valP (ps : List (PV × PV)) (k : Key) : Option PV := (ps.find? fun p => decide (keyOf p.1 = some k)).map (·.2)
def hasP (ps : List (PV × PV)) (k : Key) : Bool := ps.any fun p => decide (keyOf p.1 = some k)
def setP (ps : List (PV × PV)) (k : Key) (y : PV) : List (PV × PV) := ps.map fun p => if keyOf p.1 = some k then (p.1, y) else p
def putP (ps : List (PV × PV)) (k : Key) (kx y : PV) : List (PV × PV) := if hasP ps k then setP ps k y else ps ++ [(kx, y)]
def dropP (ps : List (PV × PV)) (k : Key) : List (PV × PV) := ps.filter fun p => decide (keyOf p.1 ≠ some k)
def dictOf (st : Sto) : PV → Option (List (PV × PV))
  | .dic ps => some ps
  | .ref r => match st[r]? with
    | some (.dic ps) => some ps
    | some (.loc ps) => some ps
    | _ => none
  | _ => none
section
variable {K : PySem.W.Frag} {F : Hp} {ρ : List Addr}
theorem RepD.val (k : Key) : ∀ {ps : List (PV × PV)} {ks : List (Key × V)}, RepD K F ρ ps ks → (valP ps k = none ∧ valV ks k = none ∧ hasP ps k = false ∧ (ks.any fun kv => decide (kv.1 = k)) = false) ∨
    ∃ x v, valP ps k = some x ∧ valV ks k = some v ∧ Rep K F ρ x v ∧ hasP ps k = true ∧ (ks.any fun kv => decide (kv.1 = k)) = true
  | [], ks, r => by
    simp only [RepD] at r
    subst r
    exact .inl ⟨rfl, rfl, rfl, rfl⟩
  | (kx, x) :: ps, ks, r => by
    simp only [RepD] at r
    obtain ⟨kk, v, t, rfl, hk, r1, r2⟩ := r
    by_cases e : kk = k
    · subst e
      right
      exact ⟨x, v, by simp [valP, hk], by simp [valV], r1, by simp [hasP, hk], by simp⟩
    · have e1 : ¬ keyOf kx = some k := by rw [hk]; simpa using e
      rcases RepD.val k r2 with ⟨h1, h2, h3, h4⟩ | ⟨x', v', h1, h2, h3, h4, h5⟩
      · left
        refine ⟨?_, ?_, ?_, ?_⟩
        · simpa [valP, List.find?_cons, e1] using h1
        · simpa [valV, List.find?_cons, e] using h2
        · simpa [hasP, e1] using h3
        · simpa [e] using h4
      · right
        refine ⟨x', v', ?_, ?_, h3, ?_, ?_⟩
        · simpa [valP, List.find?_cons, e1] using h1
        · simpa [valV, List.find?_cons, e] using h2
        · simp only [hasP, List.any_cons, h4, Bool.or_true] at h4 ⊢
          simp [hasP] at h4
          simp [h4]
        · simp only [List.any_cons, h5, Bool.or_true]
theorem RepD.set {k : Key} {y : PV} {u : V} (ry : Rep K F ρ y u) : ∀ {ps : List (PV × PV)} {ks : List (Key × V)}, RepD K F ρ ps ks → RepD K F ρ (setP ps k y) (ks.map fun kv => if kv.1 = k then (kv.1, u) else kv)
  | [], ks, r => by
    simp only [RepD] at r
    subst r
    simp [setP, RepD]
  | (kx, x) :: ps, ks, r => by
    simp only [RepD] at r
    obtain ⟨kk, v, t, rfl, hk, r1, r2⟩ := r
    have ih := RepD.set (k := k) ry r2
    unfold setP at ih ⊢
    simp only [List.map_cons]
    by_cases e : kk = k
    · subst e
      simp only [hk, if_true, RepD]
      exact ⟨kk, u, _, rfl, by first | exact hk | rfl, ry, ih⟩
    · have e1 : ¬ keyOf kx = some k := by rw [hk]; simpa using e
      simp only [e, e1, if_false, RepD]
      exact ⟨kk, v, _, rfl, hk, r1, ih⟩
theorem RepD.snoc {kx y : PV} {k : Key} {u : V} (hk : keyOf kx = some k) (ry : Rep K F ρ y u) : ∀ {ps : List (PV × PV)} {ks : List (Key × V)}, RepD K F ρ ps ks → RepD K F ρ (ps ++ [(kx, y)]) (ks ++ [(k, u)])
  | [], ks, r => by
    simp only [RepD] at r
    subst r
    simp only [List.nil_append, RepD]
    exact ⟨k, u, [], rfl, hk, ry, rfl⟩
  | (kz, x) :: ps, ks, r => by
    simp only [RepD] at r
    obtain ⟨kk, v, t, rfl, hk', r1, r2⟩ := r
    simp only [List.cons_append, RepD]
    exact ⟨kk, v, _, rfl, hk', r1, RepD.snoc hk ry r2⟩
theorem RepD.put {kx y : PV} {k : Key} {u : V} {ps : List (PV × PV)} {ks : List (Key × V)} (r : RepD K F ρ ps ks) (hk : keyOf kx = some k) (ry : Rep K F ρ y u) : RepD K F ρ (putP ps k kx y) (putK ks k u) := by
  unfold putP putK
  rcases RepD.val k r with ⟨_, _, h3, h4⟩ | ⟨_, _, _, _, _, h3, h4⟩
  · rw [h3, h4]
    exact RepD.snoc hk ry r
  · rw [h3, h4]
    exact RepD.set ry r
theorem RepD.drop {k : Key} : ∀ {ps : List (PV × PV)} {ks : List (Key × V)}, RepD K F ρ ps ks → RepD K F ρ (dropP ps k) (dropK ks k)
  | [], ks, r => by
    simp only [RepD] at r
    subst r
    simp [dropP, dropK, RepD]
  | (kx, x) :: ps, ks, r => by
    simp only [RepD] at r
    obtain ⟨kk, v, t, rfl, hk, r1, r2⟩ := r
    have ih := RepD.drop (k := k) r2
    unfold dropP dropK at ih ⊢
    by_cases e : kk = k
    · subst e
      simpa [List.filter_cons, hk] using ih
    · have e1 : ¬ keyOf kx = some k := by rw [hk]; simpa using e
      simp only [List.filter_cons, e, e1, ne_eq, not_false_eq_true, decide_true, if_true, RepD]
      exact ⟨kk, v, _, rfl, hk, r1, ih⟩
theorem RepD.len : ∀ {ps : List (PV × PV)} {ks : List (Key × V)}, RepD K F ρ ps ks → ks.length = ps.length
  | [], ks, r => by
    simp only [RepD] at r
    subst r; rfl
  | (kx, x) :: ps, ks, r => by
    simp only [RepD] at r
    obtain ⟨kk, v, t, rfl, hk, r1, r2⟩ := r
    simp only [List.length_cons, RepD.len r2]
theorem putP_len (ps : List (PV × PV)) (k : Key) (kx y : PV) : (putP ps k kx y).length ≤ ps.length + 1 := by
  unfold putP setP
  split
  · rw [List.length_map]; omega
  · simp
end
section
variable {K : PySem.W.Frag} {W : Wd} {st : Sto} {H : Hp} {x k : PV} {u v : V}
theorem key_inv {kk : Key} (r : Rp K W H k v) (h : keyOf k = some kk) : v = kV kk := by
  cases k with
  | int i => simp only [keyOf, Option.some.injEq] at h; subst h; exact int_inv r
  | str z => simp only [keyOf, Option.some.injEq] at h; subst h; exact (str_inv r).1
  | _ => simp [keyOf] at h
theorem dict_inv {ps : List (PV × PV)} (ss : SimS K W st H) (r : Rp K W H x u) (h : dictOf st x = some ps) : ∃ a ks, u = .ref a ∧ Rd H a (.dK ks) ∧ RepD K (Fz W H) W.ρ ps ks ∧ ps.length ≤ sizeLine := by
  cases x with
  | dic qs =>
    simp only [dictOf, Option.some.injEq] at h
    subst h
    obtain ⟨a, ks, rfl, s1, r1, hz⟩ : ∃ a ks, u = .ref a ∧ Rd (Fz W H) a (.dK ks) ∧ RepD K (Fz W H) W.ρ qs ks ∧ qs.length ≤ sizeLine := by simpa only [Rp, Rep] using r
    exact ⟨a, ks, rfl, Rd.mono (fun _ _ h => Fz_le h) s1, r1, hz⟩
  | ref i =>
    obtain ⟨a, rfl, ha⟩ : ∃ a, u = .ref a ∧ W.ρ[i]? = some a := by simpa only [Rp, Rep] using r
    simp only [dictOf] at h
    split at h
    · rename_i qs e
      cases h
      obtain ⟨ks, h1, h2, hz⟩ := ss.ob i _ a e ha
      exact ⟨a, ks, rfl, .inl h1, h2, hz⟩
    · rename_i qs e
      cases h
      obtain ⟨ks, ⟨od, h1⟩, h2, hz⟩ := ss.ob i _ a e ha
      exact ⟨a, ks, rfl, .inr ⟨od, h1⟩, h2, hz⟩
    · cases h
  | _ => simp [dictOf] at h
end
/-! ### d[k] -/
section
variable {X : Cx}
def oIxD : O2 := fun x k st => match dictOf st x, keyOf k with
  | some ps, some kk => valP ps kk
  | _, _ => oIx x k st
theorem ix_dict {a : Addr} {y w : V} {u : Value} {Q : VK} {value slice : Expr} {pins : List (Addr × Obj)} {s : Shared} {σ : L2.St} {H : Hp} (hu : X.A.units + 66 < cLine) (I : Inv X pins σ H s) (ry : RelV y u) (g : DGet H a y (some w)) (q : Q w H)
    (hs : subscripted slice false (.ref a) u = operate [.ref a, u] (getItem (.ref a) u)) : wpAny (model X.prog X.w) X.A (subscriptTail value slice (.ref a) u) (EP X pins σ Q) X.xe s := by
  have hT := dict_typeIs I g
  have fin : wpAny (model X.prog X.w) X.A (getItem (.ref a) u) (fun r s' => EP X pins σ Q r s') X.xe s := d_getItem (by omega) I g ry fun w' s' J rw' => ⟨w, H, J, rw', q⟩
  have fin2 : wpAny (model X.prog X.w) X.A (subscripted slice false (.ref a) u) (fun r s₃ => wpAny (model X.prog X.w) X.A (letTemporaryGo value (.ref a) r >>= fun _ => pure r) (EP X pins σ Q) X.xe s₃) X.xe s := by
    rw [hs]
    exact wpAny_operating (wpAny_mono fin (fun r s3 h3 => wpAny_bind (wpAny_letTemporaryGo (wpAny_pure h3))) fun _ _ x => x)
  unfold subscriptTail
  refine wpAny_bind ?_
  rw [getitemInPython_of_ne hT.not_modules]
  refine wpAny_bind (wpAny_specialOf hT PySem.F.slot_dict_getitem.lookup ?_)
  first | exact wpAny_pure (wpAny_bind fin2) | exact wpAny_bind (wpAny_pure (wpAny_bind fin2)) | exact wpAny_bind fin2
theorem r_ixD (hu : X.A.units + 66 < cLine) : IxR X (rM2 X.K oIxD) := by
  intro value slice pins s σ H xv yv v u Q I rx ry h hs
  obtain ⟨W, st, x, y, z, ss, hx, hy, hz, q⟩ := h
  unfold oIxD at hz
  split at hz
  · rename_i ps kk e1 e2
    obtain ⟨a, ks, rfl, hd, hr, _⟩ := dict_inv ss hx e1
    cases rx
    rcases RepD.val kk hr with ⟨h1, _⟩ | ⟨x', w, h1, h2, h3, _⟩
    · rw [h1] at hz; cases hz
    · rw [h1] at hz
      cases hz
      exact ix_dict hu I ry (.inl ⟨ks, kk, hd, key_inv hy e2, h2.symm⟩) (q _ H (Le.refl _ _) ss h3) hs
  · exact r_ix value slice pins s σ H xv yv v u Q I rx ry ⟨W, st, x, y, z, ss, hx, hy, hz, q⟩ hs
/-! ### k in d, len(d) -/
def oInD : O2 := fun x d st => match dictOf st d, keyOf x with
  | some ps, some kk => some (.bl (hasP ps kk))
  | _, _ => oIn x d st
def oNotInD : O2 := fun x d st => match dictOf st d, keyOf x with
  | some ps, some kk => some (.bl (!hasP ps kk))
  | _, _ => oNotIn x d st
theorem in_of {K : PySem.W.Frag} {W : Wd} {st : Sto} {H : Hp} {x d : PV} {xv yv : V} {ps : List (PV × PV)} {kk : Key} (ss : SimS K W st H) (hx : Rp K W H x xv) (hd : Rp K W H d yv) (e1 : dictOf st d = some ps) (e2 : keyOf x = some kk) :
    ∃ a o, yv = .ref a ∧ DGet H a xv o ∧ o.isSome = hasP ps kk := by
  obtain ⟨a, ks, rfl, h1, hr, _⟩ := dict_inv ss hd e1
  refine ⟨a, valV ks kk, rfl, .inl ⟨ks, kk, h1, key_inv hx e2, rfl⟩, ?_⟩
  rcases RepD.val kk hr with ⟨_, h2, h3, _⟩ | ⟨_, w, _, h2, _, h3, _⟩
  · rw [h2, h3]; rfl
  · rw [h2, h3]; rfl
theorem r_inD (hu : X.A.units + 66 < cLine) : OpR X (compareOp .In) (rM2 X.K oInD) := by
  intro pins s σ H xv yv v u Q I rx ry h
  obtain ⟨W, st, x, y, z, ss, hx, hy, hz, q⟩ := h
  unfold oInD at hz
  split at hz
  · rename_i ps kk e1 e2
    cases hz
    obtain ⟨a, o, rfl, g, eo⟩ := in_of ss hx hy e1 e2
    cases ry
    refine d_in (by omega) I g rx fun s' J => ⟨.bl o.isSome, H, J, rfl, ?_⟩
    rw [eo]
    exact q _ H (Le.refl _ _) ss rp_bl
  · exact r_in hu pins s σ H xv yv v u Q I rx ry ⟨W, st, x, y, z, ss, hx, hy, hz, q⟩
theorem r_notInD (hu : X.A.units + 66 < cLine) : OpR X (compareOp .NotIn) (rM2 X.K oNotInD) := by
  intro pins s σ H xv yv v u Q I rx ry h
  obtain ⟨W, st, x, y, z, ss, hx, hy, hz, q⟩ := h
  unfold oNotInD at hz
  split at hz
  · rename_i ps kk e1 e2
    cases hz
    obtain ⟨a, o, rfl, g, eo⟩ := in_of ss hx hy e1 e2
    cases ry
    refine d_notIn (by omega) I g rx fun s' J => ⟨.bl (!o.isSome), H, J, rfl, ?_⟩
    rw [eo]
    exact q _ H (Le.refl _ _) ss rp_bl
  · exact r_notIn hu pins s σ H xv yv v u Q I rx ry ⟨W, st, x, y, z, ss, hx, hy, hz, q⟩
def oLenD : OL := fun xs st => match xs with
  | [x] => match dictOf st x with
    | some ps => some (.int ps.length)
    | none => oLen [x] st
  | xs => oLen xs st
theorem c_lenD : CallR X (.builtin "len") (rML X.K oLenD) := by
  intro pins s σ H vs us Q I r h
  obtain ⟨W, st, xs, z, ss, rx, hz, q⟩ := h
  unfold oLenD at hz
  split at hz
  · split at hz
    · rename_i x ps e
      cases hz
      obtain ⟨u, rfl, r1⟩ := rx.one
      obtain ⟨a, ks, rfl, hd, hr, _⟩ := dict_inv ss r1 e
      cases r with
      | cons ra rr =>
        cases rr
        cases ra
        refine d_len I hd fun t s' J => ⟨.int ks.length, H, J, ⟨t, rfl⟩, ?_⟩
        rw [hr.len]
        exact q _ H (Le.refl _ _) ss rp_int
    · exact c_len pins s σ H vs us Q I r ⟨W, st, _, z, ss, rx, hz, q⟩
  · exact c_len pins s σ H vs us Q I r ⟨W, st, _, z, ss, rx, hz, q⟩
end
/-! ### d[k] = v -/
section
variable {X : Cx}
theorem SimS.putD {K : PySem.W.Frag} {W : Wd} {st : Sto} {H : Hp} {r : Nat} {a : Addr} (ss : SimS K W st H) (ha : W.ρ[r]? = some a) {ps : List (PV × PV)} {ks : List (Key × V)} (rx : RepD K (Fz W H) W.ρ ps ks) (hz : ps.length ≤ sizeLine) {k0 : List (Key × V)} (h0 : H a = some (.dK k0)) :
    Le W H W (upd H a (.dK ks)) ∧ SimS K W (st.set r (.dic ps)) (upd H a (.dK ks)) :=
  ss.put ha (fun H' hF e => ⟨ks, e, RepD.mono hF (List.prefix_refl _) _ _ rx, hz⟩) fun od u e => by rw [h0] at e; cases e
def oPutD (x k y : PV) (st : Sto) : Option Sto := match x, keyOf k with
  | .ref r, some kk => match st[r]? with
    | some (.dic ps) => if ps.length < sizeLine then some (st.set r (.dic (putP ps kk k y))) else none
    | _ => oPut x k y st
  | _, _ => oPut x k y st
def rPutD (K : PySem.W.Frag) : TSet := fun o i v H Q => ∃ W st x k y st', SimS K W st H ∧ Rp K W H x o ∧ Rp K W H k i ∧ Rp K W H y v ∧ oPutD x k y st = some st' ∧ ∀ H', Le W H W H' → SimS K W st' H' → Q H'
theorem s_putD (hu : X.A.units + 66 < cLine) : PSet X (rPutD X.K) := by
  intro pins s σ H ov iv vv ou iu vu Q I ro ri rv h
  obtain ⟨W, st, x, k, y, st', ss, hx, hk, hy, ho, q⟩ := h
  unfold oPutD at ho
  split at ho
  · rename_i r kk ek
    split at ho
    · rename_i ps es
      split at ho
      · rename_i hz
        cases ho
        obtain ⟨a, rfl, ha⟩ : ∃ a, ov = .ref a ∧ W.ρ[r]? = some a := by simpa only [Rp, Rep] using hx
        obtain ⟨ks, h1, h2, h3⟩ := ss.ob r _ a es ha
        cases ro
        obtain ⟨l, s'⟩ := ss.putD ha (h2.put ek hy) (by have := putP_len ps kk k y; omega) h1
        have ek' := key_inv hk ek
        subst ek'
        exact d_setItem (by omega) I (DPut.k h1 (by rw [h2.len]; exact hz)) ri rv fun s2 J => ⟨_, J, q _ l s'⟩
      · cases ho
    · exact s_put pins s σ H ov iv vv ou iu vu Q I ro ri rv ⟨W, st, _, k, y, st', ss, hx, hk, hy, ho, q⟩
  · exact s_put pins s σ H ov iv vv ou iu vu Q I ro ri rv ⟨W, st, _, k, y, st', ss, hx, hk, hy, ho, q⟩
end
end Mi

/-! Mi11: sorted texts; new lists and dicts in expressions. -/
namespace Mi
open PySem PySem.Spec PyProof.Rows L2
/-! ### texts in order -/
def leS (a b : Str) : Bool := !ltCps b.cps.toList a.cps.toList
def sortS (xs : List Str) : List Str := xs.mergeSort leS
theorem leS_iff (a b : Str) : leS a b = true ↔ a.cps.toList ≤ b.cps.toList := by
  unfold leS
  rw [ltCps_eq]
  simp [List.not_lt]
theorem leS_total (a b : Str) : (leS a b || leS b a) = true := by
  rw [Bool.or_eq_true, leS_iff, leS_iff]
  exact List.le_total _ _
theorem leS_trans (a b c : Str) (h1 : leS a b = true) (h2 : leS b c = true) : leS a c = true := by
  rw [leS_iff] at *
  exact List.le_trans h1 h2
theorem leS_anti {a b : Str} (h1 : leS a b = true) (h2 : leS b a = true) : a = b := by
  rw [leS_iff] at *
  have h := List.le_antisymm h1 h2
  cases a with
  | mk x => cases b with
    | mk y =>
      have h' : x = y := Array.toList_inj.mp h
      rw [h']
theorem sortS_perm (xs : List Str) : (sortS xs).Perm xs := List.mergeSort_perm _ _
theorem sortS_pw (xs : List Str) : (sortS xs).Pairwise fun a b => leS a b = true := List.pairwise_mergeSort leS_trans leS_total xs
theorem rising_pw : ∀ (p : Str) (l : List Str), risingS p l = true → (p :: l).Pairwise fun a b => leS a b = true
  | p, [], _ => by simp
  | p, x :: r, h => by
    simp only [risingS, Bool.and_eq_true] at h
    have ih := rising_pw x r h.2
    have hx : leS p x = true := h.1
    refine List.pairwise_cons.mpr ⟨fun y hy => ?_, ih⟩
    rcases List.mem_cons.mp hy with rfl | hy
    · exact hx
    · exact leS_trans _ _ _ hx ((List.pairwise_cons.mp ih).1 y hy)
theorem sorted_pw {l : List Str} (h : sortedS l = true) : l.Pairwise fun a b => leS a b = true := by
  cases l with
  | nil => simp
  | cons x r => exact rising_pw x r h
theorem sorted_eq {ys xs : List Str} (hp : ys.Perm xs) (hs : sortedS ys = true) : ys = sortS xs :=
  List.Perm.eq_of_pairwise (fun a b _ _ h1 h2 => leS_anti h1 h2) (sorted_pw hs) (sortS_pw xs) (hp.trans (sortS_perm xs).symm)
def strsOf : List PV → Option (List Str)
  | [] => some []
  | .str z :: r => (strsOf r).map (z :: ·)
  | _ :: _ => none
theorem strsOf_eq : ∀ {xs : List PV} {zs : List Str}, strsOf xs = some zs → xs = zs.map .str
  | [], zs, h => by
    simp only [strsOf, Option.some.injEq] at h
    subst h; rfl
  | x :: r, zs, h => by
    cases x with
    | str z =>
      simp only [strsOf, Option.map_eq_some_iff] at h
      obtain ⟨t, h1, rfl⟩ := h
      simp only [List.map_cons, ← strsOf_eq h1]
    | _ => simp [strsOf] at h
theorem strs_vals {K : PySem.W.Frag} {F : Hp} {ρ : List Addr} : ∀ {zs : List Str} {vs : List V}, RepL K F ρ (zs.map .str) vs → vs = zs.map V.str ∧ ∀ z ∈ zs, z.length ≤ sizeLine
  | [], vs, r => by
    simp only [List.map_nil, RepL] at r
    subst r
    exact ⟨rfl, fun _ h => by simp at h⟩
  | z :: zs, vs, r => by
    simp only [List.map_cons, RepL, Rep] at r
    obtain ⟨v, t, rfl, ⟨rfl, hz⟩, r2⟩ := r
    obtain ⟨rfl, h2⟩ := strs_vals r2
    refine ⟨rfl, fun y hy => ?_⟩
    rcases List.mem_cons.mp hy with rfl | hy
    · exact hz
    · exact h2 y hy
theorem vals_strs {K : PySem.W.Frag} {F : Hp} {ρ : List Addr} : ∀ {zs : List Str}, (∀ z ∈ zs, z.length ≤ sizeLine) → RepL K F ρ (zs.map .str) (zs.map V.str)
  | [], _ => by simp [RepL]
  | z :: zs, h => by
    simp only [List.map_cons, RepL, Rep]
    exact ⟨_, _, rfl, ⟨rfl, h z List.mem_cons_self⟩, vals_strs fun y hy => h y (List.mem_cons_of_mem _ hy)⟩
section
variable {X : Cx}
def okS (zs : List Str) : Bool := decide (zs.length < 64) && zs.all fun z => decide (z.length ≤ sizeLine)
/-- sorted(x): texts, or a dict's keys that are texts, fewer than 64 -/
def oSorted : OF := fun xs st => match xs with
  | [x] => match dictOf st x with
    | some ps => match strsOf (ps.map (·.1)) with
      | some zs => if okS zs then some ((sortS zs).map .str) else none
      | none => none
    | none => match asS st x with
      | some ys => match strsOf ys with
        | some zs => if okS zs then some ((sortS zs).map .str) else none
        | none => none
      | none => none
  | _ => none
theorem keys_strs {K : PySem.W.Frag} {F : Hp} {ρ : List Addr} : ∀ {ps : List (PV × PV)} {ks : List (Key × V)} {zs : List Str}, RepD K F ρ ps ks → strsOf (ps.map (·.1)) = some zs → ks.map (·.1) = zs.map Sum.inr
  | [], ks, zs, r, h => by
    simp only [RepD] at r
    simp only [List.map_nil, strsOf, Option.some.injEq] at h
    subst r h; rfl
  | (k, x) :: ps, ks, zs, r, h => by
    simp only [RepD] at r
    obtain ⟨kk, v, t, rfl, hk, r1, r2⟩ := r
    cases k with
    | str z =>
      simp only [List.map_cons, strsOf, Option.map_eq_some_iff] at h
      obtain ⟨t2, h1, rfl⟩ := h
      simp only [keyOf, Option.some.injEq] at hk
      subst hk
      simp only [List.map_cons, keys_strs r2 h1]
    | _ => simp [strsOf] at h
theorem c_sorted (hc : X.calm = true) : CallR X (.builtin "sorted") (rMF X.K oSorted) := by
  intro pins s σ H vs us Q I r h
  obtain ⟨W, st, xs, ys0, ss, rx, ho, q⟩ := h
  unfold oSorted at ho
  split at ho
  · rename_i x
    obtain ⟨u, rfl, r1⟩ := rx.one
    have fin : ∀ zs : List Str, (sortS zs).map PV.str = ys0 → okS zs = true → ∀ p, H p = none → Q (.ref p) (upd H p (.lst ((sortS zs).map V.str))) := fun zs e hk p hp => by
      subst e
      simp only [okS, Bool.and_eq_true, decide_eq_true_eq, List.all_eq_true] at hk
      exact q p _ H (Le.refl _ _) ss (vals_strs fun z hz => hk.2 z ((sortS_perm zs).mem_iff.mp hz)) (by rw [List.length_map, (sortS_perm zs).length_eq]; exact small64 hk.1) hp
    have lt : ∀ zs : List Str, okS zs = true → zs.length < 64 := fun zs hk => by
      simp only [okS, Bool.and_eq_true, decide_eq_true_eq] at hk
      exact hk.1
    split at ho
    · rename_i ps ed
      obtain ⟨a, ks, rfl, hd, hr, _⟩ := dict_inv ss r1 ed
      split at ho
      · rename_i zs ez
        split at ho
        · rename_i h64
          cases ho
          refine call_sortedD hc pins s σ H _ us Q I r ⟨a, ks, zs, rfl, hd, keys_strs hr ez, lt zs h64, fun ys p hp hs hn => ?_⟩
          rw [sorted_eq hp hs]
          exact fin zs rfl h64 p hn
        · cases ho
      · cases ho
    · split at ho
      · rename_i ys1 ea
        obtain ⟨a, ws, rfl, s1, r2, _⟩ := asS_inv ss r1 ea
        split at ho
        · rename_i zs ez
          have e := strsOf_eq ez
          subst e
          obtain ⟨rfl, _⟩ := strs_vals r2
          split at ho
          · rename_i h64
            cases ho
            refine cr_sortedS pins s σ H _ us Q I r ⟨a, zs, rfl, s1, lt zs h64, fun ys p hp hs hn => ?_⟩
            rw [sorted_eq hp hs]
            exact fin zs rfl h64 p hn
          · cases ho
        · cases ho
      · cases ho
  · cases ho
end
/-! ### new lists that change, in expressions -/
def mNewA (m : M (List PV)) : M PV := m.bind fun xs => fun _ st => some (.ok (.ref st.length) (st ++ [.lst xs]))
section
variable {X : Cx} {E : EX} {e : Expr}
theorem m_newA {ma : M (List PV)} (h : MF X E e ma) : ME X E e (mNewA ma) := by
  refine peW h fun σ H Q q => ?_
  obtain ⟨W, env, st, sl, ss, q⟩ := q
  refine ⟨W, env, st, sl, ss, ?_⟩
  unfold mNewA M.bind at q
  cases e : ma env st with
  | none => rw [e] at q; exact q
  | some r =>
    rw [e] at q
    cases r with
    | exc x st1 => exact q
    | ok xs st1 =>
      intro p us H' W' l s r hz hp
      obtain ⟨l2, ss2⟩ := s.push_lst hp r hz
      exact q _ _ (W'.push p) (l.trans l2) ss2 (rep_push s)
end
end Mi

/-! Mi12: new dicts: {}, dict(..); by value, or as changing objects. -/
namespace Mi
open PySem PySem.Spec PyProof.Rows L2
abbrev PD := List (PV × PV)
/-- a new dict at p, that nothing else knows of -/
def tMDr (K : PySem.W.Frag) (E : XK) (W : Wd) (H : Hp) (Q : VK) : Option (Res PD) → Prop
  | none => False
  | some (.ok ps st) => ∀ p ks H' W', Le W H W' H' → SimS K W' st H' → RepD K (Fz W' H') W'.ρ ps ks → ps.length ≤ sizeLine → H' p = none → Q (.ref p) (upd H' p (.dK ks))
  | some (.exc x st) => ∀ cls d H' W', Le W H W' H' → SimS K W' st H' → RepX K W' H' x cls d → E cls d H'
theorem tMDr.le {K : PySem.W.Frag} {E : XK} {W W1 : Wd} {H H1 : Hp} {Q : VK} {r : Option (Res PD)} (l : Le W H W1 H1) (h : tMDr K E W H Q r) : tMDr K E W1 H1 Q r := by
  cases r with
  | none => exact h
  | some r =>
    cases r with
    | ok x st => exact fun p us H' W' l' => h p us H' W' (l.trans l')
    | exc x st => exact fun c d H' W' l' => h c d H' W' (l.trans l')
def tMD (K : PySem.W.Frag) (E : EX) (m : M PD) : TE := fun σ H Q => ∃ W env st, SlotR K W H env σ ∧ SimS K W st H ∧ tMDr K (E σ) W H Q (m env st)
abbrev MD (X : Cx) (E : EX) (e : Expr) (m : M PD) : Prop := PE X e (tMD X.K E m)
section
variable {K : PySem.W.Frag} {W : Wd} {st : Sto} {H : Hp} {p : Addr}
theorem new_dic (ss : SimS K W st H) (h : H p = none) {ps : PD} {ks : List (Key × V)} (r : RepD K (Fz W H) W.ρ ps ks) (hz : ps.length ≤ sizeLine) : Rp K W (upd H p (.dK ks)) (.dic ps) (.ref p) := by
  show Rep _ _ _ _ _
  simp only [Rep]
  exact ⟨p, ks, rfl, .inl (Fz_at ss h), RepD.mono (Fz_upd_new W H h) (List.prefix_refl _) _ _ r, hz⟩
theorem SimS.push_dic (ss : SimS K W st H) (h : H p = none) {ps : PD} {ks : List (Key × V)} (r : RepD K (Fz W H) W.ρ ps ks) (hz : ps.length ≤ sizeLine) :
    Le W H (W.push p) (upd H p (.dK ks)) ∧ SimS K (W.push p) (st ++ [.dic ps]) (upd H p (.dK ks)) :=
  ss.push h ⟨ks, upd_same, RepD.mono (Fz_push_new ss h _) ⟨[p], rfl⟩ _ _ r, hz⟩
end
/-- a new dict by value; as a changing object -/
def mNewV (m : M PD) : M PV := m.bind fun ps => M.pure (.dic ps)
def mNewD (m : M PD) : M PV := m.bind fun ps => fun _ st => some (.ok (.ref st.length) (st ++ [.dic ps]))
section
variable {X : Cx} {E : EX} {e : Expr} {pos : Pos}
theorem m_newV {ma : M PD} (h : MD X E e ma) : ME X E e (mNewV ma) := by
  refine peW h fun σ H Q q => ?_
  obtain ⟨W, env, st, sl, ss, q⟩ := q
  refine ⟨W, env, st, sl, ss, ?_⟩
  unfold mNewV M.bind at q
  cases e : ma env st with
  | none => rw [e] at q; exact q
  | some r =>
    rw [e] at q
    cases r with
    | exc x st1 => exact q
    | ok ps st1 =>
      intro p ks H' W' l s r hz hp
      obtain ⟨l2, ss2⟩ := s.new (o := .dK ks) hp
      exact q _ _ W' (l.trans l2) ss2 (new_dic s hp r hz)
theorem m_newD {ma : M PD} (h : MD X E e ma) : ME X E e (mNewD ma) := by
  refine peW h fun σ H Q q => ?_
  obtain ⟨W, env, st, sl, ss, q⟩ := q
  refine ⟨W, env, st, sl, ss, ?_⟩
  unfold mNewD M.bind at q
  cases e : ma env st with
  | none => rw [e] at q; exact q
  | some r =>
    rw [e] at q
    cases r with
    | exc x st1 => exact q
    | ok ps st1 =>
      intro p ks H' W' l s r hz hp
      obtain ⟨l2, ss2⟩ := s.push_dic hp r hz
      exact q _ _ (W'.push p) (l.trans l2) ss2 (rep_push s)
/-- {} -/
def mDic0 : M PD := fun _ st => some (.ok [] st)
theorem d_dict0 : MD X E (.Dict [] [] pos) mDic0 := by
  refine peW pe_dnewK fun σ H Q q => ?_
  obtain ⟨W, env, st, sl, ss, q⟩ := q
  intro p hp
  exact q p [] H W (Le.refl _ _) ss (by simp [RepD]) (Nat.zero_le _) hp
end
/-! ### dict(x): a dict, or a list of pairs -/
def pairsOf : List PV → Option PD
  | [] => some []
  | .tup [k, v] :: r => if (keyOf k).isSome then (pairsOf r).map ((k, v) :: ·) else none
  | _ :: _ => none
def stepP (acc : PD) (kv : PV × PV) : PD := match keyOf kv.1 with
  | some k => putP acc k kv.1 kv.2
  | none => acc
theorem stepP_len (acc : PD) (kv : PV × PV) : (stepP acc kv).length ≤ acc.length + 1 := by
  unfold stepP
  split
  · exact putP_len _ _ _ _
  · omega
def mergeP (acc more : PD) : PD := more.foldl stepP acc
abbrev OD := List PV → Sto → Option PD
def oDict : OD := fun xs st => match xs with
  | [x] => match dictOf st x with
    | some ps => some ps
    | none => match asS st x with
      | some ys => (pairsOf ys).map (mergeP [])
      | none => none
  | _ => none
def rMD (K : PySem.W.Frag) (o : OD) : List V → Hp → VK → Prop := fun us H Q => ∃ W st xs ys, SimS K W st H ∧ RpL K W H xs us ∧ o xs st = some ys ∧
  ∀ p ks H' , Le W H W H' → SimS K W st H' → RepD K (Fz W H') W.ρ ys ks → ys.length ≤ sizeLine → H' p = none → Q (.ref p) (upd H' p (.dK ks))
def mClD (o : OD) (a : M (List PV)) : M PD := a.bind fun xs => fun _ st => (o xs st).map fun z => .ok z st
theorem bindD_at {K : PySem.W.Frag} {E : EX} {W : Wd} {env : MEnv} {st : Sto} {σ : L2.St} {H : Hp} {Q : VK} {ma : M (List PV)} {f : List PV → M PD} {R : List V → Hp → Prop} (sl : SlotR K W H env σ) (ss : SimS K W st H) (h : tMDr K (E σ) W H Q (M.bind ma f env st))
    (k : ∀ x u st1 W1 H1, Le W H W1 H1 → SlotR K W1 H1 env σ → SimS K W1 st1 H1 → RpL K W1 H1 x u → tMDr K (E σ) W1 H1 Q (f x env st1) → R u H1) : tML K E ma σ H R := by
  refine ⟨W, env, st, sl, ss, ?_⟩
  unfold M.bind at h
  cases e : ma env st with
  | none => rw [e] at h; exact h
  | some r =>
    rw [e] at h
    cases r with
    | exc x st1 => exact h
    | ok x st1 => exact fun u H' W' l s r => k x u st1 W' H' l (sl.le l) s r (tMDr.le l h)
section
variable {X : Cx} {E : EX} {e : Expr} {es : List Expr} {pos : Pos}
theorem clD_body {K : PySem.W.Frag} {o : OD} {ta : M (List PV)} {σ : L2.St} {H : Hp} {Q : VK} (q : tMD K E (mClD o ta) σ H Q) : tCB (rMD K o) (tML K E ta) σ H Q := by
  obtain ⟨W, env, st, sl, ss, q⟩ := q
  refine bindD_at sl ss q fun x u st1 W1 H1 l1 sl1 ss1 rx q1 => ?_
  cases e : o x st1 with
  | none => rw [e] at q1; exact q1.elim
  | some z =>
    rw [e] at q1
    exact ⟨W1, st1, x, z, ss1, rx, e, fun p ks H' l s r hz hp => q1 p ks H' W1 l s r hz hp⟩
theorem d_callTy {T : String} {x : Str} {p : Pos} {o : OD} {ta : M (List PV)} (hc : CallR X (.type T) (rMD X.K o)) (hg : Gl X x) (hm : X.mg x = none) (hv : bootBuiltins x = some (.type T)) (ha : MA X E (e :: es) ta)
    (hn : x ≠ "__name__" := by decide) (hdb : (x == ("__debug__" : Str)) = false := by decide)
    (he : starEach (e :: es) X.env = (false, eval e X.env) :: starEach es X.env := by rfl) (hpl : (backTo pos (starEach es X.env)).any (·.1) = false := by rfl) : MD X E (.Call (.Name x p) (e :: es) [] pos) (mClD o ta) :=
  peW (pe_callTy hc hg hm hv ha hn hdb he hpl) fun _ _ _ q => clD_body q
theorem pairs_rep {K : PySem.W.Frag} {W : Wd} {H : Hp} : ∀ {ys : List PV} {vs : List V} {ps : PD}, RpL K W H ys vs → pairsOf ys = some ps →
    ∃ (as : List Addr) (kvs : List (Key × V)), vs = as.map V.ref ∧ Paired (fun p kv => SqT K H p [kV kv.1, kv.2]) as kvs ∧ RepD K (Fz W H) W.ρ ps kvs ∧ ps.length = ys.length
  | [], vs, ps, r, h => by
    simp only [RpL, RepL] at r
    simp only [pairsOf, Option.some.injEq] at h
    subst r h
    exact ⟨[], [], rfl, .nil, by simp [RepD], rfl⟩
  | y :: ys, vs, ps, r, h => by
    simp only [RpL, RepL] at r
    obtain ⟨v, t, rfl, r1, r2⟩ := r
    unfold pairsOf at h
    split at h
    · rename_i heq; cases heq
    · rename_i k x r0 heq
      cases heq
      split at h
      · rename_i hk
        rw [Option.map_eq_some_iff] at h
        obtain ⟨qs, hq, rfl⟩ := h
        obtain ⟨kk, ek⟩ := Option.isSome_iff_exists.mp hk
        obtain ⟨as, kvs, rfl, hp, hr, hl⟩ := pairs_rep r2 hq
        obtain ⟨a, ws, rfl, s1, r3, _⟩ := asT_inv (xs := [k, x]) r1 rfl
        obtain ⟨u, w, rfl, r4, r5⟩ := RepL.two r3
        have e := key_inv r4 ek
        subst e
        refine ⟨a :: as, (kk, w) :: kvs, rfl, .cons s1 hp, ?_, by simp [hl]⟩
        simp only [RepD]
        exact ⟨kk, w, kvs, rfl, ek, r5, hr⟩
      · cases h
    · cases h
theorem merge_rep {K : PySem.W.Frag} {F : Hp} {ρ : List Addr} : ∀ {more : PD} {ms : List (Key × V)} {acc : PD} {as : List (Key × V)}, RepD K F ρ more ms → RepD K F ρ acc as → RepD K F ρ (mergeP acc more) (mergeK as ms)
  | [], ms, acc, as, h, h0 => by
    simp only [RepD] at h
    subst h
    exact h0
  | (k, x) :: more, ms, acc, as, h, h0 => by
    simp only [RepD] at h
    obtain ⟨kk, v, t, rfl, hk, r1, r2⟩ := h
    have := merge_rep (acc := putP acc kk k x) (as := putK as kk v) r2 (h0.put hk r1)
    show RepD K F ρ (mergeP (stepP acc (k, x)) more) (mergeK (putK as kk v) t)
    have e : stepP acc (k, x) = putP acc kk k x := by simp only [stepP, hk]
    rw [e]
    exact this
theorem mergeP_len : ∀ (more acc : PD), (mergeP acc more).length ≤ acc.length + more.length
  | [], acc => Nat.le_refl _
  | (k, x) :: more, acc => by
    have h := mergeP_len more (stepP acc (k, x))
    have h2 := stepP_len acc (k, x)
    show (mergeP (stepP acc (k, x)) more).length ≤ _
    simp only [List.length_cons]
    omega
theorem c_dict (hc : X.calm = true) : CallR X (.type "dict") (rMD X.K oDict) := by
  intro pins s σ H vs us Q I r h
  obtain ⟨W, st, xs, ys, ss, rx, ho, q⟩ := h
  unfold oDict at ho
  split at ho
  · rename_i x
    obtain ⟨u, rfl, r1⟩ := rx.one
    split at ho
    · rename_i ps ed
      cases ho
      obtain ⟨a, ks, rfl, hd, hr, hz⟩ := dict_inv ss r1 ed
      exact call_dictD pins s σ H _ us Q I r ⟨a, ks, rfl, hd, fun p hp => q p ks H (Le.refl _ _) ss hr hz hp⟩
    · split at ho
      · rename_i zs ea
        rw [Option.map_eq_some_iff] at ho
        obtain ⟨ps, hp, rfl⟩ := ho
        obtain ⟨a, ws, rfl, s1, r2, hz⟩ := asS_inv ss r1 ea
        obtain ⟨as, kvs, rfl, hpd, hr, hl⟩ := pairs_rep r2 hp
        refine call_dictP hc pins s σ H _ us Q I r ⟨a, as, kvs, rfl, s1, hpd, fun p hn => q p _ H (Le.refl _ _) ss (merge_rep hr (by simp [RepD])) ?_ hn⟩
        have := mergeP_len ps []
        simp only [List.length_nil] at this
        omega
      · cases ho
  · cases ho
end
end Mi

/-! Mi13: written dicts; clear, get, pop, update. -/
namespace Mi
open PySem PySem.Spec PyProof.Rows L2
/-! ### {k: v, ..} -/
abbrev RepQ (K : PySem.W.Frag) (W : Wd) (H : Hp) : PD → List (V × V) → Prop := Paired fun p q => Rp K W H p.1 q.1 ∧ Rp K W H p.2 q.2
def tMPr (K : PySem.W.Frag) (E : XK) (W : Wd) (H : Hp) (R : List (V × V) → Hp → Prop) : Option (Res PD) → Prop
  | none => False
  | some (.ok ps st) => ∀ qs H' W', Le W H W' H' → SimS K W' st H' → RepQ K W' H' ps qs → R qs H'
  | some (.exc x st) => ∀ cls d H' W', Le W H W' H' → SimS K W' st H' → RepX K W' H' x cls d → E cls d H'
theorem tMPr.le {K : PySem.W.Frag} {E : XK} {W W1 : Wd} {H H1 : Hp} {R : List (V × V) → Hp → Prop} {r : Option (Res PD)} (l : Le W H W1 H1) (h : tMPr K E W H R r) : tMPr K E W1 H1 R r := by
  cases r with
  | none => exact h
  | some r =>
    cases r with
    | ok x st => exact fun qs H' W' l' => h qs H' W' (l.trans l')
    | exc x st => exact fun c d H' W' l' => h c d H' W' (l.trans l')
theorem bindP_at {K : PySem.W.Frag} {E : EX} {W : Wd} {env : MEnv} {st : Sto} {σ : L2.St} {H : Hp} {R : List (V × V) → Hp → Prop} {ma : M PV} {f : PV → M PD} {S : VK} (sl : SlotR K W H env σ) (ss : SimS K W st H) (h : tMPr K (E σ) W H R (M.bind ma f env st))
    (k : ∀ x u st1 W1 H1, Le W H W1 H1 → SlotR K W1 H1 env σ → SimS K W1 st1 H1 → Rp K W1 H1 x u → tMPr K (E σ) W1 H1 R (f x env st1) → S u H1) : tM K E ma σ H S := by
  refine ⟨W, env, st, sl, ss, ?_⟩
  unfold M.bind at h
  cases e : ma env st with
  | none => rw [e] at h; exact h
  | some r =>
    rw [e] at h
    cases r with
    | exc x st1 => exact h
    | ok x st1 => exact fun u H' W' l s r => k x u st1 W' H' l (sl.le l) s r (tMPr.le l h)
/-- the pairs from the left -/
def mPairs : List (M PV × M PV) → PD → M PD
  | [], acc => M.pure acc
  | (k, v) :: r, acc => k.bind fun x => v.bind fun y => mPairs r (acc ++ [(x, y)])
theorem repQ_le {K : PySem.W.Frag} {W W1 : Wd} {H H1 : Hp} (l : Le W H W1 H1) {ps : PD} {qs : List (V × V)} (r : RepQ K W H ps qs) : RepQ K W1 H1 ps qs := by
  unfold RepQ at *
  induction r with
  | nil => exact .nil
  | cons h t ih => exact .cons ⟨h.1.le l, h.2.le l⟩ ih
theorem repQ_snoc {K : PySem.W.Frag} {W : Wd} {H : Hp} {x y : PV} {u v : V} {ps : PD} {qs : List (V × V)} (r : RepQ K W H ps qs) (rx : Rp K W H x u) (ry : Rp K W H y v) : RepQ K W H (ps ++ [(x, y)]) (qs ++ [(u, v)]) := by
  unfold RepQ at *
  induction r with
  | nil => exact .cons ⟨rx, ry⟩ .nil
  | cons h t ih => exact .cons h ih
theorem pairs_at {K : PySem.W.Frag} {E : EX} {σ : L2.St} : ∀ (ms : List (M PV × M PV)) {acc : PD} {qacc : List (V × V)} {W : Wd} {env : MEnv} {st : Sto} {H : Hp} {R : List (V × V) → Hp → Prop}, SlotR K W H env σ → SimS K W st H → RepQ K W H acc qacc →
    tMPr K (E σ) W H (fun qs H' => ∀ tail, qs = qacc ++ tail → R tail H') (mPairs ms acc env st) → tPairs (ms.map fun p => (tM K E p.1, tM K E p.2)) σ H R
  | [], acc, qacc, W, env, st, H, R, sl, ss, ra, h => h qacc H W (Le.refl _ _) ss ra [] (List.append_nil _).symm
  | (mk, mv) :: r, acc, qacc, W, env, st, H, R, sl, ss, ra, h => by
    refine bindP_at sl ss h fun x u st1 W1 H1 l1 sl1 ss1 rx q1 => ?_
    refine bindP_at sl1 ss1 q1 fun y v st2 W2 H2 l2 sl2 ss2 ry q2 => ?_
    refine pairs_at r sl2 ss2 (repQ_snoc (repQ_le (l1.trans l2) ra) (rx.le l2) ry) ?_
    cases e : mPairs r (acc ++ [(x, y)]) env st2 with
    | none => rw [e] at q2; exact q2
    | some rr =>
      rw [e] at q2
      cases rr with
      | exc x s => exact q2
      | ok ps s => exact fun qs H' W' l s' rq tail ht => q2 qs H' W' l s' rq ((u, v) :: tail) (by rw [ht, List.append_assoc]; rfl)
/-- a written dict, its pairs p -/
def keyed (ps : PD) : Bool := decide (ps.length ≤ 15) && ps.all fun p => (keyOf p.1).isSome
def mDisp (ms : List (M PV × M PV)) : M PD := (mPairs ms []).bind fun ps => fun _ st => if keyed ps then some (.ok (mergeP [] ps) st) else none
theorem keyed_rep {K : PySem.W.Frag} {W : Wd} {H : Hp} : ∀ {ps : PD} {qs : List (V × V)}, RepQ K W H ps qs → (ps.all fun p => (keyOf p.1).isSome) = true →
    ∃ kvs : List (Key × V), qs = kvs.map (fun kv => (kV kv.1, kv.2)) ∧ RepD K (Fz W H) W.ρ ps kvs ∧ kvs.length = ps.length
  | [], qs, r, _ => by
    cases r
    exact ⟨[], rfl, by simp [RepD], rfl⟩
  | (k, x) :: ps, qs, r, h => by
    cases r with
    | @cons _ q _ qs' h1 t =>
      obtain ⟨qk, qv⟩ := q
      simp only [List.all_cons, Bool.and_eq_true] at h
      obtain ⟨kvs, rfl, hr, hl⟩ := keyed_rep t h.2
      obtain ⟨kk, ek⟩ := Option.isSome_iff_exists.mp h.1
      have e : qk = kV kk := key_inv h1.1 ek
      subst e
      refine ⟨(kk, qv) :: kvs, rfl, ?_, by simp [hl]⟩
      simp only [RepD]
      exact ⟨kk, qv, kvs, rfl, ek, h1.2, hr⟩
section
variable {X : Cx} {E : EX} {pos : Pos}
abbrev MPs (X : Cx) (E : EX) (pos : Pos) (keys : List (Option Expr)) (values : List Expr) (ms : List (M PV × M PV)) : Prop := PPs X pos keys values (ms.map fun p => (tM X.K E p.1, tM X.K E p.2))
theorem mps_nil : MPs X E pos [] [] [] := pps_nil
theorem mps_cons {k v : Expr} {ks : List (Option Expr)} {vs : List Expr} {mk mv : M PV} {ms : List (M PV × M PV)} (hk : ME X E k mk) (hv : ME X E v mv) (hr : MPs X E pos ks vs ms) : MPs X E pos (some k :: ks) (v :: vs) ((mk, mv) :: ms) := pps_cons hk hv hr
theorem d_disp {keys : List (Option Expr)} {values : List Expr} {ms : List (M PV × M PV)} (h : MPs X E pos keys values ms) (hall : keys.all (·.isSome) = true := by rfl) (hl : keys.length = values.length := by rfl) (h0 : keys ≠ [] := by intro z; cases z)
    (h15 : keys.length ≤ 15 := by decide) : MD X E (.Dict keys values pos) (mDisp ms) := by
  refine peW (pe_disp h hall hl h0 h15) fun σ H Q q => ?_
  obtain ⟨W, env, st, sl, ss, q⟩ := q
  intro p hp
  obtain ⟨lh, sh⟩ := ss.hide (.dK []) hp
  refine pairs_at ms (sl.le lh) sh .nil ?_
  unfold mDisp M.bind at q
  cases e : mPairs ms [] env st with
  | none => rw [e] at q; exact q.elim
  | some r =>
    rw [e] at q
    cases r with
    | exc x s =>
      intro cls d H' W' l s' rx
      have q : ∀ cls d H' W', Le W H W' H' → SimS X.K W' s H' → RepX X.K W' H' x cls d → E σ cls d H' := q
      exact q cls d H' W' (lh.trans l) s' rx
    | ok ps s =>
      intro qs H' W' l s' rq tail ht
      have ht' : qs = tail := by simpa using ht
      subst ht'
      have hD : p ∈ W'.hid := l.hid _ List.mem_cons_self
      have hDa : H' p = some (.dK []) := (l.keep p List.mem_cons_self).trans upd_same
      by_cases hk : keyed ps = true
      · have q : tMDr X.K (E σ) W H Q (if keyed ps then some (.ok (mergeP [] ps) s) else none) := q
        rw [if_pos hk] at q
        simp only [keyed, Bool.and_eq_true, decide_eq_true_eq] at hk
        obtain ⟨kvs, eq, hr, hlen⟩ := keyed_rep rq hk.2
        refine ⟨hDa, kvs, eq, by omega, ?_⟩
        have hn : H p = none := hp
        have l0 : Le W H (W'.unhide p) (del H' p) := ⟨l.pre, fun a ha => List.mem_filter.mpr ⟨l.hid a (List.mem_cons_of_mem _ ha), by simpa using (fun z : a = p => ss.new_hid hp (by rw [← z]; exact ha))⟩,
          fun a o e => Fz_unhide hD a o ((lh.trans l).fz a o e), fun a ha => by
            have ne : a ≠ p := fun z => ss.new_hid hp (by rw [← z]; exact ha)
            rw [del_ne ne]
            exact (lh.trans l).keep a ha, fun a ha od u e => by
            rw [del_ne (ne_of_none e hp)]
            exact (lh.trans l).loc a ha od u e⟩
        have key := q p (mergeK [] kvs) (del H' p) (W'.unhide p) l0 (s'.unhide hD) (RepD.mono (Fz_unhide hD) (List.prefix_refl _) _ _ (merge_rep hr (by simp [RepD]))) (by have := mergeP_len ps []; simp only [List.length_nil] at this; exact Nat.le_trans (by omega) (Nat.le_trans (by decide : 15 ≤ 1000) (by decide))) del_same
        have e2 : upd (del H' p) p (.dK (mergeK [] kvs)) = upd H' p (.dK (mergeK [] kvs)) := by
          funext a
          by_cases z : a = p
          · rw [z, upd_same, upd_same]
          · rw [upd_ne z, del_ne z, upd_ne z]
        rw [e2] at key
        exact key
      · have q : tMDr X.K (E σ) W H Q (if keyed ps then some (.ok (mergeP [] ps) s) else none) := q
        rw [if_neg hk] at q
        exact q.elim
end
end Mi

/-! Mi14: stores to dicts; get, pop, update, clear. -/
namespace Mi
open PySem PySem.Spec PyProof.Rows L2
section
variable {X : Cx} {E : EX} {o i e : Expr} {pos tpos : Pos}
/-- x[k] = e, x a list or a dict -/
def mPutD (me mo mi : M PV) : MS := me.bindS fun y => M.bindS mo fun x => M.bindS mi fun k => fun env st => (oPutD x k y st).map fun st' => .next env st'
theorem ms_putD {me mo mi : M PV} (hu : X.A.units + 66 < cLine) (he : ME X E e me) (ho : ME X E o mo) (hi : ME X E i mi)
    (ha : ∀ v, assign (.Subscript o i tpos) X.env v = (do let ov ← holding [v] (eval o X.env); let iv ← holding [v, ov] (eval i X.env); standAt tpos; holding [v, ov, iv] (setItem ov iv v); release [v, ov, iv] []) := by intro _; rfl)
    (hs : swapsWithSole [.Subscript o i tpos] e pos.line X.env = pure false := by rfl) (hw : swappedStores [.Subscript o i tpos] e X.env = pure none := by rfl)
    (h1 : (assignEach [.Subscript o i tpos] X.env).map (·.2) = [assign (.Subscript o i tpos) X.env] := by rfl) : MSt X E (.Assign [.Subscript o i tpos] e pos) (mPutD me mo mi) := by
  refine psW (ps_asg he (pg_sub ho hi (s_putD hu) ha) hs hw h1) fun D σ H q => ?_
  obtain ⟨W, env, st, sl, ss, q⟩ := q
  refine bindS_at sl ss q fun y vy st1 W1 H1 l1 sl1 ss1 ry q1 => ?_
  refine bindS_at sl1 ss1 q1 fun x vx st2 W2 H2 l2 sl2 ss2 rx q2 => ?_
  refine bindS_at sl2 ss2 q2 fun k vk st3 W3 H3 l3 sl3 ss3 rk q3 => ?_
  cases eo : oPutD x k y st3 with
  | none => rw [eo] at q3; exact q3.elim
  | some st' =>
    rw [eo] at q3
    exact ⟨W3, st3, x, k, y, st', ss3, rx.le l3, rk, (ry.le l2).le l3, eo, fun H' l s => q3 σ H' W3 l (sl3.le l) s⟩
end
/-! ### methods -/
section
variable {X : Cx}
/-- d.get(k), d.get(k, x) -/
def oGet : OMt := fun x xs st => match dictOf st x, xs with
  | some ps, [k] => match keyOf k with
    | some kk => some ((valP ps kk).getD .non, st)
    | none => none
  | some ps, [k, y] => match keyOf k with
    | some kk => some ((valP ps kk).getD y, st)
    | none => none
  | _, _ => none
theorem getD_rep {K : PySem.W.Frag} {F : Hp} {ρ : List Addr} {ps : PD} {ks : List (Key × V)} {k : Key} {y : PV} {v : V} (r : RepD K F ρ ps ks) (ry : Rep K F ρ y v) : Rep K F ρ ((valP ps k).getD y) ((valV ks k).getD v) := by
  rcases RepD.val k r with ⟨h1, h2, _⟩ | ⟨x, w, h1, h2, h3, _⟩
  · rw [h1, h2]; exact ry
  · rw [h1, h2]; exact h3
theorem mt_get (hu : X.A.units + 66 < cLine) : MtR X "dict.get" (rMt X.K oGet) := by
  intro pins s σ H xv vs v us Q I rx rv h
  obtain ⟨W, st, x, xs, z, st', ss, hx, hxs, ho, q⟩ := h
  unfold oGet at ho
  split at ho
  · rename_i ps k ed
    split at ho
    · rename_i kk ek
      cases ho
      obtain ⟨a, ks, rfl, hd, hr, _⟩ := dict_inv ss hx ed
      obtain ⟨u, rfl, r1⟩ := hxs.one
      have e := key_inv r1 ek
      subst e
      cases rx
      cases rv with
      | cons ra rr =>
        cases rr
        exact d_get1 (by omega) I (.inl ⟨ks, kk, hd, rfl, rfl⟩) ra fun w' s' J rw' => ⟨_, H, J, rw', q _ H (Le.refl _ _) ss (getD_rep hr rp_non)⟩
    · cases ho
  · rename_i ps k y ed
    split at ho
    · rename_i kk ek
      cases ho
      obtain ⟨a, ks, rfl, hd, hr, _⟩ := dict_inv ss hx ed
      obtain ⟨u, w, rfl, r1, r2⟩ := hxs.two
      have e := key_inv r1 ek
      subst e
      cases rx
      cases rv with
      | cons ra rr =>
        cases rr with
        | cons rb rr =>
          cases rr
          exact d_get2 (by omega) I (.inl ⟨ks, kk, hd, rfl, rfl⟩) ra rb fun w' s' J rw' => ⟨_, H, J, rw', q _ H (Le.refl _ _) ss (getD_rep hr r2)⟩
    · cases ho
  · cases ho
/-- d.pop(k), there -/
def oPop : OMt := fun x xs st => match x, xs with
  | .ref r, [k] => match st[r]?, keyOf k with
    | some (.dic ps), some kk => (valP ps kk).map fun y => (y, st.set r (.dic (dropP ps kk)))
    | _, _ => none
  | _, _ => none
theorem dropP_len (ps : PD) (k : Key) : (dropP ps k).length ≤ ps.length := List.length_filter_le _ _
theorem mt_pop : MtR X "dict.pop" (rMt X.K oPop) := by
  intro pins s σ H xv vs v us Q I rx rv h
  obtain ⟨W, st, x, xs, z, st', ss, hx, hxs, ho, q⟩ := h
  unfold oPop at ho
  split at ho
  · rename_i r k
    split at ho
    · rename_i ps kk es ek
      rw [Option.map_eq_some_iff] at ho
      obtain ⟨y, hy, he⟩ := ho
      cases he
      obtain ⟨a, rfl, ha⟩ : ∃ a, xv = .ref a ∧ W.ρ[r]? = some a := by simpa only [Rp, Rep] using hx
      obtain ⟨ks, h1, h2, h3⟩ := ss.ob r _ a es ha
      obtain ⟨u, rfl, r1⟩ := hxs.one
      have e := key_inv r1 ek
      subst e
      cases rx
      rcases RepD.val kk h2 with ⟨g1, _⟩ | ⟨x', w, g1, g2, g3, _⟩
      · rw [g1] at hy; cases hy
      · rw [g1] at hy
        cases hy
        obtain ⟨l, s'⟩ := ss.putD ha (h2.drop (k := kk)) (Nat.le_trans (dropP_len ps kk) h3) h1
        cases rv with
        | cons ra rr =>
          cases rr
          exact d_pop I h1 ra g2 (.inl rfl) fun w' s2 J rw' => ⟨w, _, J, rw', q _ _ l s' (Rp.le (show Rp X.K W H _ w from g3) l)⟩
    · cases ho
  · cases ho
/-- d.update(x), x another dict -/
def oUpd : OMt := fun x xs st => match x, xs with
  | .ref r, [y] => match st[r]?, y with
    | some (.dic ps), .ref r2 => if r2 = r then none else match dictOf st y with
      | some qs => if ps.length + qs.length ≤ sizeLine then some (.non, st.set r (.dic (mergeP ps qs))) else none
      | none => none
    | _, _ => none
  | _, _ => none
theorem mt_upd : MtR X "dict.update" (rMt X.K oUpd) := by
  intro pins s σ H xv vs v us Q I rx rv h
  obtain ⟨W, st, x, xs, z, st', ss, hx, hxs, ho, q⟩ := h
  unfold oUpd at ho
  split at ho
  · rename_i r y
    split at ho
    · rename_i ps r2 es
      split at ho
      · cases ho
      · rename_i hne
        split at ho
        · rename_i qs ed
          split at ho
          · rename_i hz
            cases ho
            obtain ⟨a, rfl, ha⟩ : ∃ a, xv = .ref a ∧ W.ρ[r]? = some a := by simpa only [Rp, Rep] using hx
            obtain ⟨ks, h1, h2, h3⟩ := ss.ob r _ a es ha
            obtain ⟨u, rfl, r1⟩ := hxs.one
            obtain ⟨b, rfl, hb⟩ : ∃ b, u = .ref b ∧ W.ρ[r2]? = some b := by simpa only [Rp, Rep] using r1
            obtain ⟨b', ms, e, hd, hm, _⟩ := dict_inv ss r1 ed
            cases e
            have nab : a ≠ b := fun z => by
              subst z
              obtain ⟨g1, k1⟩ := List.getElem?_eq_some_iff.mp ha
              obtain ⟨g2, k2⟩ := List.getElem?_eq_some_iff.mp hb
              exact hne ((List.getElem_inj ss.nd).mp (k2.trans k1.symm))
            cases rx
            cases rv with
            | cons ra rr =>
              cases rr
              cases ra
              obtain ⟨z1, hd1, vs1, rel1, dd1⟩ := dk_of I.hok h1
              obtain ⟨z2, hd2, vs2, rel2, dd2⟩ := dk_rd I.hok hd
              have hlen : vs1.length + vs2.length ≤ sizeLine := by rw [← rel1.length, ← rel2.length, h2.len, hm.len]; exact hz
              obtain ⟨l, s'⟩ := ss.putD ha (merge_rep hm h2) (by have := mergeP_len qs ps; omega) h1
              refine call_meetsIn PySem.F.slot_dict_update dd1.typeIs PySem.F.entry_dict_update (PySem.F.args_dict_update_2 _ _) (meets_dict_update (mixKind X.prog X.w) a b nab hd2) ⟨vs1, vs2, dd1, dd2, hlen, fun h' dd' _ hs => ⟨.non, _, ?_, rfl, q _ _ l s' rp_non⟩⟩
              have he : ∃ q, h'.get? a = some q := let ⟨q, _, _, hq, _⟩ := dd'; ⟨q, hq⟩
              have hz2 : (mergeK ks ms).length ≤ sizeLine := by
                have := length_mergeK ms ks
                rw [h2.len, hm.len] at this
                omega
              exact d_write (t' := s.toks) I (by rw [h1]; exact True.intro) hs he (dk_new hz2 hd1 (rel2.merge rel1) dd')
          · cases ho
        · cases ho
    · cases ho
  · cases ho
end
/-- d.clear() -/
def mClear (m : M PV) : M PV := m.bind fun x => fun _ st => match x with
  | .ref r => match st[r]? with
    | some (.dic _) => some (.ok .non (st.set r (.dic [])))
    | _ => none
  | _ => none
section
variable {X : Cx} {E : EX} {o : Expr} {apos cpos : Pos}
theorem m_clear {m : M PV} (ho : ME X E o m) (hbase : attributeBase o "clear" X.env (eval o X.env) = eval o X.env := by rfl) (hline : (apos.endLine == cpos.line) = true := by rfl) : ME X E (.Call (.Attribute o "clear" apos) [] [] cpos) (mClear m) := by
  refine peW (pe_dclear ho hbase hline) fun σ H Q q => ?_
  obtain ⟨W, env, st, sl, ss, q⟩ := q
  refine bind_at sl ss q fun x u st1 W1 H1 l1 sl1 ss1 rx q1 => ?_
  split at q1
  · rename_i r
    split at q1
    · rename_i ps es
      obtain ⟨a, rfl, ha⟩ : ∃ a, u = .ref a ∧ W1.ρ[r]? = some a := by simpa only [Rp, Rep] using rx
      obtain ⟨ks, h1, h2, h3⟩ := ss1.ob r _ a es ha
      obtain ⟨l, s'⟩ := ss1.putD (ps := []) (ks := []) ha (by simp [RepD]) (Nat.zero_le _) h1
      refine ⟨.inr (.inr (.inl ⟨rfl, .inl ⟨ks, h1⟩⟩)), a, ks, rfl, rfl, h1, ?_⟩
      exact q1 _ _ W1 l s' rp_non
    · exact q1.elim
  · exact q1.elim
end
end Mi

/-! Mi15: sorted(d.items()) of a dict from texts to texts. -/
namespace SIt
open PySem PySem.W PySem.Calls PyProof.Rows PySem.HandSPX
/-- v is a pair of two texts -/
def PairAt (h : Heap) (v : Value) (y z : Str) : Prop := ∃ (a : Addr) (t u : Tok), v = .ref a ∧ IsTup h a #[.str y t, .str z u]
def txAt (h : Heap) (v : Value) : Str := DT.txOf (DT.seqAt0 h (DT.refOf (some v)))
theorem PairAt.tx {h : Heap} {v : Value} {y z : Str} (x : PairAt h v y z) : txAt h v = y := by
  obtain ⟨a, t, u, rfl, h1⟩ := x
  show DT.txOf (DT.seqAt0 h a) = y
  rw [DT.seqAt0_of h1]
  rfl
theorem firsts {h : Heap} {M : Str → Str} : ∀ vs : List Value, (∀ v ∈ vs, ∃ y, PairAt h v y (M y)) → ∃ fs : List Value, KatTups h vs fs ∧ fs.length = vs.length ∧ ∀ f ∈ fs, ∃ y t, f = Value.str y t
  | [], _ => ⟨[], KatTups.nil, rfl, fun f hf => by simp at hf⟩
  | v :: vs, x => by
    obtain ⟨fs, k, hl, hi⟩ := firsts vs fun u hu => x u (List.mem_cons_of_mem _ hu)
    obtain ⟨y, a, t, u, rfl, o, ho, hc, n, hd⟩ := x v List.mem_cons_self
    refine ⟨.str y t :: fs, KatTups.cons ho hc hd rfl k, by simp [hl], fun f hf => ?_⟩
    rcases List.mem_cons.mp hf with rfl | hf
    · exact ⟨y, t, rfl⟩
    · exact hi f hf
section
variable {prog : Program} {w : World} {A : Around} {E : Value → Shared → Prop} {s : Shared}
theorem kind_ss {vs : List Value} {ρ : Str → Int} {M : Str → Str} (h2 : 2 ≤ vs.length) (x : ∀ v ∈ vs, ∃ y, PairAt s.heap v y (M y))
    (hρ : ∀ v ∈ vs, ∀ u ∈ vs, decide ((txAt s.heap v).cps.toList < (txAt s.heap u).cps.toList) = decide (ρ (txAt s.heap v) < ρ (txAt s.heap u))) (Q : SortKind → Shared → Prop)
    (h : ∀ κ, TS.Cmp prog w A s κ (pairsOf vs) (fun v => ρ (txAt s.heap v)) → Q κ s) : wpAny (model prog w) A (keyKind' vs.toArray) Q E s := by
  obtain ⟨fs, k, hl, hi⟩ := firsts vs x
  refine kat_kind (T := Value.type "str") k (by omega) (fun f hf => ?_) rfl (h _ ?_)
  · obtain ⟨y, t, rfl⟩ := hi f hf
    exact PySem.W.Looks.now
  · have hb : (Value.type "str" != Value.type "tuple") = true := by decide
    rw [hb]
    intro p q hp hq Q' E' hQ
    rw [pairsOf_toList] at hp hq
    have mp := (mem_zip_self hp).2
    have mq := (mem_zip_self hq).2
    obtain ⟨y, py⟩ := x _ mp
    obtain ⟨z, pz⟩ := x _ mq
    have hr := hρ _ mp _ mq
    have hQ' : Q' (decide (y.cps.toList < z.cps.toList)) s := by
      rw [py.tx, pz.tx] at hr
      rw [hr]
      have hQ2 : Q' (decide (ρ (txAt s.heap p.1) < ρ (txAt s.heap q.1))) s := hQ
      rw [py.tx, pz.tx] at hQ2
      exact hQ2
    obtain ⟨a, t, u, e1, o, ho, hc, n, hd⟩ := py
    obtain ⟨a', t', u', e2, o', ho', hc', n', hd'⟩ := pz
    rw [e1, e2]
    refine kat_lt ho hd ho' hd' ?_
    show KatLex prog w A true false Q' [(Value.str y t, Value.str z t'), (Value.str (M y) u, Value.str (M z) u')] 0 s
    by_cases e : y = z
    · subst e
      have irr : decide (y.cps.toList < y.cps.toList) = false := by simp
      rw [irr] at hQ'
      refine kat_cons (wpAny_eqBool_str ?_)
      rw [decide_eq_true rfl]
      refine kat_yes (kat_cons (wpAny_eqBool_str ?_))
      rw [decide_eq_true rfl]
      exact kat_yes (kat_nil hQ')
    · refine kat_cons (wpAny_eqBool_str ?_)
      rw [decide_eq_false e]
      refine kat_no ?_
      show wpAny _ _ (oneLt' true _ _) _ _ _
      exact oneLt_str hQ'
end
end SIt
namespace SIt
open PySem PySem.Spec PyProof.Rows L2 L2.DX
/-- an entry of a dict, by its place -/
theorem pairs_entry {P : Program} {w : World} {es : List DictEntry} {kvs : List (Key × Value)} (h : Pairs (mixKind P w) es kvs) : ∀ (j : Nat) (e : DictEntry), es[j]? = some e → ∃ kv, kvs[j]? = some kv ∧ keyIs kv.1 e.key = true ∧ e.val = kv.2 := by
  induction h with
  | nil => intro j e h; simp at h
  | @cons e0 kv es kvs hk hv t ih =>
    intro j e h
    cases j with
    | zero =>
      simp only [List.getElem?_cons_zero, Option.some.injEq] at h
      subst h
      exact ⟨kv, rfl, hk, hv⟩
    | succ j =>
      simp only [List.getElem?_cons_succ] at h ⊢
      exact ih j e h
theorem find_key {e : Str × Str} : ∀ {ks : List (Str × Str)}, (ks.map (·.1)).Nodup → e ∈ ks → ks.find? (fun f => decide (f.1 = e.1)) = some e
  | [], _, h => by cases h
  | f :: ks, hn, h => by
    rw [List.map_cons, List.nodup_cons] at hn
    rcases List.mem_cons.mp h with rfl | hm
    · simp
    · have ne : ¬ f.1 = e.1 := fun z => hn.1 (by rw [z]; exact List.mem_map_of_mem hm)
      rw [List.find?_cons, decide_eq_false ne]
      exact find_key hn.2 hm
section
variable {X : Cx}
/-- objects above the old ones become known -/
theorem takeO {X : Cx} {pins : List (Addr × Obj)} {σ : L2.St} {H0 : Hp} {s : Shared} {h' : Heap} {tk : Nat} {P : Addr → HO → Prop} (I0 : Inv X pins σ H0 s) : ∀ (L : List Addr) (H1 : Hp), Inv X pins σ H1 { s with heap := h', toks := tk } → L.Nodup →
    (∀ a ∈ L, s.heap.objs.size ≤ a ∧ H1 a = none ∧ ∃ o, P a o ∧ ∀ H2, ObjOk X.prog X.w H2 h' a o) →
    ∃ H2, Inv X pins σ H2 { s with heap := h', toks := tk } ∧ (∀ b o, H1 b = some o → H2 b = some o) ∧ ∀ a ∈ L, ∃ o, P a o ∧ H2 a = some o
  | [], H1, I1, _, _ => ⟨H1, I1, fun _ _ e => e, fun _ h => nomatch h⟩
  | a :: L, H1, I1, hn, h => by
    obtain ⟨hb, hnone, vs, hP, ok⟩ := h a (List.mem_cons_self ..)
    have I2 : Inv X pins σ (upd H1 a vs) { s with heap := h', toks := tk } := I1.take (h' := h') (t' := tk) (fun b ob _ e => e) (I0.fpOk hb hnone) (ok _)
    rw [List.nodup_cons] at hn
    obtain ⟨H2, I3, g, q⟩ := takeO I0 L (upd H1 a vs) I2 hn.2 fun c hc => by
      obtain ⟨c1, c2, c3⟩ := h c (List.mem_cons_of_mem _ hc)
      exact ⟨c1, by rw [upd_ne (fun z => hn.1 (by rw [← z]; exact hc))]; exact c2, c3⟩
    refine ⟨H2, I3, fun b o e => g b o (by rw [upd_ne (ne_of_none e hnone)]; exact e), fun c hc => ?_⟩
    rcases List.mem_cons.mp hc with rfl | hc
    · exact ⟨vs, hP, g _ _ upd_same⟩
    · exact q c hc
/-- d.items() as a view, d from ints and texts -/
def rItemsK : V → List V → Hp → VK → Prop := fun x xs H Q => ∃ (a : Addr) (kvs : List (Key × V)), x = .ref a ∧ xs = [] ∧ H a = some (.dK kvs) ∧ ∀ p, H p = none → Q (.ref p) (upd H p (itemsO p a))
theorem mt_itemsK : MtR X "dict.items" rItemsK := by
  intro pins s σ H x xs v us Q I rx rxs h
  obtain ⟨a, kvs, rfl, rfl, ha, q⟩ := h
  cases rx
  cases rxs
  obtain ⟨z, hd, vs, rel, dd⟩ := dk_of I.hok ha
  obtain ⟨o, es, ep, ho, hx, hdat, _⟩ := id dd
  refine DT.callItems (es := es) (ep := ep) hd ⟨o, ho, hx, hdat⟩ ?_
  refine ⟨.ref s.heap.objs.size, _, I.laid (t' := s.toks) (o := itemsO s.heap.objs.size a) (fun b u e => Heap.get?_push_of_some _ e) (Nat.le_refl _) (itemsO_ok (Heap.get?_push_size _ rfl)), rfl, q _ (I.hok.fresh (Nat.le_refl _))⟩
abbrev entS (e : Str × Str) : Key × V := (.inr e.1, .str e.2)
/-- sorted of such a view: a new list of new pairs, by rank -/
def rSortItK : List V → Hp → VK → Prop := fun vs H Q => ∃ (p a : Addr) (ks : List (Str × Str)) (ρ : Str → Int), vs = [.ref p] ∧ H p = some (itemsO p a) ∧ H a = some (.dK (ks.map entS)) ∧ ks.length < 64 ∧
  (∀ e ∈ ks, ∀ f ∈ ks, decide (e.1.cps.toList < f.1.cps.toList) = decide (ρ e.1 < ρ f.1)) ∧
  ((ks.map (·.1)).Nodup → ∀ (H2 : Hp) (l : Addr) (ps : List (Addr × Str × Str)), (∀ b o, H b = some o → H2 b = some o) → H2 l = none → (ps.map (·.2)).Perm ks → (ps.map (·.2)).Pairwise (fun e f => ρ e.1 ≤ ρ f.1) →
    (∀ z ∈ ps, H z.1 = none ∧ ∃ o : Obj, o.dict = none ∧ H2 z.1 = some (.frz o (.tup [.str z.2.1, .str z.2.2]))) → Q (.ref l) (upd H2 l (.lst (ps.map fun z => V.ref z.1))))
theorem cr_sortItK (hc : X.calm = true) : CallR X (.builtin "sorted") rSortItK := by
  intro pins s σ H xs us Q I r h
  obtain ⟨p, a, ks, ρ, rfl, hp, ha, h64, hρ, q⟩ := h
  obtain rfl := Vals.ref1 r
  have view : s.heap.IsItemsView p a := (show ObjOk X.prog X.w H s.heap p (itemsO p a) from I.hok p _ hp).1
  obtain ⟨z, hd, vs, rel, dd⟩ := dk_of I.hok ha
  obtain ⟨o, es, ep, ho, hx, hdat, hko, hpr, hnd⟩ := id dd
  have l1 : ks.length = vs.length := by simpa using rel.length
  have l2 : es.size = vs.length := by simpa using hpr.length
  have q := q (by
    have e := rel.keys
    rw [List.map_map] at e
    have e2 : ks.map (fun e => (Sum.inr e.1 : Key)) = vs.map (·.1) := e
    rw [← e2] at hnd
    exact (List.pairwise_map.mp hnd).imp (fun {x y} h => fun z => h (by rw [z])) |> List.pairwise_map.mpr)
  have hh : X.A.handled = none := I.ok.hd hc
  refine DT.sortedI (es := es) (ep := ep) hh view ⟨o, ho, hx, hdat⟩ (by rw [sizeLine_eq]; omega) fun h' tk as hk hlt hl hG => ?_
  have lak : as.length = ks.length := by omega
  have nd : as.Nodup := List.Pairwise.imp (fun h => Nat.ne_of_lt h) hG.rise
  have pr : ∀ (j : Nat) (b : Addr), as[j]? = some b → ∃ (e : Str × Str) (t u : Tok), ks[j]? = some e ∧ h'.get? b = some { cls := .type "tuple", data := .seq #[Value.str e.1 t, Value.str e.2 u] } := by
    intro j b hj
    obtain ⟨en, he, hg⟩ := hG.pairs j b hj
    obtain ⟨kv, hkv, h1, h2⟩ := pairs_entry hpr j en (by rw [Array.getElem?_toList]; exact he)
    obtain ⟨e0, he0, r1, r2⟩ := pget rel hkv
    rw [List.getElem?_map, Option.map_eq_some_iff] at he0
    obtain ⟨e, hks, rfl⟩ := he0
    have r1 : (Sum.inr e.1 : Key) = kv.1 := r1
    rw [← r1] at h1
    rcases keyIs_shape h1 with ⟨i, t, e1, _⟩ | ⟨y, t, e1, e2⟩
    · cases e1
    · cases e1
      obtain ⟨u, e3⟩ : ∃ u, kv.2 = Value.str e.2 u := r2
      refine ⟨e, t, u, hks, ?_⟩
      rw [hg, e2, h2, e3]
  have hob : (h'.push { cls := .type "list", data := .seq (as.map Value.ref).toArray }).get? h'.objs.size = some (seqObj "list" (as.map Value.ref).toArray 0) := Heap.get?_push_size _ rfl
  have kb : ∀ b o, s.heap.get? b = some o → (h'.push { cls := .type "list", data := .seq (as.map Value.ref).toArray }).get? b = some o := fun b o e => Heap.get?_push_of_some _ (hk b o e)
  have ne0 : ∀ b o, h'.get? b = some o → b ≠ h'.objs.size := fun b o e => Nat.ne_of_lt (Heap.lt_size e)
  have ka0 : ∀ b o, h'.get? b = some o → (h'.push { cls := .type "list", data := .seq (as.map Value.ref).toArray }).get? b = some o := fun b o e => Heap.get?_push_of_some _ e
  generalize h'.push { cls := .type "list", data := .seq (as.map Value.ref).toArray } = h2 at hob kb ka0 ⊢
  generalize hm : TS.midHeap h2 h'.objs.size (as.map Value.ref) = mid
  have pin : ∀ (j : Nat) (b : Addr), as[j]? = some b → ∃ e : Str × Str, ks[j]? = some e ∧ PairAt mid (.ref b) e.1 e.2 := by
    intro j b hj
    obtain ⟨e, t, u, he, hg⟩ := pr j b hj
    refine ⟨e, he, b, t, u, rfl, ⟨{ cls := .type "tuple", data := .seq #[Value.str e.1 t, Value.str e.2 u] }, ?_, rfl, 0, rfl⟩⟩
    rw [← hm]
    exact TS.midHeap_old (ne0 _ _ hg) (ka0 _ _ hg)
  have tx : ∀ (j : Nat) (b : Addr) (e : Str × Str), as[j]? = some b → ks[j]? = some e → txAt mid (.ref b) = e.1 := by
    intro j b e hj he
    obtain ⟨e', he', hp'⟩ := pin j b hj
    have ee : e' = e := Option.some.inj (he'.symm.trans he)
    rw [← ee]
    exact hp'.tx
  have at_ : ∀ v ∈ as.map Value.ref, ∃ (j : Nat) (b : Addr) (e : Str × Str), v = .ref b ∧ as[j]? = some b ∧ ks[j]? = some e := by
    intro v hv'
    obtain ⟨b, hb, rfl⟩ := List.mem_map.mp hv'
    obtain ⟨j, hj⟩ := List.mem_iff_getElem?.mp hb
    obtain ⟨e, _, _, he, _⟩ := pr j b hj
    exact ⟨j, b, e, rfl, hj, he⟩
  let M : Str → Str := fun y => ((ks.find? fun e => decide (e.1 = y)).map (·.2)).getD Str.empty
  have hM : ∀ (j : Nat) (e : Str × Str), ks[j]? = some e → M e.1 = e.2 := by
    intro j e he
    have hndk : (ks.map (·.1)).Nodup := by
      have e3 := rel.keys
      rw [List.map_map] at e3
      have e2 : ks.map (fun e => (Sum.inr e.1 : Key)) = vs.map (·.1) := e3
      rw [← e2] at hnd
      exact (List.pairwise_map.mp hnd).imp (fun {x y} h => fun z => h (by rw [z])) |> List.pairwise_map.mpr
    have hmem : e ∈ ks := List.mem_of_getElem? he
    have hf := find_key hndk hmem
    show ((ks.find? fun f => decide (f.1 = e.1)).map (·.2)).getD Str.empty = e.2
    rw [hf]
    rfl
  refine wpAny_call_entry PyProof.Rows.slot_list_sort ⟨_, hob, rfl⟩ PyProof.Rows.entry_list_sort
    (SK.plain_sort (s := { s with heap := h2, toks := tk }) (r := fun v => ρ (txAt mid v)) hob (by rw [List.length_map]; omega) (fun h2' Qk hQk => ?_) fun ps out o1 o2 o3 => ⟨.none, rfl, ?_⟩) (PyProof.Rows.args_list_sort _)
  · have hQk' : ∀ κ, TS.Cmp X.prog X.w X.A.in1.in1 { s with heap := mid, toks := tk } κ (PyProof.Rows.pairsOf (as.map Value.ref)) (fun v => ρ (txAt mid v)) → Qk κ { s with heap := mid, toks := tk } := by
      rw [← hm]
      rw [← hm] at hQk
      exact hQk
    show wpAny _ _ _ _ _ { s with heap := TS.midHeap h2 h'.objs.size (as.map Value.ref), toks := tk }
    rw [hm]
    refine kind_ss (s := { s with heap := mid, toks := tk }) (ρ := ρ) (M := M) h2' (fun v hv' => ?_) (fun v hv' u hu' => ?_) Qk hQk'
    · obtain ⟨j, b, e, rfl, hj, he⟩ := at_ v hv'
      obtain ⟨e', he', hp'⟩ := pin j b hj
      have ee : e' = e := Option.some.inj (he'.symm.trans he)
      subst ee
      refine ⟨e'.1, ?_⟩
      rw [hM j e' he]
      exact hp'
    · obtain ⟨j, b, e, rfl, hj, he⟩ := at_ v hv'
      obtain ⟨j2, b2, e2, rfl, hj2, he2⟩ := at_ u hu'
      show decide ((txAt mid (.ref b)).cps.toList < (txAt mid (.ref b2)).cps.toList) = decide (ρ (txAt mid (.ref b)) < ρ (txAt mid (.ref b2)))
      rw [tx j b e hj he, tx j2 b2 e2 hj2 he2]
      exact hρ e (List.mem_of_getElem? he) e2 (List.mem_of_getElem? he2)
  · show EP X pins σ Q (.ref h'.objs.size) { s with heap := sortedHeap h2 h'.objs.size (as.map Value.ref) out, toks := tk }
    obtain ⟨zs, pz, ez⟩ := perm_lift (fun z : Addr × Str × Str => (Value.ref z.1, Value.ref z.1)) o2 (as.zip ks) (zip_self Value.ref as ks lak)
    have idx : ∀ z ∈ zs, ∃ j : Nat, as[j]? = some z.1 ∧ ks[j]? = some z.2 := by
      intro z' hz'
      obtain ⟨j, hj⟩ := List.mem_iff_getElem?.mp (pz.mem_iff.mp hz')
      exact ⟨j, List.getElem?_zip_eq_some.mp hj⟩
    have hout : out.toList = zs.map fun z => Value.ref z.1 := by
      rw [o1, ← ez, List.map_map]
      rfl
    have hperm : (zs.map (·.2)).Perm ks := by
      have e := pz.map (·.2)
      rw [List.map_snd_zip (by rw [lak]; exact Nat.le_refl _)] at e
      exact e
    have hsort : (zs.map (·.2)).Pairwise (fun e f => ρ e.1 ≤ ρ f.1) := by
      rw [← ez, List.pairwise_map] at o3
      rw [List.pairwise_map]
      refine List.Pairwise.imp_of_mem (fun {x y} hx hy h => ?_) o3
      obtain ⟨j, j1, j2⟩ := idx x hx
      obtain ⟨i, i1, i2⟩ := idx y hy
      have h3 : ρ (txAt mid (.ref x.1)) ≤ ρ (txAt mid (.ref y.1)) := h
      rw [tx j _ _ j1 j2, tx i _ _ i1 i2] at h3
      exact h3
    obtain ⟨H2, I3, g, qt⟩ := takeO (s := s) (h' := h') (tk := tk) (P := fun b ho => ∃ (j : Nat) (e : Str × Str) (o : Obj), as[j]? = some b ∧ ks[j]? = some e ∧ o.dict = none ∧ ho = .frz o (.tup [V.str e.1, V.str e.2])) I as H (I.kept (t' := tk) hk) nd fun b hb => by
      obtain ⟨j, hj⟩ := List.mem_iff_getElem?.mp hb
      obtain ⟨e, t, u, he, hg⟩ := pr j b hj
      have hbl : s.heap.objs.size ≤ b := Nat.le_of_lt (hG.above b hb)
      exact ⟨hbl, I.hok.fresh hbl, _, ⟨j, e, _, hj, he, rfl, rfl⟩, fun H3 => ⟨hg, by rw [sizeLine_eq]; show 2 ≤ 16777216; omega, [Value.str e.1 t, Value.str e.2 u], .cons ⟨t, rfl⟩ (.cons ⟨u, rfl⟩ .nil), ⟨_, hg, rfl, 0, rfl⟩⟩⟩
    have kF : ∀ b o, h'.get? b = some o → (sortedHeap h2 h'.objs.size (as.map Value.ref) out).get? b = some o := fun b o e => (PyProof.Rows.sortedHeap_old (ne0 b o e) (Heap.lt_size (ka0 b o e))).trans (ka0 b o e)
    obtain ⟨eF, heF⟩ := PyProof.Rows.sortedHeap_at (vs := as.map Value.ref) (out := out) hob
    have hn0 : H2 h'.objs.size = none := I3.hok.fresh (Nat.le_refl _)
    have hlen : (zs.map fun z => V.ref z.1).length ≤ sizeLine := by
      have e := hperm.length_eq
      rw [List.length_map] at e
      rw [List.length_map, sizeLine_eq]
      omega
    have rv : Vals (zs.map fun z => V.ref z.1) out.toList := by
      rw [hout]
      exact vals_maps (fun z : Addr × Str × Str => V.ref z.1) (fun z => Value.ref z.1) zs fun _ _ => rfl
    have I4 := I3.laid (t' := tk) (a := h'.objs.size) (o := .lst (zs.map fun z => V.ref z.1)) (h' := sortedHeap h2 h'.objs.size (as.map Value.ref) out) kF (Nat.le_refl _) ⟨hlen, out.toList, eF, rv, heF⟩
    refine ⟨.ref h'.objs.size, _, I4, rfl, q H2 h'.objs.size zs g hn0 hperm hsort fun z' hz' => ?_⟩
    obtain ⟨i, i1, i2⟩ := idx z' hz'
    obtain ⟨vs', ⟨j, e, o, j1, j2, od, ev⟩, hH⟩ := qt z'.1 (List.mem_of_getElem? i1)
    have eij : i = j := (List.getElem?_inj (List.getElem?_eq_some_iff.mp i1).1 nd).mp (i1.trans j1.symm)
    subst eij
    have ee : e = z'.2 := Option.some.inj (j2.symm.trans i2)
    rw [ev, ee] at hH
    exact ⟨I.hok.fresh (Nat.le_of_lt (hG.above z'.1 (List.mem_of_getElem? i1))), o, od, hH⟩
end
end SIt

/-! Mi16: sorted(d.items()) in the mirror. -/
namespace Mi
open PySem PySem.Spec PyProof.Rows L2
def prsOf : PD → Option (List (Str × Str))
  | [] => some []
  | (.str y, .str z) :: r => (prsOf r).map ((y, z) :: ·)
  | _ :: _ => none
def leI (a b : Str × Str) : Bool := leS a.1 b.1
def sortI (ks : List (Str × Str)) : List (Str × Str) := ks.mergeSort leI
theorem prs_rep {K : PySem.W.Frag} {F : Hp} {ρ : List Addr} : ∀ {ps : PD} {kvs : List (Key × V)} {ks : List (Str × Str)}, RepD K F ρ ps kvs → prsOf ps = some ks → kvs = ks.map SIt.entS ∧ ∀ e ∈ ks, e.2.length ≤ sizeLine
  | [], kvs, ks, r, h => by
    simp only [RepD] at r
    simp only [prsOf, Option.some.injEq] at h
    subst r h
    exact ⟨rfl, fun _ h => by cases h⟩
  | (k, x) :: ps, kvs, ks, r, h => by
    simp only [RepD] at r
    obtain ⟨kk, v, t, rfl, hk, r1, r2⟩ := r
    unfold prsOf at h
    split at h
    · rename_i heq; cases heq
    · rename_i y z r0 heq
      cases heq
      rw [Option.map_eq_some_iff] at h
      obtain ⟨qs, hq, rfl⟩ := h
      obtain ⟨rfl, h2⟩ := prs_rep r2 hq
      simp only [keyOf, Option.some.injEq] at hk
      simp only [Rep] at r1
      obtain ⟨rfl, hz⟩ := r1
      subst hk
      refine ⟨rfl, fun e he => ?_⟩
      rcases List.mem_cons.mp he with rfl | he
      · exact hz
      · exact h2 e he
    · cases h
/-- how many texts lie below -/
def rank (ks : List (Str × Str)) (z : Str) : Int := ((ks.countP fun e => decide (e.1.cps.toList < z.cps.toList) : Nat) : Int)
theorem countP_lt {α : Type} {p q : α → Bool} : ∀ {l : List α}, (∀ x ∈ l, p x = true → q x = true) → (∃ x ∈ l, q x = true ∧ p x = false) → l.countP p < l.countP q
  | [], _, h => by obtain ⟨x, hx, _⟩ := h; cases hx
  | y :: l, h1, h2 => by
    have mono : l.countP p ≤ l.countP q := List.countP_mono_left fun x hx => h1 x (List.mem_cons_of_mem _ hx)
    obtain ⟨x, hx, hq, hp⟩ := h2
    rw [List.countP_cons, List.countP_cons]
    rcases List.mem_cons.mp hx with rfl | hx
    · simp only [hq, hp, if_true, Bool.false_eq_true, if_false]
      omega
    · have ih := countP_lt (p := p) (q := q) (fun x hx => h1 x (List.mem_cons_of_mem _ hx)) ⟨x, hx, hq, hp⟩
      have h3 := h1 y List.mem_cons_self
      cases hpy : p y with
      | true => simp only [h3 hpy, if_true]; omega
      | false =>
        simp only [Bool.false_eq_true, if_false]
        omega
theorem rank_ok {ks : List (Str × Str)} {e f : Str × Str} (he : e ∈ ks) (hf : f ∈ ks) : decide (e.1.cps.toList < f.1.cps.toList) = decide (rank ks e.1 < rank ks f.1) := by
  by_cases h : e.1.cps.toList < f.1.cps.toList
  · have : rank ks e.1 < rank ks f.1 := by
      unfold rank
      have := countP_lt (l := ks) (p := fun g => decide (g.1.cps.toList < e.1.cps.toList)) (q := fun g => decide (g.1.cps.toList < f.1.cps.toList)) (fun x _ hx => by
        simp only [decide_eq_true_eq] at hx ⊢
        exact List.lt_trans hx h) ⟨e, he, by simpa using h, by simp⟩
      omega
    rw [decide_eq_true h, decide_eq_true this]
  · have : ¬ rank ks e.1 < rank ks f.1 := by
      unfold rank
      have : ks.countP (fun g => decide (g.1.cps.toList < f.1.cps.toList)) ≤ ks.countP (fun g => decide (g.1.cps.toList < e.1.cps.toList)) := List.countP_mono_left fun x _ hx => by
        simp only [decide_eq_true_eq] at hx ⊢
        exact Classical.byContradiction fun hn => h (List.lt_of_le_of_lt (List.not_lt.mp hn) hx)
      omega
    rw [decide_eq_false h, decide_eq_false this]
theorem sortI_perm (ks : List (Str × Str)) : (sortI ks).Perm ks := List.mergeSort_perm _ _
theorem sortI_eq {ks qs : List (Str × Str)} (hn : (ks.map (·.1)).Nodup) (hp : qs.Perm ks) (hs : qs.Pairwise fun e f => rank ks e.1 ≤ rank ks f.1) : qs = sortI ks := by
  have h1 : qs.Pairwise fun e f => leI e f = true := by
    refine List.Pairwise.imp_of_mem (fun {x y} hx hy h => ?_) hs
    have h2 := rank_ok (hp.mem_iff.mp hy) (hp.mem_iff.mp hx)
    rw [decide_eq_false (by omega : ¬ rank ks y.1 < rank ks x.1)] at h2
    show leS x.1 y.1 = true
    rw [leS_iff]
    exact List.not_lt.mp (of_decide_eq_false h2)
  have h2 : (sortI ks).Pairwise fun e f => leI e f = true := List.pairwise_mergeSort (fun a b c => leS_trans a.1 b.1 c.1) (fun a b => leS_total a.1 b.1) ks
  refine List.Perm.eq_of_pairwise (fun a b ha hb g1 g2 => ?_) h1 h2 (hp.trans (sortI_perm ks).symm)
  have e : a.1 = b.1 := leS_anti g1 g2
  have ma := hp.mem_iff.mp ha
  have mb := (sortI_perm ks).mem_iff.mp hb
  have fa := SIt.find_key hn ma
  have fb := SIt.find_key hn mb
  rw [e] at fa
  exact Option.some.inj (fa.symm.trans fb)
theorem SimS.ext {K : PySem.W.Frag} {W : Wd} {st : Sto} {H H' : Hp} (ss : SimS K W st H) (h : ∀ b o, H b = some o → H' b = some o) : Le W H W H' ∧ SimS K W st H' := by
  have hF : ∀ a o, Fz W H a = some o → Fz W H' a = some o := fun a o e => by
    obtain ⟨h1, h2, h3⟩ := Fz_some.mp e
    exact Fz_some.mpr ⟨h1, h2, h a o h3⟩
  have keep : ∀ a ∈ W.hid, H' a = H a := fun a ha => by
    cases e : H a with
    | none => exact absurd e (ss.hs a ha)
    | some o => exact h a o e
  refine ⟨⟨List.prefix_refl _, fun _ h => h, hF, keep, fun a _ od u e => h a _ e⟩, ss.len, ss.nd, ss.dj, fun a ha => by rw [keep a ha]; exact ss.hs a ha, fun i m a e1 e2 => ?_⟩
  obtain ⟨o, ho⟩ := ss.some_ρ (List.mem_of_getElem? e2)
  exact (ss.ob i m a e1 e2).mono hF (List.prefix_refl _) ((h a o ho).trans ho.symm)
def okI (ks : List (Str × Str)) : Bool := decide (ks.length < 64) && ks.all fun e => decide (e.1.length ≤ sizeLine)
/-- sorted(d.items()) -/
def mSortItems (m : M PV) : M (List PV) := m.bind fun x => fun _ st => match x with
  | .ref r => match st[r]? with
    | some (.dic ps) => match prsOf ps with
      | some ks => if okI ks then some (.ok ((sortI ks).map fun e => .tup [.str e.1, .str e.2]) st) else none
      | none => none
    | _ => none
  | _ => none
theorem bindEF_at {K : PySem.W.Frag} {E : EX} {W : Wd} {env : MEnv} {st : Sto} {σ : L2.St} {H : Hp} {Q : VK} {ma : M PV} {f : PV → M (List PV)} {S : VK} (sl : SlotR K W H env σ) (ss : SimS K W st H) (h : tMFr K (E σ) W H Q (M.bind ma f env st))
    (k : ∀ x u st1 W1 H1, Le W H W1 H1 → SlotR K W1 H1 env σ → SimS K W1 st1 H1 → Rp K W1 H1 x u → tMFr K (E σ) W1 H1 Q (f x env st1) → S u H1) : tM K E ma σ H S := by
  refine ⟨W, env, st, sl, ss, ?_⟩
  unfold M.bind at h
  cases e : ma env st with
  | none => rw [e] at h; exact h
  | some r =>
    rw [e] at h
    cases r with
    | exc x st1 => exact h
    | ok x st1 => exact fun u H' W' l s r => k x u st1 W' H' l (sl.le l) s r (tMFr.le l h)
section
variable {X : Cx} {E : EX} {o : Expr} {p apos cpos pos : Pos}
theorem f_sortItems {m : M PV} (hc : X.calm = true) (hg : Gl X "sorted") (hm : X.mg "sorted" = none) (ho : ME X E o m)
    (hbase : attributeBase o "items" X.env (eval o X.env) = eval o X.env := by rfl) (hline : (apos.endLine == cpos.line) = true := by rfl)
    (he : starEach [.Call (.Attribute o "items" apos) [] [] cpos] X.env = (false, eval (.Call (.Attribute o "items" apos) [] [] cpos) X.env) :: starEach [] X.env := by rfl) :
    MF X E (.Call (.Name "sorted" p) [.Call (.Attribute o "items" apos) [] [] cpos] [] pos) (mSortItems m) := by
  have pi : PE X (.Call (.Attribute o "items" apos) [] [] cpos) (tBM0 X.K "dict" SIt.rItemsK (tM X.K E m)) := pe_bm0 PySem.F.plainAttrs_dict PySem.F.slot_dict_items PySem.F.type_dict_items SIt.mt_itemsK ho hbase hline
  refine peW (pe_callB (SIt.cr_sortItK hc) hg hm (by decide +kernel) (pa_cons pi pa_nil he) (by decide) (by decide) he rfl) fun σ H Q q => ?_
  obtain ⟨W, env, st, sl, ss, q⟩ := q
  refine bindEF_at sl ss q fun x u st1 W1 H1 l1 sl1 ss1 rx q1 => ?_
  split at q1
  · rename_i r
    split at q1
    · rename_i ps es
      split at q1
      · rename_i ks ek
        split at q1
        · rename_i hok
          obtain ⟨a, rfl, ha⟩ : ∃ a, u = .ref a ∧ W1.ρ[r]? = some a := by simpa only [Rp, Rep] using rx
          obtain ⟨kvs, h1, h2, h3⟩ := ss1.ob r _ a es ha
          obtain ⟨rfl, hv⟩ := prs_rep h2 ek
          simp only [okI, Bool.and_eq_true, decide_eq_true_eq, List.all_eq_true] at hok
          refine ⟨.inr (.inr (.inl ⟨rfl, .inl ⟨_, h1⟩⟩)), a, _, rfl, rfl, h1, fun p hp => ?_⟩
          have hpa : a ≠ p := fun z => by rw [z, hp] at h1; cases h1
          refine ⟨p, a, ks, rank ks, rfl, upd_same, by rw [upd_ne hpa]; exact h1, hok.1, fun e he f hf => rank_ok he hf, fun hn H2 l qs hext hl hpm hsr hz => ?_⟩
          have hext1 : ∀ b o, H1 b = some o → H2 b = some o := fun b o e => hext b o (by rw [upd_ne (ne_of_none e hp)]; exact e)
          obtain ⟨l2, ss2⟩ := ss1.ext hext1
          have eq := sortI_eq hn hpm hsr
          have hmem : ∀ z ∈ qs, z.2 ∈ ks := fun z hz => hpm.mem_iff.mp (List.mem_map_of_mem hz)
          have rep : ∀ zs : List (Addr × Str × Str), (∀ z ∈ zs, z ∈ qs) → RepL X.K (Fz W1 H2) W1.ρ ((zs.map (·.2)).map fun e => PV.tup [.str e.1, .str e.2]) (zs.map fun z => V.ref z.1) := by
            intro zs
            induction zs with
            | nil => intro _; simp [RepL]
            | cons z zs ih =>
              intro hsub
              obtain ⟨g1, ob, od, g2⟩ := hz z (hsub z List.mem_cons_self)
              have g3 : H1 z.1 = none := by
                by_cases e : z.1 = p
                · rw [e]; exact hp
                · rw [upd_ne e] at g1; exact g1
              have fz : Fz W1 H2 z.1 = some (.frz ob (.tup [.str z.2.1, .str z.2.2])) := Fz_some.mpr ⟨ss1.new_ρ g3, ss1.new_hid g3, g2⟩
              have mz := hmem z (hsub z List.mem_cons_self)
              simp only [List.map_cons, RepL, Rep]
              refine ⟨_, _, rfl, ⟨z.1, [.str z.2.1, .str z.2.2], rfl, .inl ⟨ob, fz, od⟩, ⟨_, _, rfl, ⟨rfl, hok.2 _ mz⟩, _, _, rfl, ⟨rfl, hv _ mz⟩, rfl⟩, by simp; exact Nat.le_trans (by decide : 2 ≤ 1000) (by decide)⟩, ih fun y hy => hsub y (List.mem_cons_of_mem _ hy)⟩
          have R := rep qs fun _ h => h
          rw [eq] at R
          refine q1 l _ H2 W1 l2 ss2 R ?_ hl
          rw [List.length_map, (sortI_perm ks).length_eq]
          exact small64 hok.1
        · exact q1.elim
      · exact q1.elim
    · exact q1.elim
  · exact q1.elim
end
end Mi

/-! Mi17: list(d). -/
namespace Mi
open PySem PySem.Spec PyProof.Rows L2
/-- list(x): also a dict's keys -/
def keyOk : PV → Bool
  | .int _ => true
  | .str z => decide (z.length ≤ sizeLine)
  | _ => false
def oListD : OF := fun xs st => match xs with
  | [x] => match dictOf st x with
    | some ps => if ps.all fun p => keyOk p.1 then some (ps.map (·.1)) else none
    | none => oList [x] st
  | xs => oList xs st
theorem keys_rep {K : PySem.W.Frag} {F : Hp} {ρ : List Addr} : ∀ {ps : PD} {kvs : List (Key × V)}, RepD K F ρ ps kvs → (ps.all fun p => keyOk p.1) = true → RepL K F ρ (ps.map (·.1)) (kvs.map fun kv => kV kv.1)
  | [], kvs, r, h => by
    simp only [RepD] at r
    subst r
    simp [RepL]
  | (k, x) :: ps, kvs, r, h => by
    simp only [RepD] at r
    obtain ⟨kk, v, t, rfl, hk, r1, r2⟩ := r
    simp only [List.all_cons, Bool.and_eq_true] at h
    simp only [List.map_cons, RepL]
    refine ⟨_, _, rfl, ?_, keys_rep r2 h.2⟩
    cases k with
    | int i => simp only [keyOf, Option.some.injEq] at hk; subst hk; simp [Rep, kV]
    | str z =>
      simp only [keyOf, Option.some.injEq] at hk
      subst hk
      simp only [Rep]
      exact ⟨rfl, by simpa [keyOk] using h.1⟩
    | _ => simp [keyOf] at hk
section
variable {X : Cx}
theorem c_listD (hc : X.calm = true) : CallR X (.type "list") (rMF X.K oListD) := by
  intro pins s σ H vs us Q I r h
  obtain ⟨W, st, xs, ys, ss, rx, ho, q⟩ := h
  unfold oListD at ho
  split at ho
  · rename_i x
    split at ho
    · rename_i ps ed
      split at ho
      · rename_i hk
        cases ho
        obtain ⟨u, rfl, r1⟩ := rx.one
        obtain ⟨a, ks, rfl, hd, hr, hz⟩ := dict_inv ss r1 ed
        exact call_listD hc pins s σ H _ us Q I r ⟨a, ks, rfl, hd, fun p hp => q p _ H (Le.refl _ _) ss (keys_rep hr hk) (by rw [List.length_map]; exact hz) hp⟩
      · cases ho
    · exact c_list pins s σ H vs us Q I r ⟨W, st, _, ys, ss, rx, ho, q⟩
  · exact c_list pins s σ H vs us Q I r ⟨W, st, _, ys, ss, rx, ho, q⟩
end
/-! ### x = [.. for ..] -/
section
variable {X : Cx} {E : EX} {elt tg iter : Expr} {ifs : List Expr} {scope : Scope} {own : List (Str × Nat)} {pos spos py : Pos} {t : Tg} {mi : M MIt} {mc : M Bool} {me : M PV} {i : Nat} {y : Str}
theorem ms_setLc (hc : X.calm = true) (hN : X.N.Nodup) (hy : X.N[i]? = some y) (hyl : X.env.scope.names.lookup y = some .local) (hi : MI X E tg iter mi) (ok : BlkOk X.N X.env.scope scope own)
    (hg : ∀ (s : Shared) (H : Hp) (C : Addr) (cl : List (Str × Addr)) (fp : List Addr), MG (X.blk s H scope (compEnvC scope cl C X.env) fp) tg t)
    (ht : ∀ (s : Shared) (H : Hp) (C : Addr) (cl : List (Str × Addr)) (fp : List Addr), MTs (X.blk s H scope (compEnvC scope cl C X.env) fp) E00 ifs mc)
    (he : ∀ (s : Shared) (H : Hp) (C : Addr) (cl : List (Str × Addr)) (fp : List Addr), ME (X.blk s H scope (compEnvC scope cl C X.env) fp) E00 elt me)
    (hsw : swapsWith (.ListComp elt [⟨tg, iter, ifs, 0⟩] scope pos) (some (.Name y py)) spos.line X.env = pure true := by rfl)
    (hv : ∀ i ∈ t.slots, i ∈ own.map (·.2) := by decide) (hs : ∀ x, foldedSetIterable iter X.env x = pure x := by intro _; rfl) :
    MSt X E (.Assign [.Name y py] (.ListComp elt [⟨tg, iter, ifs, 0⟩] scope pos) spos) (mSet i (mNew (mLc t mi (own.map (·.2)) mc me))) := by
  refine psW (ps_setLc (g := tTg X.K t) (tt := tMB X.K E00 mc) (te := tM X.K E00 me) hc hN hy hyl hsw hi ok hg ht he hs) fun D σ H q => ?_
  show tLc (tMI X.K E mi) (tTg X.K t) (tMB X.K E00 mc) (tM X.K E00 me) (own.map (·.2)) σ H fun x H1 => D.nx (σ.set i (some x)) H1
  refine lc_body (E := E) hv ?_
  obtain ⟨W, env, st, sl, ss, q⟩ := q
  refine ⟨W, env, st, sl, ss, ?_⟩
  unfold mSet M.bindS mNew M.bind at q
  cases e : mLc t mi (own.map (·.2)) mc me env st with
  | none => rw [e] at q; exact q
  | some r =>
    rw [e] at q
    cases r with
    | exc x st1 => exact fun c d H' W' l s rx => q σ c d H' W' l (sl.le l) s rx
    | ok xs st1 =>
      intro p us H' W' l s r hz hp
      obtain ⟨l2, ss2⟩ := s.new (o := .lst us) hp
      exact q _ _ W' (l.trans l2) ((sl.le (l.trans l2)).set i (new_lst s hp r hz)) ss2
end
end Mi

/-! Mi18: t.index(text), t a tuple. -/
namespace Mi
open PySem PySem.Spec PyProof.Rows L2
section
variable {X : Cx} {E : EX}
theorem sqn_is {K : PySem.W.Frag} {X : Cx} {pins : List (Addr × Obj)} {σ : L2.St} {H : Hp} {s : Shared} {a : Addr} {vs : List V} (I : Inv X pins σ H s) (h : SqN X.K H a vs) :
    s.TypeIs (.ref a) "tuple" ∧ ∀ b, Value.ref a = .ref b → ∃ ob, s.heap.get? b = some ob ∧ ob.dict = none := by
  rcases h with ⟨o, h, d⟩ | ⟨o, its, n, h1, h2, d, h3⟩
  · obtain ⟨e, _, _, _, o', e', hc, _⟩ := I.hok a _ h
    have : o' = o := by rw [e] at e'; exact (Option.some.inj e').symm
    subst this
    exact ⟨⟨o', e, hc⟩, fun b eb => by cases eb; exact ⟨o', e, d⟩⟩
  · have e := I.kIn _ o h1
    exact ⟨⟨o, e, h2⟩, fun b eb => by cases eb; exact ⟨o, e, d⟩⟩
/-- the call of a tuple's method -/
def tBT (K : PySem.W.Frag) (r : V → List V → Hp → VK → Prop) (to : TE) (t : TA) : TE := fun σ H Q => to σ H fun x H1 => (∃ a vs, x = .ref a ∧ SqN K H1 a vs) ∧ t σ H1 fun xs H2 => r x xs H2 Q
theorem pe_bt {o e : Expr} {es : List Expr} {to : TE} {t : TA} {name : Str} {apos cpos : Pos} {id : String} {r : V → List V → Hp → VK → Prop}
    (pa : PlainAttrs "tuple") (slot : Slot "tuple" name id) (hty : typeOf (.builtin id) = pure (.type "method_descriptor")) (hm : MtR X id r) (ho : PE X o to) (ha : PA X (e :: es) t)
    (hbase : attributeBase o name X.env (eval o X.env) = eval o X.env := by rfl)
    (hfew : ((backTo cpos (starEach (e :: es) X.env)).all (fun x => !x.1) && (backToKw cpos (keywordEach [] X.env)).all (fun x => x.1.isSome)
      && decide ((e :: es).length + ([] : List Keyword).length + (if ([] : List Keyword).isEmpty then 0 else 1) < 30)) = true := by rfl)
    (hline : (apos.endLine == cpos.line) = true := by rfl) (hs : starEach (e :: es) X.env = (false, eval e X.env) :: starEach es X.env := by rfl) (hplain : (backTo cpos (starEach es X.env)).any (·.1) = false := by rfl) :
    PE X (.Call (.Attribute o name apos) (e :: es) [] cpos) (tBT X.K r to t) := by
  refine ⟨fun pins s σ H Q I h => ?_⟩
  refine wpAny_Call_method_late hbase hfew hline rfl (thn (ho.run pins s σ H _ I h) fun v s1 ⟨x, H1, I1, r1, ty, q1⟩ => ?_)
  obtain ⟨a, vs, rfl, sq⟩ := ty
  cases r1
  obtain ⟨h1, h2⟩ := sqn_is (K := X.K) I1 sq
  refine ⟨"tuple", id, pa, slot, hty, h1, h2, ?_⟩
  have hA := ha.run cpos pins s1 σ H1 _ I1 q1
  rw [hs] at hA ⊢
  refine Calls.callWith_builtin (by show (false || (backTo cpos (starEach es X.env)).any (·.1)) = false; rw [hplain] <;> rfl) (Calls.evalArgs_plain ?_)
  exact thn hA fun us s2 ⟨vs, H2, I2, r2, q2⟩ => hm pins s2 σ H2 (.ref a) vs (.ref a) us Q I2 rfl r2 q2
def ixOf (z : Str) : List Str → Option Nat
  | [] => none
  | y :: ys => if y = z then some 0 else (ixOf z ys).map (· + 1)
theorem ixOf_spec {z : Str} : ∀ {ys : List Str} {j : Nat}, ixOf z ys = some j → ys[j]? = some z ∧ ∀ m, m < j → ys[m]? ≠ some z
  | [], j, h => by simp [ixOf] at h
  | y :: ys, j, h => by
    unfold ixOf at h
    split at h
    · rename_i e
      cases h
      exact ⟨by simp [e], fun m hm => absurd hm (Nat.not_lt_zero m)⟩
    · rename_i ne
      rw [Option.map_eq_some_iff] at h
      obtain ⟨i, hi, rfl⟩ := h
      obtain ⟨h1, h2⟩ := ixOf_spec hi
      refine ⟨by simpa using h1, fun m hm => ?_⟩
      cases m with
      | zero => simpa using ne
      | succ m => simpa using h2 m (Nat.lt_of_succ_lt_succ hm)
def oIdx : PV → List PV → Option PV := fun x ys => match x, ys with
  | .tup xs, [.str z] => match strsOf xs with
    | some ys => (ixOf z ys).map fun j => .int (j : Nat)
    | none => none
  | _, _ => none
/-- t.index(e) -/
def mIdx (m : M PV) (a : M (List PV)) : M PV := m.bind fun x => fun env st => if (asT x).isSome then M.bind a (fun ys => fun _ st => (oIdx x ys).map fun r => .ok r st) env st else none
theorem m_idx {o e : Expr} {es : List Expr} {apos cpos : Pos} {m : M PV} {a : M (List PV)} (ho : ME X E o m) (ha : MA X E (e :: es) a)
    (hbase : attributeBase o "index" X.env (eval o X.env) = eval o X.env := by rfl)
    (hfew : ((backTo cpos (starEach (e :: es) X.env)).all (fun x => !x.1) && (backToKw cpos (keywordEach [] X.env)).all (fun x => x.1.isSome)
      && decide ((e :: es).length + ([] : List Keyword).length + (if ([] : List Keyword).isEmpty then 0 else 1) < 30)) = true := by rfl)
    (hline : (apos.endLine == cpos.line) = true := by rfl) (hs : starEach (e :: es) X.env = (false, eval e X.env) :: starEach es X.env := by rfl) (hplain : (backTo cpos (starEach es X.env)).any (·.1) = false := by rfl) :
    ME X E (.Call (.Attribute o "index" apos) (e :: es) [] cpos) (mIdx m a) := by
  refine peW (pe_bt PySem.F.plainAttrs_tuple PySem.F.slot_tuple_index PySem.F.type_tuple_index mt_tup_index ho ha hbase hfew hline hs hplain) fun σ H Q q => ?_
  obtain ⟨W, env, st, sl, ss, q⟩ := q
  refine bind_at sl ss q fun x u st1 W1 H1 l1 sl1 ss1 rx q1 => ?_
  split at q1
  · rename_i hc
    obtain ⟨xs, ex⟩ := Option.isSome_iff_exists.mp hc
    obtain ⟨p, vs, rfl, sq, rl, hz⟩ := asN_inv rx ex
    refine ⟨⟨p, vs, rfl, sq⟩, ?_⟩
    refine bindL_at sl1 ss1 q1 fun ys us st2 W2 H2 l2 sl2 ss2 rxs q2 => ?_
    cases eo : oIdx x ys with
    | none => rw [eo] at q2; exact q2.elim
    | some r =>
      rw [eo] at q2
      unfold oIdx at eo
      split at eo
      · rename_i zs z
        split at eo
        · rename_i ts et
          rw [Option.map_eq_some_iff] at eo
          obtain ⟨j, hj, rfl⟩ := eo
          obtain ⟨p2, vs2, e2, sq2, rl2, _⟩ := asN_inv (rx.le l2) (xs := zs) rfl
          cases e2
          obtain ⟨w, rfl, rw1⟩ := rxs.one
          obtain ⟨rfl, _⟩ := str_inv rw1
          have ev := (strs_vals (by rw [strsOf_eq et] at rl2; exact rl2)).1
          obtain ⟨h1, h2⟩ := ixOf_spec hj
          exact ⟨p, ts, z, j, rfl, rfl, by rw [← ev]; exact sq2.t, h1, h2, q2 _ H2 W2 (Le.refl _ _) ss2 rp_int⟩
        · cases eo
      · cases eo
  · exact q1.elim
end
end Mi

/-! Mi19: dicts that are the same; dicts shown. -/
namespace Mi
open PySem PySem.Spec PyProof.Rows L2
def sameF : PV → PV → Bool
  | .non, .non => true
  | .bl a, .bl b => a == b
  | .int i, .int j => decide (i = j)
  | .str x, .str y => decide (x = y)
  | _, _ => false
theorem sameF_rep {K : PySem.W.Frag} {F : Hp} {ρ : List Addr} {x y : PV} {u v : V} (h : sameF x y = true) (rx : Rep K F ρ x u) (ry : Rep K F ρ y v) : u = v ∧ flatB u = true := by
  unfold sameF at h
  split at h
  · simp only [Rep] at rx ry
    subst rx ry
    exact ⟨rfl, rfl⟩
  · simp only [Rep] at rx ry
    subst rx ry
    simp only [beq_iff_eq] at h
    subst h
    exact ⟨rfl, rfl⟩
  · simp only [Rep] at rx ry
    subst rx ry
    simp only [decide_eq_true_eq] at h
    subst h
    exact ⟨rfl, rfl⟩
  · simp only [Rep] at rx ry
    obtain ⟨rfl, _⟩ := rx
    obtain ⟨rfl, _⟩ := ry
    simp only [decide_eq_true_eq] at h
    subst h
    exact ⟨rfl, rfl⟩
  · cases h
/-- the same dict, whatever the order: each item of the one is in the other -/
def inD (qs : PD) (p : PV × PV) : Bool := match keyOf p.1 with
  | some k => match valP qs k with
    | some y => sameF p.2 y
    | none => false
  | none => false
def sameD (ps qs : PD) : Bool := ps.length == qs.length && ps.all (inD qs)
theorem RepD.len' {K : PySem.W.Frag} {F : Hp} {ρ : List Addr} : ∀ {ps : PD} {ks : List (Key × V)}, RepD K F ρ ps ks → ks.length = ps.length
  | [], ks, r => by
    simp only [RepD] at r
    subst r; rfl
  | (k, x) :: ps, ks, r => by
    simp only [RepD] at r
    obtain ⟨kk, v, t, rfl, _, _, r2⟩ := r
    simp only [List.length_cons, RepD.len' r2]
theorem sameD_all {K : PySem.W.Frag} {F : Hp} {ρ : List Addr} {qs : PD} {ls : List (Key × V)} (rq : RepD K F ρ qs ls) : ∀ {ps : PD} {ks : List (Key × V)}, RepD K F ρ ps ks → ps.all (inD qs) = true → ∀ p ∈ ks, valV ls p.1 = some p.2 ∧ flatB p.2 = true
  | [], ks, r, _ => by
    simp only [RepD] at r
    subst r
    intro p hp
    simp at hp
  | (k, x) :: ps, ks, r, h => by
    simp only [RepD] at r
    obtain ⟨kk, v, t, rfl, hk, r1, r2⟩ := r
    simp only [List.all_cons, Bool.and_eq_true] at h
    intro p hp
    rcases List.mem_cons.mp hp with rfl | hp
    · have h1 := h.1
      unfold inD at h1
      simp only [hk] at h1
      rcases RepD.val kk rq with ⟨e1, _⟩ | ⟨y, w, e1, e2, r3, _⟩
      · rw [e1] at h1; cases h1
      · rw [e1] at h1
        obtain ⟨e, hf⟩ := sameF_rep h1 r1 r3
        exact ⟨by rw [e2, e], hf⟩
    · exact sameD_all rq r2 h.2 p hp
/-- x == y, where both are dicts that are the same; else as before -/
def bothD (st : Sto) (x y : PV) : Option (PD × PD) := match dictOf st x, dictOf st y with
  | some ps, some qs => some (ps, qs)
  | _, _ => none
def oEqX : O2 := fun x y st => match bothD st x y with
  | some (ps, qs) => if sameD ps qs then some (.bl true) else none
  | none => oEq x y st
def oNeX : O2 := fun x y st => match bothD st x y with
  | some (ps, qs) => if sameD ps qs then some (.bl false) else none
  | none => oNe x y st
section
variable {X : Cx}
theorem both_inv {K : PySem.W.Frag} {W : Wd} {st : Sto} {H : Hp} {x y : PV} {u v : V} {ps qs : PD} (ss : SimS K W st H) (hx : Rp K W H x u) (hy : Rp K W H y v) (h : bothD st x y = some (ps, qs)) (hs : sameD ps qs = true) :
    ∃ a b ks ls, u = .ref a ∧ v = .ref b ∧ Rd H a (.dK ks) ∧ Rd H b (.dK ls) ∧ ks.length = ls.length ∧ ∀ p ∈ ks, valV ls p.1 = some p.2 ∧ flatB p.2 = true := by
  unfold bothD at h
  split at h
  · rename_i ps' qs' e1 e2
    cases h
    obtain ⟨a, ks, rfl, h1, r1, _⟩ := dict_inv ss hx e1
    obtain ⟨b, ls, rfl, h2, r2, _⟩ := dict_inv ss hy e2
    simp only [sameD, Bool.and_eq_true, beq_iff_eq] at hs
    exact ⟨a, b, ks, ls, rfl, rfl, h1, h2, by rw [r1.len', r2.len']; exact hs.1, sameD_all r2 r1 hs.2⟩
  · cases h
theorem op_eqDR (hu : X.A.units < cLine) : OpR X (compareOp .Eq) (fun x y H Q => ∃ a b ks ls, x = .ref a ∧ y = .ref b ∧ Rd H a (.dK ks) ∧ Rd H b (.dK ls) ∧ ks.length = ls.length ∧ (∀ p ∈ ks, valV ls p.1 = some p.2 ∧ flatB p.2 = true) ∧ Q (.bl true) H) := by
  intro pins s σ H x y v u Q I rx ry h
  obtain ⟨a, b, ks, ls, rfl, rfl, ea, eb, hlen, hp, q⟩ := h
  obtain rfl : v = Value.ref a := rx
  obtain rfl : u = Value.ref b := ry
  obtain ⟨_, ya, va, ra, da⟩ := dk_rd I.hok ea
  obtain ⟨_, yb, vb, rb, db⟩ := dk_rd I.hok eb
  have hl : va.length = vb.length := by rw [← ra.length, ← rb.length]; exact hlen
  exact PySem.W.keq_eq (knd := mixKind X.prog X.w) (r := true) ya yb da db hu (fun _ => hits_all rb ra hp) (fin_bl I q (by simp [hl]))
theorem op_neDR (hu : X.A.units < cLine) : OpR X (compareOp .NotEq) (fun x y H Q => ∃ a b ks ls, x = .ref a ∧ y = .ref b ∧ Rd H a (.dK ks) ∧ Rd H b (.dK ls) ∧ ks.length = ls.length ∧ (∀ p ∈ ks, valV ls p.1 = some p.2 ∧ flatB p.2 = true) ∧ Q (.bl false) H) := by
  intro pins s σ H x y v u Q I rx ry h
  obtain ⟨a, b, ks, ls, rfl, rfl, ea, eb, hlen, hp, q⟩ := h
  obtain rfl : v = Value.ref a := rx
  obtain rfl : u = Value.ref b := ry
  obtain ⟨_, ya, va, ra, da⟩ := dk_rd I.hok ea
  obtain ⟨_, yb, vb, rb, db⟩ := dk_rd I.hok eb
  have hl : va.length = vb.length := by rw [← ra.length, ← rb.length]; exact hlen
  exact PySem.W.keq_ne (knd := mixKind X.prog X.w) (r := true) ya yb da db hu (fun _ => hits_all rb ra hp) (fin_bl I q (by simp [hl]))
theorem r_eqX (hu : X.A.units + 66 < cLine) : OpR X (compareOp .Eq) (rM2 X.K oEqX) := by
  intro pins s σ H xv yv v u Q I rx ry h
  obtain ⟨W, st, x, y, z, ss, hx, hy, hz, q⟩ := h
  unfold oEqX at hz
  split at hz
  · rename_i ps qs eb
    split at hz
    · rename_i hs
      cases hz
      obtain ⟨a, b, ks, ls, rfl, rfl, h1, h2, h3, h4⟩ := both_inv ss hx hy eb hs
      exact op_eqDR (by omega) pins s σ H _ _ v u Q I rx ry ⟨a, b, ks, ls, rfl, rfl, h1, h2, h3, h4, q _ H (Le.refl _ _) ss rp_bl⟩
    · cases hz
  · exact r_eq hu pins s σ H xv yv v u Q I rx ry ⟨W, st, x, y, z, ss, hx, hy, hz, q⟩
theorem r_neX (hu : X.A.units + 66 < cLine) : OpR X (compareOp .NotEq) (rM2 X.K oNeX) := by
  intro pins s σ H xv yv v u Q I rx ry h
  obtain ⟨W, st, x, y, z, ss, hx, hy, hz, q⟩ := h
  unfold oNeX at hz
  split at hz
  · rename_i ps qs eb
    split at hz
    · rename_i hs
      cases hz
      obtain ⟨a, b, ks, ls, rfl, rfl, h1, h2, h3, h4⟩ := both_inv ss hx hy eb hs
      exact op_neDR (by omega) pins s σ H _ _ v u Q I rx ry ⟨a, b, ks, ls, rfl, rfl, h1, h2, h3, h4, q _ H (Le.refl _ _) ss rp_bl⟩
    · cases hz
  · exact r_ne hu pins s σ H xv yv v u Q I rx ry ⟨W, st, x, y, z, ss, hx, hy, hz, q⟩
end
/-! ### repr of a dict of plain items -/
def flatP : PV → Option PyData
  | .non => some .none
  | .bl b => some (.bool b)
  | .int i => some (.int i)
  | .str x => some (.str x)
  | _ => none
theorem flat_reads {K : PySem.W.Frag} {F : Hp} {ρ : List Addr} {x : PV} {v : V} {d : PyData} (r : Rep K F ρ x v) (h : flatP x = some d) (hp : Heap) {u : Value} (ru : RelV v u) : Reads hp u d [] := by
  cases x with
  | non =>
    simp only [flatP, Option.some.injEq] at h; subst h
    simp only [Rep] at r; subst r
    cases ru; exact .none
  | bl b =>
    simp only [flatP, Option.some.injEq] at h; subst h
    simp only [Rep] at r; subst r
    cases ru; exact .bool b
  | int i =>
    simp only [flatP, Option.some.injEq] at h; subst h
    simp only [Rep] at r; subst r
    obtain ⟨t, rfl⟩ := ru; exact .int i t
  | str z =>
    simp only [flatP, Option.some.injEq] at h; subst h
    simp only [Rep] at r
    obtain ⟨rfl, _⟩ := r
    obtain ⟨t, rfl⟩ := ru; exact .str z t
  | _ => simp [flatP] at h
def datK : Key → PyData
  | .inl i => .int i
  | .inr x => .str x
def datD : PD → Option (List (PyData × PyData))
  | [] => some []
  | (k, x) :: ps => match keyOf k, flatP x, datD ps with
    | some kk, some d, some ds => some ((datK kk, d) :: ds)
    | _, _, _ => none
theorem dat_reads {P : Program} {w : World} {K : PySem.W.Frag} {F : Hp} {ρ : List Addr} (hp : Heap) : ∀ {ps : PD} {ks : List (Key × V)} {vs : List (Key × Value)} {es : List DictEntry} {ds : List (PyData × PyData)},
    RepD K F ρ ps ks → KV ks vs → Pairs (mixKind P w) es vs → datD ps = some ds → ReadsAll hp (es.map (·.key)) (ds.map (·.1)) [] ∧ ReadsAll hp (es.map (·.val)) (ds.map (·.2)) []
  | [], ks, vs, es, ds, r, kv, pr, h => by
    simp only [RepD] at r
    subst r
    cases kv
    cases pr
    simp only [datD, Option.some.injEq] at h
    subst h
    exact ⟨.nil, .nil⟩
  | (k, x) :: ps, ks, vs, es, ds, r, kv, pr, h => by
    simp only [RepD] at r
    obtain ⟨kk, v, t, rfl, hk, r1, r2⟩ := r
    cases kv with
    | cons h1 h2 =>
      rename_i q vs'
      cases pr with
      | cons p1 p2 p3 =>
        simp only [datD, hk] at h
        split at h
        · rename_i kk' d ds' e1 e2 e3
          cases e1
          cases h
          obtain ⟨i1, i2⟩ := dat_reads hp r2 h2 p3 e3
          obtain ⟨g1, g2⟩ := h1
          simp only at g1 g2
          refine ⟨ReadsAll.cons (as := []) (bs := []) ?_ i1, ReadsAll.cons (as := []) (bs := []) ?_ i2⟩
          · rw [← g1] at p1
            rcases keyIs_shape p1 with ⟨i, t', e4, e5⟩ | ⟨y, t', e4, e5⟩
            · dsimp only
              rw [e4, e5]; exact .int i t'
            · dsimp only
              rw [e4, e5]; exact .str y t'
          · dsimp only
            rw [p2]
            exact flat_reads r1 e2 hp g2
        · cases h
def oReprX : OL := fun xs st => match xs with
  | [x] => match dictOf st x with
    | some ps => match datD ps with
      | some ds => if shows (.dict ds) then some (.str (PyData.dict ds).shown) else none
      | none => none
    | none => oRepr xs st
  | _ => none
theorem c_reprX {X : Cx} (hg : X.A.guards = some []) (hu : X.A.units + 66 < cLine) : CallR X (.builtin "repr") (rML X.K oReprX) := by
  intro pins s σ H vs us Q I r h
  obtain ⟨W, st, xs, z, ss, rx, hz, q⟩ := h
  unfold oReprX at hz
  split at hz
  · rename_i x
    split at hz
    · rename_i ps ed
      split at hz
      · rename_i ds e
        split at hz
        · rename_i hs
          cases hz
          simp only [shows, Bool.and_eq_true, decide_eq_true_eq] at hs
          obtain ⟨⟨hsh, hd⟩, hl⟩ := hs
          obtain ⟨u, rfl, r1⟩ := rx.one
          obtain ⟨a, ks, rfl, h1, r2, _⟩ := dict_inv ss r1 ed
          obtain ⟨w, rfl, rw'⟩ := r.one
          cases rw'
          obtain ⟨_, hsm, va, ra, o, es, ep, ho, hx, hdat, hko, hpr, hnd⟩ := dk_rd I.hok h1
          obtain ⟨i1, i2⟩ := dat_reads s.heap r2 ra hpr e
          have rd : Reads s.heap (.ref a) (.dict ds) (a :: [] ++ []) := Reads.dict ho hx.1 hdat i1 i2
          have hns : sysModules ∉ a :: ([] : List Addr) ++ [] := by
            simp only [List.append_nil, List.mem_singleton]
            intro e2
            rw [← e2] at hsm
            simp at hsm
          exact repr_of_reads' rd hsh (fun _ => hns) hg (by omega) (fun _ _ e => e) (fun h' t tk hk => ⟨.str _, H, I.kept (h' := h') (t' := tk) hk, ⟨_, rfl⟩, q _ H (Le.refl _ _) ss (rp_str hl)⟩) hl
        · cases hz
      · cases hz
    · exact c_repr hg hu pins s σ H vs us Q I r ⟨W, st, _, z, ss, rx, hz, q⟩
  · cases hz
end Mi

/-! Mi20: for k in d, d a changing dict (locked meanwhile). -/
namespace Mi
open PySem PySem.Spec PyProof.Rows L2
/-- the keys of a locked dict -/
def mItK (m : M PV) : M MIt := m.bind fun x => fun _ st => match x with
  | .ref r => match st[r]? with
    | some (.loc ps) => some (.ok ⟨ps.map (·.1), some (.keys r)⟩ st)
    | _ => none
  | _ => none
theorem RepD.key_get {K : PySem.W.Frag} {F : Hp} {ρ : List Addr} : ∀ {ps : PD} {ks : List (Key × V)} {i : Nat} {x : PV}, RepD K F ρ ps ks → (ps.map (·.1))[i]? = some x → ∃ k v, ks[i]? = some (k, v) ∧ keyOf x = some k
  | [], ks, i, x, r, h => by simp at h
  | (k, y) :: ps, ks, 0, x, r, h => by
    simp only [RepD] at r
    obtain ⟨kk, v, t, rfl, hk, _, _⟩ := r
    simp at h
    subst h
    exact ⟨kk, v, rfl, hk⟩
  | (k, y) :: ps, ks, i + 1, x, r, h => by
    simp only [RepD] at r
    obtain ⟨kk, v, t, rfl, hk, _, r2⟩ := r
    obtain ⟨k', v', h1, h2⟩ := RepD.key_get (i := i) r2 (by simpa using h)
    exact ⟨k', v', by simpa using h1, h2⟩
def keysOk (ps : PD) : Bool := ps.all fun p => match p.1 with
  | .str z => decide (z.length ≤ sizeLine)
  | .int _ => true
  | _ => false
theorem Fz_ρ {W : Wd} {H : Hp} {d : Addr} {o : HO} (h : d ∈ W.ρ) : Fz W (upd H d o) = Fz W H := by
  funext a
  unfold Fz
  split
  · rfl
  · rename_i hn
    rw [upd_ne fun e => hn (.inl (by rw [e]; exact h))]
theorem frz_inj {H : Hp} {d : Addr} {o o' : Obj} {u u' : HO} (h : H d = some (.frz o u)) (h' : H d = some (.frz o' u')) : o = o' ∧ u = u' := by
  rw [h] at h'
  cases h'
  exact ⟨rfl, rfl⟩
/-- the store's thing at r anew -/
theorem SimS.reput {K : PySem.W.Frag} {W : Wd} {st : Sto} {H : Hp} {r : Nat} {a : Addr} (ss : SimS K W st H) (ha : W.ρ[r]? = some a) {o : HO} {m : MO} (hm : ObR K W (upd H a o) m a) : SimS K W (st.set r m) (upd H a o) := by
  have hmem : a ∈ W.ρ := List.mem_of_getElem? ha
  have hF : ∀ b o', Fz W H b = some o' → Fz W (upd H a o) b = some o' := fun b o' e => by rw [Fz_ρ hmem]; exact e
  refine ⟨by rw [ss.len, List.length_set], ss.nd, ss.dj, fun b hb => ?_, fun i m' b e1 e2 => ?_⟩
  · rw [upd_ne fun z => ss.dj a hmem (by rw [← z]; exact hb)]
    exact ss.hs b hb
  · by_cases hi : r = i
    · subst hi
      rw [ha] at e2; cases e2
      have hl : r < st.length := by rw [← ss.len]; exact (List.getElem?_eq_some_iff.mp ha).1
      rw [List.getElem?_set_self hl] at e1
      cases e1
      exact hm
    · rw [List.getElem?_set_ne hi] at e1
      have ne : b ≠ a := fun z => by
        subst z
        obtain ⟨g1, k1⟩ := List.getElem?_eq_some_iff.mp ha
        obtain ⟨g2, k2⟩ := List.getElem?_eq_some_iff.mp e2
        exact hi ((List.getElem_inj ss.nd).mp (k1.trans k2.symm))
      exact (ss.ob i m' b e1 e2).mono hF (List.prefix_refl _) (upd_ne ne)
section
variable {X : Cx} {E : EX}
theorem itk_ok {K : PySem.W.Frag} {W : Wd} {H : Hp} {r : Nat} {d : Addr} {o : Obj} {ps : PD} {ks : List (Key × V)} (hd : W.ρ[r]? = some d) (hH : H d = some (.frz o (.dK ks))) (hz : ps.length ≤ sizeLine) (hk : keysOk ps = true) (hl : ks.length = ps.length)
    (hr : ∀ (i : Nat) (x : PV), (ps.map (·.1))[i]? = some x → ∃ k v, ks[i]? = some (k, v) ∧ keyOf x = some k) : ItOk K W H (Itk d o ks) ⟨ps.map (·.1), some (.keys r)⟩ where
  sz := by show (ps.map _).length ≤ _; rw [List.length_map]; exact hz
  go := fun i hi W' H' st' l ss hc => by
    have hi' : i < (ps.map (·.1)).length := hi
    rw [List.length_map] at hi'
    exact ⟨l.loc d (List.mem_of_getElem? hd) _ _ hH, by omega⟩
  yl := fun i x hx W' H' st' v H'' l ss hc y => by
    obtain ⟨e, k, w, h1, ev⟩ := y
    subst e ev
    refine ⟨Le.refl _ _, ss, ?_⟩
    have hx' : (ps.map (·.1))[i]? = some x := hx
    obtain ⟨k', v', h2, h3⟩ := hr i x hx'
    rw [h1] at h2
    cases h2
    rw [List.getElem?_map, Option.map_eq_some_iff] at hx'
    obtain ⟨p, hp, ex⟩ := hx'
    have hm := List.mem_of_getElem? hp
    unfold keysOk at hk
    have hkp := List.all_eq_true.mp hk p hm
    rw [ex] at hkp
    cases x with
    | int j =>
      simp only [keyOf, Option.some.injEq] at h3
      subst h3
      show Rep _ _ _ _ _
      simp only [Rep]; rfl
    | str z =>
      simp only [keyOf, Option.some.injEq] at h3
      subst h3
      show Rep _ _ _ _ _
      simp only [Rep]
      exact ⟨rfl, by simpa using hkp⟩
    | _ => simp [keyOf] at h3
  stp := fun W' H' st' l ss hc => by
    refine ⟨l.loc d (List.mem_of_getElem? hd) _ _ hH, ?_⟩
    show ks.length ≤ (ps.map _).length
    rw [List.length_map]
    omega
/-- keys that can be walked -/
def mItKs (m : M PV) : M MIt := m.bind fun x => fun _ st => match x with
  | .ref r => match st[r]? with
    | some (.loc ps) => if keysOk ps then some (.ok ⟨ps.map (·.1), some (.keys r)⟩ st) else none
    | _ => none
  | _ => none
theorem m_itK {tg e : Expr} {m : M PV} (h : ME X E e m) : MI X E tg e (mItKs m) := by
  refine piW (pi_keys h) fun σ H R q => ?_
  obtain ⟨W, env, st, sl, ss, q⟩ := q
  refine bindI_at sl ss q fun x u st1 W1 H1 l1 sl1 ss1 rx q1 => ?_
  split at q1
  · rename_i r
    split at q1
    · rename_i ps es
      split at q1
      · rename_i hk
        obtain ⟨d, rfl, hd⟩ : ∃ a, u = .ref a ∧ W1.ρ[r]? = some a := by simpa only [Rp, Rep] using rx
        obtain ⟨ks, ⟨od, h1⟩, h2, h3⟩ := ss1.ob r _ d es hd
        exact ⟨d, od, rfl, .inl ⟨ks, h1, q1 _ H1 W1 (Le.refl _ _) ss1 (itk_ok hd h1 h3 hk h2.len' fun i x hx => RepD.key_get h2 hx)⟩⟩
      · exact q1.elim
    · exact q1.elim
  · exact q1.elim
def unlS (r : Nat) (s : Sto) : Option Sto := match s[r]? with
  | some (.loc ps) => some (s.set r (.dic ps))
  | _ => none
def unlR (r : Nat) : Option SRes → Option SRes
  | some (.next e s) => (unlS r s).map (.next e)
  | some (.brk e s) => (unlS r s).map (.brk e)
  | some (.cont e s) => (unlS r s).map (.cont e)
  | some (.ret v s) => (unlS r s).map (.ret v)
  | r => r
/-- a statement over a locked dict; m tells which -/
def mLock (m : M PV) (b : MS) : MS := fun env st => match m env st with
  | some (.ok (.ref r) _) => match st[r]? with
    | some (.dic ps) => unlR r (b env (st.set r (.loc ps)))
    | _ => none
  | _ => none
theorem ms_lock {s : Stmt} {b : MS} (m : M PV) (h : MSt X E s b) : MSt X E s (mLock m b) := by
  refine psW (ps_lock h) fun D σ H q => ?_
  obtain ⟨W, env, st, sl, ss, q⟩ := q
  unfold mLock at q
  split at q
  · rename_i r _ _
    split at q
    · rename_i ps es
      have hr : r < W.ρ.length := by rw [ss.len]; exact (List.getElem?_eq_some_iff.mp es).1
      have hd : W.ρ[r]? = some W.ρ[r] := List.getElem?_eq_getElem hr
      generalize W.ρ[r] = d at hd
      have hmem : d ∈ W.ρ := List.mem_of_getElem? hd
      obtain ⟨ks, h1, h2, h3⟩ := ss.ob r _ d es hd
      refine ⟨d, .dK ks, h1, trivial, fun od => ?_⟩
      have eF : Fz W (upd H d (.frz od (.dK ks))) = Fz W H := Fz_ρ hmem
      have ss1 : SimS X.K W (st.set r (.loc ps)) (upd H d (.frz od (.dK ks))) := ss.reput hd ⟨ks, ⟨od, upd_same⟩, by rw [eF]; exact h2, h3⟩
      have sl1 : SlotR X.K W (upd H d (.frz od (.dK ks))) env σ := ⟨sl.len, fun i x e => by
        obtain ⟨v, g1, g2⟩ := sl.get i x e
        exact ⟨v, g1, by show Rep _ _ _ _ _; rw [eF]; exact g2⟩⟩
      have l0 : ∀ {W' : Wd} {H' : Hp}, Le W (upd H d (.frz od (.dK ks))) W' H' → Le W H W' H' := fun {W' H'} l =>
        ⟨l.pre, l.hid, fun a o e => l.fz a o (by rw [eF]; exact e), fun a ha => by rw [l.keep a ha, upd_ne fun z => ss.dj d hmem (by rw [← z]; exact ha)],
          fun a ha o u e => l.loc a ha o u (by rw [upd_ne fun z => by rw [z, h1] at e; cases e]; exact e)⟩
      have at' : ∀ {W' : Wd} {H' : Hp}, Le W (upd H d (.frz od (.dK ks))) W' H' → H' d = some (.frz od (.dK ks)) := fun {W' H'} l => l.loc d hmem od _ upd_same
      have l2 : ∀ {W' : Wd} {H' : Hp}, Le W (upd H d (.frz od (.dK ks))) W' H' → Le W H W' (upd H' d (.dK ks)) := fun {W' H'} l => by
        have hm' : d ∈ W'.ρ := l.pre.subset hmem
        have L := l0 l
        exact ⟨L.pre, L.hid, fun a o e => by rw [Fz_ρ hm']; exact L.fz a o e, fun a ha => by rw [upd_ne fun z => ss.dj d hmem (by rw [← z]; exact ha)]; exact L.keep a ha,
          fun a ha o u e => by rw [upd_ne fun z => by rw [z, h1] at e; cases e]; exact L.loc a ha o u e⟩
      have un : ∀ {W' : Wd} {H' : Hp} {s' s2 : Sto}, Le W (upd H d (.frz od (.dK ks))) W' H' → SimS X.K W' s' H' → unlS r s' = some s2 → SimS X.K W' s2 (upd H' d (.dK ks)) := fun {W' H' s' s2} l sim eu => by
        unfold unlS at eu
        split at eu
        · rename_i ps' es'
          cases eu
          have hd' := pre_get l.pre hd
          obtain ⟨ks', ⟨od', g1⟩, g2, g3⟩ := sim.ob r _ d es' hd'
          obtain ⟨_, e2⟩ := frz_inj (at' l) g1
          cases e2
          exact sim.reput hd' ⟨ks, upd_same, by rw [Fz_ρ (List.mem_of_getElem? hd')]; exact g2, g3⟩
        · cases eu
      have rp : ∀ {W' : Wd} {H' : Hp} {x : PV} {v : V}, Le W (upd H d (.frz od (.dK ks))) W' H' → Rp X.K W' H' x v → Rp X.K W' (upd H' d (.dK ks)) x v := fun {W' H' x v} l r => by
        show Rep _ _ _ _ _
        rw [Fz_ρ (l.pre.subset hmem)]
        exact r
      have slr : ∀ {W' : Wd} {H' : Hp} {e : MEnv} {σ' : L2.St}, Le W (upd H d (.frz od (.dK ks))) W' H' → SlotR X.K W' H' e σ' → SlotR X.K W' (upd H' d (.dK ks)) e σ' := fun {W' H' e σ'} l r =>
        ⟨r.len, fun i x ex => by obtain ⟨v, g1, g2⟩ := r.get i x ex; exact ⟨v, g1, rp l g2⟩⟩
      refine ⟨W, env, st.set r (.loc ps), sl1, ss1, ?_⟩
      cases eb : b env (st.set r (.loc ps)) with
      | none => rw [eb] at q; exact q
      | some res =>
        rw [eb] at q
        cases res with
        | next e s =>
          simp only [unlR] at q
          cases eu : unlS r s with
          | none => rw [eu] at q; exact q.elim
          | some s2 =>
            rw [eu] at q
            exact fun σ' H' W' l sl' ss' => ⟨at' l, q σ' _ W' (l2 l) (slr l sl') (un l ss' eu)⟩
        | brk e s =>
          simp only [unlR] at q
          cases eu : unlS r s with
          | none => rw [eu] at q; exact q.elim
          | some s2 =>
            rw [eu] at q
            exact fun σ' H' W' l sl' ss' => ⟨at' l, q σ' _ W' (l2 l) (slr l sl') (un l ss' eu)⟩
        | cont e s =>
          simp only [unlR] at q
          cases eu : unlS r s with
          | none => rw [eu] at q; exact q.elim
          | some s2 =>
            rw [eu] at q
            exact fun σ' H' W' l sl' ss' => ⟨at' l, q σ' _ W' (l2 l) (slr l sl') (un l ss' eu)⟩
        | ret v s =>
          simp only [unlR] at q
          cases eu : unlS r s with
          | none => rw [eu] at q; exact q.elim
          | some s2 =>
            rw [eu] at q
            exact fun u H' W' l ss' rx => ⟨at' l, q u _ W' (l2 l) (un l ss' eu) (rp l rx)⟩
        | exc x e s =>
          exact fun σ' c dd H' W' l => q σ' c dd H' W' (l0 l)
    · exact q.elim
  · exact q.elim
end
end Mi

/-! Mi21: list comprehensions with two fors. -/
namespace Mi
open PySem PySem.Spec PyProof.Rows L2
theorem SlotR.lw {K : PySem.W.Frag} {W W' : Wd} {H H' : Hp} {env : MEnv} {σ : L2.St} (h : SlotR K W H env σ) (l : Lw W H W' H') : SlotR K W' H' env σ :=
  ⟨h.len, fun i x e => let ⟨v, h1, h2⟩ := h.get i x e; ⟨v, h1, Rep.mono l.fz l.pre _ _ h2⟩⟩
theorem RpL.lw {K : PySem.W.Frag} {W W' : Wd} {H H' : Hp} {x : List PV} {v : List V} (h : RpL K W H x v) (l : Lw W H W' H') : RpL K W' H' x v := RepL.mono l.fz l.pre x v h
theorem Lw.hid {W W' : Wd} {H H' : Hp} {D : Addr} {o : HO} (l : Lw W H W' H') (hW : D ∈ W.hid) (hD : D ∈ W'.hid) (dj : D ∉ W.ρ) : Lw W H W' (upd H' D o) :=
  ⟨l.pre, fun a o' e => by
    have h := Fz_some.mp (l.fz a o' e)
    exact Fz_some.mpr ⟨h.1, h.2.1, by rw [upd_ne fun z => h.2.1 (by rw [z]; exact hD)]; exact h.2.2⟩,
   fun a ha od u e => by rw [upd_ne fun z => dj (by rw [← z]; exact ha)]; exact l.loc a ha od u e⟩
noncomputable def comp2 (t : Tg) (it : MIt) (mc : M Bool) (mi1 : M MIt) (t1 : Tg) (vs1 : List Nat) (mc1 : M Bool) (me : M PV) : List PV → MEnv → Sto → Option (List PV × Sto)
  | [], _, st => open Classical in if it.chk st then some ([], st) else none
  | x :: xs, env, st => open Classical in if it.chk st then
      (match tgSet t x st env with
      | none => none
      | some env1 => match mc env1 st with
        | some (.ok true st1) => match mi1 env1 st1 with
          | some (.ok it1 st2) => match compL t1 it1 mc1 me it1.items (wipeM env1 vs1) st2 with
            | some (ys, st3) => (comp2 t it mc mi1 t1 vs1 mc1 me xs env st3).map fun r => (ys ++ r.1, r.2)
            | none => none
          | _ => none
        | some (.ok false st1) => comp2 t it mc mi1 t1 vs1 mc1 me xs env st1
        | _ => none)
    else none
noncomputable def mLc2 (t : Tg) (mi : M MIt) (vs : List Nat) (mc : M Bool) (mi1 : M MIt) (t1 : Tg) (vs1 : List Nat) (mc1 : M Bool) (me : M PV) : M (List PV) := mi.bind fun it env st => match comp2 t it mc mi1 t1 vs1 mc1 me it.items (wipeM env vs) st with
  | some (ys, st') => if ys.length ≤ sizeLine then some (.ok ys st') else none
  | none => none
theorem lc2_body {X : Cx} {E : EX} {own : List (Str × Nat)} {vs1 : List Nat} {t t1 : Tg} {mi mi1 : M MIt} {mc mc1 : M Bool} {me : M PV} (hv : ∀ i ∈ t.slots, i ∈ own.map (·.2)) (hv1 : ∀ i ∈ t1.slots, i ∈ vs1) {σ : L2.St} {H : Hp} {Q : VK}
    (q : tMF X.K E (mLc2 t mi (own.map (·.2)) mc mi1 t1 vs1 mc1 me) σ H Q) :
    tLc2 (tMI X.K E mi) (tTg X.K t) (tMB X.K E00 mc) (tMI X.K E00 mi1) (tTg X.K t1) (tMB X.K E00 mc1) (tM X.K E00 me) (own.map (·.2)) vs1 σ H Q := by
  obtain ⟨W, env, st, sl, ss, q⟩ := q
  refine bindIF_at sl ss q fun J it st1 W1 H1 l1 sl1 ss1 io q1 => ?_
  intro D hD
  cases er : comp2 t it mc mi1 t1 vs1 mc1 me it.items (wipeM env (own.map (·.2))) st1 with
  | none => rw [er] at q1; exact q1.elim
  | some r =>
    rw [er] at q1
    obtain ⟨ys, stE⟩ := r
    by_cases hsz : ys.length ≤ sizeLine
    case neg =>
      have q1 : tMFr X.K (E σ) W1 H1 Q (if ys.length ≤ sizeLine then some (.ok ys stE) else none) := q1
      rw [if_neg hsz] at q1
      exact q1.elim
    have q1 : tMFr X.K (E σ) W1 H1 Q (if ys.length ≤ sizeLine then some (.ok ys stE) else none) := q1
    rw [if_pos hsz] at q1
    have q1 : ∀ p us H' W', Le W1 H1 W' H' → SimS X.K W' stE H' → RpL X.K W' H' ys us → ys.length ≤ sizeLine → H' p = none → Q (.ref p) (upd H' p (.lst us)) := q1
    let Wv : Nat → Nat → Hp → Prop := fun i m H' => ∃ W' st' acc done rest, Le W1 H1 W' H' ∧ SimS X.K W' st' H' ∧ D ∈ W'.hid ∧ H' D = some (.lst acc) ∧ RpL X.K W' H' done acc ∧ i ≤ it.items.length ∧ m = it.items.length - i ∧
      comp2 t it mc mi1 t1 vs1 mc1 me (it.items.drop i) (wipeM env (own.map (·.2))) st' = some (rest, stE) ∧ done ++ rest = ys
    obtain ⟨lh, sh⟩ := ss1.hide (.lst []) hD
    refine ⟨Wv, ⟨it.items.length, ⟨W1.ρ, D :: W1.hid⟩, st1, [], [], ys, lh, sh, List.mem_cons_self, upd_same, RepL.nil, Nat.zero_le _, by simp, by simpa using er, rfl⟩, ?_⟩
    rintro i m H' ⟨W', st', acc, done, rest, l', ss', hDh, hDa, racc, hil, hm, hr, hys⟩
    by_cases hlt : i < it.items.length
    · rw [drop_cons hlt] at hr
      unfold comp2 at hr
      by_cases hck : it.chk st'
      · rw [if_pos hck] at hr
        refine .inr ⟨io.go i hlt W' H' st' l'.lw ss' hck, fun H'' => ∃ m', m' < m ∧ Wv (i + 1) m' H'', fun H'' h => h, fun v H'' y => ?_⟩
        obtain ⟨l2, ss2, rx⟩ := io.yl i _ (List.getElem?_eq_getElem hlt) W' H' st' v H'' l'.lw ss' hck y
        cases et : tgSet t it.items[i] st' (wipeM env (own.map (·.2))) with
        | none => rw [et] at hr; cases hr
        | some env1 =>
          rw [et] at hr
          have slw : SlotR X.K W' H'' (wipeM env (own.map (·.2))) (wipe σ (own.map (·.2))) := ((sl1.le l').le l2).wipe _
          refine ⟨W', _, st', _, env1, slw, ss2, rx, et, fun σ2 sl2 hk => ⟨?_, ?_⟩⟩
          · have hl2 : σ2.length = (wipe σ (own.map (·.2))).length := by rw [← sl2.len, tgSet_len _ _ _ _ _ et, slw.len]
            rw [wipe_eq hl2 fun j hj => hk j fun z => hj (hv j z)]
            exact wipe_eq (wipe_length _ _) fun j hj => by rw [wipe_at, if_neg hj]
          · cases ec : mc env1 st' with
            | none => simp only [ec] at hr; cases hr
            | some rc =>
              cases rc with
              | exc x s => simp only [ec] at hr; cases hr
              | ok b st2 =>
                refine ⟨W', env1, st', sl2, ss2, ?_⟩
                rw [ec]
                intro H3 W3 l3 ss3
                have hD3 : H3 D = some (.lst acc) := (l3.keep D (l2.hid D hDh)).trans ((l2.keep D hDh).trans hDa)
                have hDh3 : D ∈ W3.hid := l3.hid D (l2.hid D hDh)
                have racc3 : RpL X.K W3 H3 done acc := (racc.le l2).le l3
                cases b with
                | false =>
                  simp only [ec] at hr
                  rw [if_neg Bool.false_ne_true]
                  exact ⟨it.items.length - (i + 1), by omega, W3, st2, acc, done, rest, l'.trans (l2.trans l3), ss3, hDh3, hD3, racc3, hlt, rfl, hr, hys⟩
                | true =>
                  simp only [ec] at hr
                  rw [if_pos rfl]
                  cases em : mi1 env1 st2 with
                  | none => simp only [em] at hr; cases hr
                  | some rm =>
                    cases rm with
                    | exc x s => simp only [em] at hr; cases hr
                    | ok it1 st3 =>
                      simp only [em] at hr
                      cases ei : compL t1 it1 mc1 me it1.items (wipeM env1 vs1) st3 with
                      | none => rw [ei] at hr; cases hr
                      | some ri =>
                        rw [ei] at hr
                        obtain ⟨ys1, st4⟩ := ri
                        cases er2 : comp2 t it mc mi1 t1 vs1 mc1 me (it.items.drop (i + 1)) (wipeM env (own.map (·.2))) st4 with
                        | none => simp only [er2] at hr; cases hr
                        | some r2 =>
                          simp only [er2] at hr
                          obtain ⟨rest2, stE2⟩ := r2
                          simp only [Option.map_some, Option.some.injEq, Prod.mk.injEq] at hr
                          obtain ⟨hr1, rfl⟩ := hr
                          refine ⟨W3, env1, st2, sl2.le l3, ss3, ?_⟩
                          rw [em]
                          intro J1 H4 W4 l4 ss4 io1
                          have hD4 : H4 D = some (.lst acc) := (l4.keep D hDh3).trans hD3
                          have hDh4 : D ∈ W4.hid := l4.hid D hDh3
                          have hdj4 : D ∉ W4.ρ := fun z => ss4.dj D z hDh4
                          have sl4 : SlotR X.K W4 H4 env1 σ2 := (sl2.le l3).le l4
                          let Wi : Nat → Nat → Hp → Prop := fun j k H' => ∃ W' st' acc done1 rest1, Le W1 H1 W' H' ∧ Lw W4 H4 W' H' ∧ SimS X.K W' st' H' ∧ D ∈ W'.hid ∧ H' D = some (.lst acc) ∧ RpL X.K W' H' (done ++ done1) acc ∧ j ≤ it1.items.length ∧ k = it1.items.length - j ∧
                            compL t1 it1 mc1 me (it1.items.drop j) (wipeM env1 vs1) st' = some (rest1, st4) ∧ done1 ++ rest1 = ys1
                          refine ⟨Wi, ⟨it1.items.length, W4, st3, acc, [], ys1, l'.trans (l2.trans (l3.trans l4)), (Le.refl _ _).lw, ss4, hDh4, hD4, by rw [List.append_nil]; exact racc3.le l4, Nat.zero_le _, by simp, by simpa using ei, rfl⟩, ?_⟩
                          rintro j k H5 ⟨W5, st5, acc5, done1, rest1, l5, w5, ss5, hDh5, hD5, racc5, hjl, hk5, hr5, hys5⟩
                          by_cases hlt5 : j < it1.items.length
                          · rw [drop_cons hlt5] at hr5
                            unfold compL at hr5
                            by_cases hck5 : it1.chk st5
                            · rw [if_pos hck5] at hr5
                              refine .inr ⟨io1.go j hlt5 W5 H5 st5 w5 ss5 hck5, fun H'' => ∃ k', k' < k ∧ Wi (j + 1) k' H'', fun H'' h => h, fun v5 H6 y5 => ?_⟩
                              obtain ⟨l6, ss6, rx6⟩ := io1.yl j _ (List.getElem?_eq_getElem hlt5) W5 H5 st5 v5 H6 w5 ss5 hck5 y5
                              cases et5 : tgSet t1 it1.items[j] st5 (wipeM env1 vs1) with
                              | none => rw [et5] at hr5; cases hr5
                              | some env5 =>
                                rw [et5] at hr5
                                have slw5 : SlotR X.K W5 H6 (wipeM env1 vs1) (wipe σ2 vs1) := ((sl4.lw w5).le l6).wipe _
                                refine ⟨W5, _, st5, _, env5, slw5, ss6, rx6, et5, fun σ3 sl3 hk3 => ⟨?_, ?_⟩⟩
                                · have hl3 : σ3.length = (wipe σ2 vs1).length := by rw [← sl3.len, tgSet_len _ _ _ _ _ et5, slw5.len]
                                  rw [wipe_eq hl3 fun j hj => hk3 j fun z => hj (hv1 j z)]
                                  exact wipe_eq (wipe_length _ _) fun j hj => by rw [wipe_at, if_neg hj]
                                · cases ec5 : mc1 env5 st5 with
                                  | none => simp only [ec5] at hr5; cases hr5
                                  | some rc5 =>
                                    cases rc5 with
                                    | exc x s => simp only [ec5] at hr5; cases hr5
                                    | ok b5 st6 =>
                                      refine ⟨W5, env5, st5, sl3, ss6, ?_⟩
                                      rw [ec5]
                                      intro H7 W7 l7 ss7
                                      have hD7 : H7 D = some (.lst acc5) := (l7.keep D (l6.hid D hDh5)).trans ((l6.keep D hDh5).trans hD5)
                                      have hDh7 : D ∈ W7.hid := l7.hid D (l6.hid D hDh5)
                                      have racc7 : RpL X.K W7 H7 (done ++ done1) acc5 := (racc5.le l6).le l7
                                      cases b5 with
                                      | false =>
                                        simp only [ec5] at hr5
                                        rw [if_neg Bool.false_ne_true]
                                        exact ⟨it1.items.length - (j + 1), by omega, W7, st6, acc5, done1, rest1, l5.trans (l6.trans l7), w5.trans (l6.trans l7).lw, ss7, hDh7, hD7, racc7, hlt5, rfl, hr5, hys5⟩
                                      | true =>
                                        simp only [ec5] at hr5
                                        rw [if_pos rfl]
                                        cases ee : me env5 st6 with
                                        | none => simp only [ee] at hr5; cases hr5
                                        | some re =>
                                          cases re with
                                          | exc x s => simp only [ee] at hr5; cases hr5
                                          | ok z st7 =>
                                            simp only [ee] at hr5
                                            refine ⟨W7, env5, st6, sl3.le l7, ss7, ?_⟩
                                            rw [ee]
                                            intro u H8 W8 l8 ss8 rz
                                            have hD8 : H8 D = some (.lst acc5) := (l8.keep D hDh7).trans hD7
                                            have hDh8 : D ∈ W8.hid := l8.hid D hDh7
                                            have hla : acc5.length = (done ++ done1).length := racc5.len
                                            cases er5 : compL t1 it1 mc1 me (it1.items.drop (j + 1)) (wipeM env1 vs1) st7 with
                                            | none => rw [er5] at hr5; cases hr5
                                            | some r5 =>
                                              rw [er5] at hr5
                                              obtain ⟨rest5, stE5⟩ := r5
                                              simp only [Option.map_some, Option.some.injEq, Prod.mk.injEq] at hr5
                                              obtain ⟨hr6, rfl⟩ := hr5
                                              obtain ⟨hF, ss9⟩ := ss8.hidUpd (.lst (acc5 ++ [u])) hDh8
                                              have hbig : (done ++ done1).length + 1 ≤ ys.length := by
                                                rw [← hys, ← hr1, ← hys5, ← hr6]
                                                simp only [List.length_append, List.length_cons]
                                                omega
                                              refine ⟨acc5, hD8, by omega, it1.items.length - (j + 1), by omega, ?_⟩
                                              have ll := l5.trans (l6.trans (l7.trans l8))
                                              have l9 : Le W1 H1 W8 (upd H8 D (.lst (acc5 ++ [u]))) := by
                                                refine ⟨ll.pre, ll.hid, fun a o e => hF a o (ll.fz a o e), fun a ha => ?_, fun a ha od u e => by rw [upd_ne (ne_of_none e hD)]; exact ll.loc a ha od u e⟩
                                                rw [upd_ne fun e => ss1.new_hid hD (by rw [← e]; exact ha)]
                                                exact ll.keep a ha
                                              have w9 : Lw W4 H4 W8 (upd H8 D (.lst (acc5 ++ [u]))) := (w5.trans (l6.trans (l7.trans l8)).lw).hid hDh4 hDh8 hdj4
                                              refine ⟨W8, st7, acc5 ++ [u], done1 ++ [z], rest5, l9, w9, ss9, hDh8, upd_same, ?_, hlt5, rfl, er5, by rw [← hys5, ← hr6]; simp⟩
                                              rw [← List.append_assoc]
                                              exact RepL.mono hF (List.prefix_refl _) _ _ (RepL.append (racc7.le l8) (RepL.cons rz RepL.nil))
                            · rw [if_neg hck5] at hr5
                              cases hr5
                          · have e : j = it1.items.length := by omega
                            subst e
                            rw [List.drop_length] at hr5
                            unfold compL at hr5
                            by_cases hck5 : it1.chk st5
                            · rw [if_pos hck5] at hr5
                              simp only [Option.some.injEq, Prod.mk.injEq] at hr5
                              obtain ⟨rfl, rfl⟩ := hr5
                              rw [List.append_nil] at hys5
                              subst hys5
                              exact .inl ⟨io1.stp W5 H5 st5 w5 ss5 hck5, it.items.length - (i + 1), by omega, W5, st5, acc5, done ++ done1, rest2, l5, ss5, hDh5, hD5, racc5, hlt, rfl, er2, by rw [List.append_assoc, hr1, hys]⟩
                            · rw [if_neg hck5] at hr5
                              cases hr5
      · rw [if_neg hck] at hr
        cases hr
    · have e : i = it.items.length := by omega
      subst e
      rw [List.drop_length] at hr
      unfold comp2 at hr
      by_cases hck : it.chk st'
      · rw [if_pos hck] at hr
        simp only [Option.some.injEq, Prod.mk.injEq] at hr
        obtain ⟨rfl, rfl⟩ := hr
        refine .inl ⟨io.stp W' H' st' l'.lw ss' hck, ?_⟩
        have hys' : done = ys := by rw [← hys, List.append_nil]
        subst hys'
        rw [← upd_del hDa]
        refine q1 D acc (del H' D) (W'.unhide D) ⟨l'.pre, fun a ha => List.mem_filter.mpr ⟨l'.hid a ha, ?_⟩, fun a o e => Fz_unhide hDh a o (l'.fz a o e), fun a ha => ?_, fun a ha od u e => by rw [del_ne (ne_of_none e hD)]; exact l'.loc a ha od u e⟩ (ss'.unhide hDh) (RepL.mono (Fz_unhide hDh) (List.prefix_refl _) _ _ racc) hsz del_same
        · simp only [decide_eq_true_eq, ne_eq, decide_not, Bool.not_eq_eq_eq_not, Bool.not_true, decide_eq_false_iff_not]
          exact fun e => ss1.new_hid hD (by rw [← e]; exact ha)
        · rw [del_ne fun e => ss1.new_hid hD (by rw [← e]; exact ha)]
          exact l'.keep a ha
      · rw [if_neg hck] at hr
        cases hr
theorem f_lc2 {X : Cx} {E : EX} {elt tg iter tg1 iter1 : Expr} {ifs ifs1 : List Expr} {scope : Scope} {own : List (Str × Nat)} {vs1 : List Nat} {pos : Pos} {t t1 : Tg} {mi mi1 : M MIt} {mc mc1 : M Bool} {me : M PV} (hc : X.calm = true) (hN : X.N.Nodup) (hi : MI X E tg iter mi) (ok : BlkOk X.N X.env.scope scope own)
    (hg : ∀ (s : Shared) (H : Hp) (C : Addr) (cl : List (Str × Addr)) (fp : List Addr), MG (X.blk s H scope (compEnvC scope cl C X.env) fp) tg t)
    (ht : ∀ (s : Shared) (H : Hp) (C : Addr) (cl : List (Str × Addr)) (fp : List Addr), MTs (X.blk s H scope (compEnvC scope cl C X.env) fp) E00 ifs mc)
    (hi1 : ∀ (s : Shared) (H : Hp) (C : Addr) (cl : List (Str × Addr)) (fp : List Addr), MI (X.blk s H scope (compEnvC scope cl C X.env) fp) E00 tg1 iter1 mi1)
    (hg1 : ∀ (s : Shared) (H : Hp) (C : Addr) (cl : List (Str × Addr)) (fp : List Addr), MG (X.blk s H scope (compEnvC scope cl C X.env) fp) tg1 t1)
    (ht1 : ∀ (s : Shared) (H : Hp) (C : Addr) (cl : List (Str × Addr)) (fp : List Addr), MTs (X.blk s H scope (compEnvC scope cl C X.env) fp) E00 ifs1 mc1)
    (he : ∀ (s : Shared) (H : Hp) (C : Addr) (cl : List (Str × Addr)) (fp : List Addr), ME (X.blk s H scope (compEnvC scope cl C X.env) fp) E00 elt me)
    (hvv : ∀ i ∈ vs1, i ∈ own.map (·.2) := by decide) (hv : ∀ i ∈ t.slots, i ∈ own.map (·.2) := by decide) (hv1 : ∀ i ∈ t1.slots, i ∈ vs1 := by decide)
    (hs : ∀ x, foldedSetIterable iter X.env x = pure x := by intro _; rfl) (hs1 : ∀ env x, foldedSetIterable iter1 env x = pure x := by intro _ _; rfl) :
    MF X E (.ListComp elt [⟨tg, iter, ifs, 0⟩, ⟨tg1, iter1, ifs1, 0⟩] scope pos) (mLc2 t mi (own.map (·.2)) mc mi1 t1 vs1 mc1 me) := by
  exact peW (pe_lc2 (g := tTg X.K t) (tt := tMB X.K E00 mc) (g1 := tTg X.K t1) (tt1 := tMB X.K E00 mc1) (wi1 := tMI X.K E00 mi1) (te := tM X.K E00 me) hc hN hi ok hvv hg ht hi1 hg1 ht1 he hs hs1) fun σ H Q q => lc2_body hv hv1 q
end Mi

/-! Mi22: dict(t), t a tuple of pairs. -/
namespace Mi
open PySem PySem.Spec PyProof.Rows L2
section
variable {X : Cx}
theorem call_dictT (hcalm : X.calm = true) : CallR X (.type "dict") (fun xs H Q => ∃ (a : Addr) (ps : List Addr) (kvs : List (Key × V)), xs = [.ref a] ∧ SqN X.K H a (ps.map V.ref) ∧ Paired (fun p kv => SqT X.K H p [kV kv.1, kv.2]) ps kvs ∧ ps.length ≤ sizeLine ∧
    ∀ p, H p = none → Q (.ref p) (upd H p (.dK (mergeK [] kvs)))) := by
  intro pins s σ H xs us Q I r q
  obtain ⟨a, ps, kvs, ex, hq, hp, hz, q⟩ := q
  subst ex
  obtain ⟨u, eu, rx⟩ := vals1 r
  subst eu
  cases rx
  obtain ⟨_, hd⟩ := sqn_is (K := X.K) I hq
  obtain ⟨its, rv, pl, _⟩ := I.tuple hq.t
  have ei := refs_at rv
  subst ei
  obtain ⟨prs, rel, hl, hpr⟩ := pairs_of I hp
  obtain ⟨o, ho, hc, n, hdat⟩ := id pl
  obtain ⟨o', ho', hd'⟩ := hd a rfl
  rw [ho] at ho'
  cases ho'
  classical
  have hex : ∀ j : Nat, ∃ u : Value, ∀ q : Key × Value, prs[j]? = some q → ∃ b, ps[j]? = some b ∧ IsTup s.heap b #[u, q.2] ∧ keyIs q.1 u = true := fun j => by
    cases e : prs[j]? with
    | none => exact ⟨.none, fun q h => by cases h⟩
    | some q =>
      obtain ⟨b, u, e1, e2, e3⟩ := hpr j q e
      exact ⟨u, fun q' h => by cases h; exact ⟨b, e1, e2, e3⟩⟩
  obtain ⟨U, hU⟩ : ∃ U : Nat → Value, ∀ (j : Nat) (q : Key × Value), prs[j]? = some q → ∃ b, ps[j]? = some b ∧ IsTup s.heap b #[U j, q.2] ∧ keyIs q.1 (U j) = true := ⟨fun j => (hex j).choose, fun j => (hex j).choose_spec⟩
  let qs : List (Value × Value) := (List.range prs.length).map fun j => (U j, (prs.getD j (.inl 0, .none)).2)
  have hqs : ∀ j k v, qs[j]? = some (k, v) → ∃ q b, prs[j]? = some q ∧ k = U j ∧ v = q.2 ∧ ps[j]? = some b ∧ IsTup s.heap b #[k, v] ∧ keyIs q.1 k = true := fun j k v e => by
    simp only [qs, List.getElem?_map, Option.map_eq_some_iff] at e
    obtain ⟨i, hi, e⟩ := e
    obtain ⟨h1, h2⟩ := List.getElem?_eq_some_iff.mp hi
    rw [List.length_range] at h1
    rw [List.getElem_range] at h2
    subst h2
    have e1 : prs[j]? = some prs[j] := List.getElem?_eq_getElem h1
    obtain ⟨b, f1, f2, f3⟩ := hU j _ e1
    have e2 : prs.getD j (.inl 0, .none) = prs[j] := by simp [List.getD, e1]
    cases e
    exact ⟨prs[j], b, e1, rfl, by rw [e2], f1, by rw [e2]; exact f2, f3⟩
  have hql : qs.length = prs.length := by simp [qs]
  have P := PairArg.tuple (prog := X.prog) (w := X.w) a (ps.map Value.ref).toArray (fun j => ps.getD j 0) qs
  refine PySem.call_dict_pairs (knd := mixKind X.prog X.w) (kvs := prs) P (I.ok.hd hcalm) ⟨⟨o, n, ho, hc, hd', hdat⟩, by simp [hql, hl], fun j k v e => ?_⟩ ⟨hql.symm, fun i key v e => ?_⟩ (by rw [hql, hl]; exact hz) fun h' tk hdk k => ?_
  · obtain ⟨q, b, e1, rfl, rfl, e2, e3, e4⟩ := hqs j k v e
    refine ⟨by simp [e2], .inl ?_⟩
    have : ps.getD j 0 = b := by simp [List.getD, e2]
    show s.heap.IsTuple (ps.getD j 0) _
    rw [this]
    exact e3
  · obtain ⟨q, b, e1, rfl, rfl, e2, e3, e4⟩ := hqs i key v e
    exact ⟨q.1, e1, e4⟩
  · have hm : (s.heap.objs.size == sysModules) = false := beq_eq_false_iff_ne.mpr (Nat.ne_of_gt I.big)
    have hlen : (mergeK [] kvs).length ≤ sizeLine := by
      refine Nat.le_trans (length_mergeK kvs []) ?_
      rw [List.length_nil, Nat.zero_add, rel.length, hl]
      exact hz
    exact ⟨.ref s.heap.objs.size, upd H s.heap.objs.size (.dK (mergeK [] kvs)), I.laid (t' := tk) (fun b o e => k b o (by simp) e) (Nat.le_refl _) (show ObjOk X.prog X.w _ _ _ (.dK (mergeK [] kvs)) from ⟨hlen, hm, merged [] prs, KV.merge rel .nil, hdk⟩), rfl, q _ (I.hok.fresh (Nat.le_refl _))⟩
/-- dict(x), of a tuple of pairs, too -/
def oDictT : OD := fun xs st => match xs with
  | [.tup ys] => (pairsOf ys).map (mergeP [])
  | xs => oDict xs st
theorem c_dictT (hc : X.calm = true) : CallR X (.type "dict") (rMD X.K oDictT) := by
  intro pins s σ H vs us Q I r h
  obtain ⟨W, st, xs, ys, ss, rx, ho, q⟩ := h
  unfold oDictT at ho
  split at ho
  · rename_i zs
    obtain ⟨u, rfl, r1⟩ := rx.one
    rw [Option.map_eq_some_iff] at ho
    obtain ⟨ps, hp, rfl⟩ := ho
    obtain ⟨a, ws, rfl, sq, r2, hz⟩ := asN_inv r1 (xs := zs) rfl
    obtain ⟨as, kvs, rfl, hpd, hr, hl⟩ := pairs_rep r2 hp
    have hal : as.length ≤ sizeLine := by
      have := r2.len
      rw [List.length_map] at this
      rw [this]; exact hz
    refine call_dictT hc pins s σ H _ us Q I r ⟨a, as, kvs, rfl, sq, hpd, hal, fun p hn => q p _ H (Le.refl _ _) ss (merge_rep hr (by simp [RepD])) ?_ hn⟩
    have := mergeP_len ps []
    simp only [List.length_nil] at this
    omega
  · exact c_dict hc pins s σ H vs us Q I r ⟨W, st, xs, ys, ss, rx, ho, q⟩
end
end Mi

/-! MiW: what mirrors answer, step by step (plain; for simp). -/
namespace Mi
open PySem PySem.Spec PyProof.Rows L2
/-- there is an answer, and it is so -/
def Out {α : Type} (o : Option α) (Q : α → Prop) : Prop := ∃ z, o = some z ∧ Q z
/-- m answers without an error, so -/
def OkE {α : Type} (m : M α) (env : MEnv) (st : Sto) (Q : α → Sto → Prop) : Prop := ∃ a s, m env st = some (.ok a s) ∧ Q a s
abbrev QN := MEnv → Sto → Prop
abbrev QV := PV → Sto → Prop
/-- the ends of a statement: on, with a value, out of the loop, to its next turn; no error -/
def Rs (N : QN) (R : QV) (B C : QN) : SRes → Prop
  | .next e s => N e s
  | .ret v s => R v s
  | .brk e s => B e s
  | .cont e s => C e s
  | .exc _ _ _ => False
def OkS (m : MS) (env : MEnv) (st : Sto) (N : QN) (R : QV) (B C : QN) : Prop := ∃ r, m env st = some r ∧ Rs N R B C r
/-- a def answers so -/
def OkF (φ : FnM) (xs : List PV) (st : Sto) (Q : PV → Sto → Prop) : Prop := ∃ v s, φ xs st = some (.ok v s) ∧ Q v s
section
variable {α β : Type}
theorem ex_ok {a : α} {s : Sto} {Q : α → Sto → Prop} : (∃ b t, (some (Res.ok a s) : Option (Res α)) = some (.ok b t) ∧ Q b t) ↔ Q a s :=
  Iff.intro (fun ⟨b, t, e, q⟩ => by cases e; exact q) (fun q => ⟨a, s, rfl, q⟩)
theorem ex_none {Q : α → Sto → Prop} : (∃ b t, (none : Option (Res α)) = some (.ok b t) ∧ Q b t) ↔ False := Iff.intro (fun ⟨b, t, e, q⟩ => by cases e) False.elim
theorem ex_exc {x : PX} {s : Sto} {Q : α → Sto → Prop} : (∃ b t, (some (Res.exc x s) : Option (Res α)) = some (.ok b t) ∧ Q b t) ↔ False := Iff.intro (fun ⟨b, t, e, q⟩ => by cases e) False.elim
theorem out_some {z : α} {Q : α → Prop} : Out (some z) Q ↔ Q z := Iff.intro (fun ⟨_, e, q⟩ => by cases e; exact q) (fun q => ⟨z, rfl, q⟩)
theorem out_none {Q : α → Prop} : Out (none : Option α) Q ↔ False := Iff.intro (fun ⟨_, e, _⟩ => by cases e) False.elim
theorem out_map {o : Option α} {f : α → β} {Q : β → Prop} : Out (o.map f) Q ↔ Out o fun z => Q (f z) := by
  cases o with
  | none => simp only [Option.map_none, out_none]
  | some z => simp only [Option.map_some, out_some]
theorem out_ite {c : Prop} [Decidable c] {a b : Option α} {Q : α → Prop} : Out (if c then a else b) Q ↔ if c then Out a Q else Out b Q := by
  by_cases h : c
  · rw [if_pos h, if_pos h]
  · rw [if_neg h, if_neg h]
theorem out_iff1 {c : Prop} [Decidable c] {a : Option α} {Q : α → Prop} : Out (if c then a else none) Q ↔ c ∧ Out a Q := by
  by_cases h : c
  · rw [if_pos h]; exact Iff.intro (fun q => ⟨h, q⟩) (fun q => q.2)
  · rw [if_neg h, out_none]; exact Iff.intro False.elim (fun q => h q.1)
theorem ok_bind {m : M α} {f : α → M β} {env : MEnv} {st : Sto} {Q : β → Sto → Prop} : OkE (M.bind m f) env st Q ↔ OkE m env st fun a s => OkE (f a) env s Q := by
  unfold OkE M.bind
  cases e : m env st with
  | none => simp only [ex_none]
  | some r => cases r with
    | exc x s => simp only [ex_exc]
    | ok a s => simp only [ex_ok]
theorem ok_iff {α : Type} {m : M α} {env : MEnv} {st : Sto} {Q R : α → Sto → Prop} (h : ∀ a s, Q a s ↔ R a s) : OkE m env st Q ↔ OkE m env st R :=
  Iff.intro (fun ⟨a, s, e, q⟩ => ⟨a, s, e, (h a s).mp q⟩) (fun ⟨a, s, e, q⟩ => ⟨a, s, e, (h a s).mpr q⟩)
theorem ok_bind' {m : M α} {f : α → M β} {env : MEnv} {st : Sto} {Q : β → Sto → Prop} {R : α → Sto → Prop} (h : ∀ a s, OkE (f a) env s Q ↔ R a s) : OkE (M.bind m f) env st Q ↔ OkE m env st R := ok_bind.trans (ok_iff h)
theorem ok_map {o : Option β} {g : β → α} {s : Sto} {Q : α → Sto → Prop} : (∃ a s', (o.map fun z => Res.ok (g z) s) = some (.ok a s') ∧ Q a s') ↔ Out o fun z => Q (g z) s := by
  cases o with
  | none => simp only [Option.map_none, out_none, ex_none]
  | some z => simp only [Option.map_some, out_some, ex_ok]
theorem ok_pure {a : α} {env : MEnv} {st : Sto} {Q : α → Sto → Prop} : OkE (M.pure a) env st Q ↔ Q a st := ex_ok
theorem ok_if1 {c : Prop} [Decidable c] {a : α} {s : Sto} {Q : α → Sto → Prop} : (∃ b t, (if c then some (Res.ok a s) else none) = some (.ok b t) ∧ Q b t) ↔ c ∧ Q a s := by
  by_cases h : c
  · simp only [h, if_true, ex_ok, true_and]
  · simp only [h, if_false, ex_none, false_and]
end
section
variable {env : MEnv} {st : Sto} {Q : PV → Sto → Prop} {QB : Bool → Sto → Prop} {QL : List PV → Sto → Prop} {QS : SRes → Prop}
theorem ok_var {i : Nat} : OkE (mVar i) env st Q ↔ Out (env[i]?) fun o => Out o fun v => Q v st := by
  unfold OkE mVar
  cases e : env[i]? with
  | none => simp only [ex_none, out_none]
  | some o => cases o with
    | none => simp only [ex_none, out_none, out_some]
    | some v => simp only [ex_ok, out_some]
theorem ok_c {x : PV} : OkE (mC x) env st Q ↔ Q x st := ex_ok
theorem ok_nil : OkE mNil env st QL ↔ QL [] st := ex_ok
theorem ok_cons {m : M PV} {r : M (List PV)} : OkE (mCons m r) env st QL ↔ OkE m env st fun x s => OkE r env s fun xs s => QL (x :: xs) s :=
  ok_bind' fun _ _ => ok_bind' fun _ _ => ok_pure
theorem ok_tup {m : M (List PV)} : OkE (mTup m) env st Q ↔ OkE m env st fun xs s => xs.length ≤ sizeLine ∧ Q (.tup xs) s := ok_bind' fun _ _ => ok_if1
theorem ok_lst {m : M (List PV)} : OkE (mLst m) env st QL ↔ OkE m env st fun xs s => xs.length ≤ sizeLine ∧ QL xs s := ok_bind' fun _ _ => ok_if1
theorem ok_new {m : M (List PV)} : OkE (mNew m) env st Q ↔ OkE m env st fun xs s => Q (.lst xs) s := ok_bind' fun _ _ => ok_pure
theorem ok_tst {m : M PV} : OkE (mTst m) env st QB ↔ OkE m env st fun x s => ∃ b, x = PV.bl b ∧ QB b s := by
  refine ok_bind' fun a s => ?_
  cases a with
  | bl b => exact ex_ok.trans (Iff.intro (fun q => ⟨b, rfl, q⟩) fun ⟨c, e, q⟩ => by cases e; exact q)
  | _ => exact ex_none.trans (Iff.intro False.elim fun ⟨c, e, _⟩ => by cases e)
theorem ok_ite {α : Type} {c : Prop} [Decidable c] {a b : M α} {Q : α → Sto → Prop} : OkE (if c then a else b) env st Q ↔ if c then OkE a env st Q else OkE b env st Q := by
  by_cases h : c
  · rw [if_pos h, if_pos h]
  · rw [if_neg h, if_neg h]
theorem ite_congr2 {c : Bool} {a b a' b' : Prop} (h : a ↔ a') (k : b ↔ b') : (if c then a else b) ↔ (if c then a' else b') := by
  cases c
  · exact k
  · exact h
theorem ok_andT {a b : M Bool} : OkE (mAndT a b) env st QB ↔ OkE a env st fun c s => if c then OkE b env s QB else QB false s := ok_bind' fun _ _ => ok_ite.trans (ite_congr2 Iff.rfl ok_pure)
theorem ok_orT {a b : M Bool} : OkE (mOrT a b) env st QB ↔ OkE a env st fun c s => if c then QB true s else OkE b env s QB := ok_bind' fun _ _ => ok_ite.trans (ite_congr2 ok_pure Iff.rfl)
theorem ok_notT {a : M Bool} : OkE (mNotT a) env st QB ↔ OkE a env st fun c s => QB (!c) s := ok_bind' fun _ _ => ok_pure
theorem ok_and {a b : M PV} : OkE (mAnd a b) env st Q ↔ OkE (mTst a) env st fun c s => if c then OkE b env s Q else Q (.bl false) s := ok_bind' fun _ _ => ok_ite.trans (ite_congr2 Iff.rfl ok_pure)
theorem ok_or {a b : M PV} : OkE (mOr a b) env st Q ↔ OkE (mTst a) env st fun c s => if c then Q (.bl true) s else OkE b env s Q := ok_bind' fun _ _ => ok_ite.trans (ite_congr2 ok_pure Iff.rfl)
theorem ok_not {a : M PV} : OkE (mNot a) env st Q ↔ OkE (mTst a) env st fun c s => Q (.bl (!c)) s := ok_bind' fun _ _ => ok_pure
theorem ok_if {c : M Bool} {a b : M PV} : OkE (mIf c a b) env st Q ↔ OkE c env st fun c s => if c then OkE a env s Q else OkE b env s Q := ok_bind' fun _ _ => ok_ite
theorem ok_op {o : O2} {a b : M PV} : OkE (mOp o a b) env st Q ↔ OkE a env st fun x s => OkE b env s fun y s => Out (o x y s) fun z => Q z s := ok_bind' fun _ _ => ok_bind' fun _ _ => ok_map (g := id)
theorem ok_un {o : O1} {a : M PV} : OkE (mUn o a) env st Q ↔ OkE a env st fun x s => Out (o x s) fun z => Q z s := ok_bind' fun _ _ => ok_map (g := id)
theorem ok_cl {o : OL} {a : M (List PV)} : OkE (mCl o a) env st Q ↔ OkE a env st fun xs s => Out (o xs s) fun z => Q z s := ok_bind' fun _ _ => ok_map (g := id)
theorem ok_clF {o : OF} {a : M (List PV)} : OkE (mClF o a) env st QL ↔ OkE a env st fun xs s => Out (o xs s) fun z => QL z s := ok_bind' fun _ _ => ok_map (g := id)
theorem ok_call {φ : FnM} {a : M (List PV)} : OkE (mCall0 φ a) env st Q ↔ OkE a env st fun xs s => OkF φ xs s Q := by
  refine ok_bind' fun xs s => ?_
  unfold OkE OkF
  cases e : φ xs s with
  | none => simp only [e, ex_none]
  | some r => cases r with
    | ok v t => simp only [e, ex_ok]
    | exc x t => simp only [e, ex_none, ex_exc]
theorem ok_mk {C : Addr} {fs : List Str} {m : M (List PV)} : OkE (mMk C fs m) env st Q ↔ OkE m env st fun xs s => xs.length = fs.length ∧ Q (.exc C (fs.zip xs).reverse) s := ok_bind' fun _ _ => ok_if1
theorem ok_noPart {QO : Option Int → Sto → Prop} : OkE mNoPart env st QO ↔ QO none st := ex_ok
theorem ok_part {m : M PV} {QO : Option Int → Sto → Prop} : OkE (mPart m) env st QO ↔ OkE m env st fun x s => ∃ i, x = PV.int i ∧ QO (some i) s := by
  refine ok_bind' fun a s => ?_
  cases a with
  | int b => exact ex_ok.trans (Iff.intro (fun q => ⟨b, rfl, q⟩) fun ⟨c, e, q⟩ => by cases e; exact q)
  | _ => exact ex_none.trans (Iff.intro False.elim fun ⟨c, e, _⟩ => by cases e)
theorem ok_cut {m : M PV} {a b : MPart} : OkE (mCut m a b) env st Q ↔ OkE m env st fun x s => OkE a env s fun lo s => OkE b env s fun hi s => Out (oCut x lo hi s) fun z => Q z s :=
  ok_bind' fun _ _ => ok_bind' fun _ _ => ok_bind' fun _ _ => ok_map (g := id)
theorem ok_mt {T : String} {o : OMt} {m : M PV} {a : M (List PV)} : OkE (mMt T o m a) env st Q ↔ OkE m env st fun x s => rcv T x s = true ∧ OkE a env s fun xs s => Out (o x xs s) fun r => Q r.1 r.2 := by
  refine ok_bind' fun x s => ?_
  by_cases hr : rcv T x s = true
  · refine Iff.trans (b := OkE (M.bind a (fun xs => fun _ st => (o x xs st).map fun r => .ok r.1 r.2)) env s Q) ?_ ?_
    · unfold OkE
      simp only [hr, if_true]
    · refine Iff.trans (ok_bind' (R := fun xs s => Out (o x xs s) fun r => Q r.1 r.2) fun xs s => ?_) ?_
      · unfold OkE
        cases e : o x xs s with
        | none => simp only [e, Option.map_none, out_none, ex_none]
        | some z => simp only [e, Option.map_some, out_some, ex_ok]
      · simp only [hr, true_and]
  · unfold OkE
    simp only [hr, if_false, ex_none, false_and, Bool.false_eq_true]
theorem ok_chain {o o' : O2} {ma mb mc : M PV} : OkE (mChain o o' ma mb mc) env st Q ↔ OkE ma env st fun x s => OkE mb env s fun y s => Out (o x y s) fun z => (∃ b, z = PV.bl b ∧ if b then OkE mc env s fun w s => Out (o' y w s) fun r => Q r s else Q (.bl false) s) := by
  refine ok_bind' fun x s => ok_bind' fun y s => ?_
  cases e : o x y s with
  | none => unfold OkE; simp only [e, out_none, ex_none]
  | some z =>
    rw [out_some]
    cases z with
    | bl b =>
      cases b with
      | true =>
        refine Iff.trans (b := OkE (M.bind mc (fun z => fun _ st => (o' y z st).map fun r => .ok r st)) env s Q) ?_ ?_
        · unfold OkE
          simp only [e]
        · refine Iff.trans (ok_bind' (R := fun w s => Out (o' y w s) fun r => Q r s) fun w s => ok_map (g := id)) ?_
          exact Iff.intro (fun q => ⟨true, rfl, q⟩) fun ⟨c, e, q⟩ => by cases e; exact q
      | false =>
        unfold OkE
        simp only [e, ex_ok]
        exact Iff.intro (fun q => ⟨false, rfl, q⟩) fun ⟨c, e, q⟩ => by cases e; exact q
    | _ =>
      unfold OkE
      simp only [e, ex_none]
      exact Iff.intro False.elim fun ⟨c, e, _⟩ => by cases e
/-! ### statements -/
variable {N B C : QN} {R : QV}
theorem sx_some {r : SRes} : (∃ r', (some r : Option SRes) = some r' ∧ Rs N R B C r') ↔ Rs N R B C r := Iff.intro (fun ⟨_, e, q⟩ => by cases e; exact q) fun q => ⟨r, rfl, q⟩
theorem sx_none : (∃ r', (none : Option SRes) = some r' ∧ Rs N R B C r') ↔ False := Iff.intro (fun ⟨_, e, _⟩ => by cases e) False.elim
theorem sx_map {α : Type} {o : Option α} {f : α → SRes} : (∃ r', o.map f = some r' ∧ Rs N R B C r') ↔ Out o fun z => Rs N R B C (f z) := by
  cases o with
  | none => simp only [Option.map_none, out_none, sx_none]
  | some z => simp only [Option.map_some, out_some, sx_some]
theorem os_bind {α : Type} {m : M α} {f : α → MS} {P : α → Sto → Prop} (h : ∀ a s, OkS (f a) env s N R B C ↔ P a s) : OkS (M.bindS m f) env st N R B C ↔ OkE m env st P := by
  refine Iff.trans (b := OkE m env st fun a s => OkS (f a) env s N R B C) ?_ (ok_iff h)
  unfold OkS M.bindS OkE
  cases e : m env st with
  | none => simp only [sx_none, ex_none]
  | some r => cases r with
    | exc x s =>
      simp only [ex_exc]
      exact Iff.intro (fun ⟨r, e, q⟩ => by cases e; exact q) False.elim
    | ok a s => simp only [ex_ok]
theorem os_seq {a b : MS} : OkS (mSeq a b) env st N R B C ↔ OkS a env st (fun e s => OkS b e s N R B C) R B C := by
  unfold OkS mSeq
  cases e : a env st with
  | none => simp only [sx_none]
  | some r =>
    cases r with
    | next e1 s => exact Iff.trans Iff.rfl (Iff.symm (sx_some (r := .next e1 s)))
    | ret v s => exact Iff.trans (sx_some (r := .ret v s)) (Iff.symm (sx_some (r := .ret v s)))
    | brk e1 s => exact Iff.trans (sx_some (r := .brk e1 s)) (Iff.symm (sx_some (r := .brk e1 s)))
    | cont e1 s => exact Iff.trans (sx_some (r := .cont e1 s)) (Iff.symm (sx_some (r := .cont e1 s)))
    | exc x e1 s => exact Iff.trans (sx_some (r := .exc x e1 s)) (Iff.symm (sx_some (r := .exc x e1 s)))
theorem os_skip : OkS mSkip env st N R B C ↔ N env st := sx_some
theorem os_brk : OkS mBrk env st N R B C ↔ B env st := sx_some
theorem os_cont : OkS mCont env st N R B C ↔ C env st := sx_some
theorem os_retN : OkS mRetN env st N R B C ↔ R .non st := sx_some
theorem os_drop {m : M PV} : OkS (mDrop m) env st N R B C ↔ OkE m env st fun _ s => N env s := os_bind fun _ _ => sx_some
theorem os_ret {m : M PV} : OkS (mRet m) env st N R B C ↔ OkE m env st R := os_bind fun _ _ => sx_some
theorem os_retA {m : M (List PV)} : OkS (mRetA m) env st N R B C ↔ OkE m env st fun xs s => R (.ref s.length) (s ++ [.lst xs]) := os_bind fun _ _ => sx_some
theorem os_set {i : Nat} {m : M PV} : OkS (mSet i m) env st N R B C ↔ OkE m env st fun x s => N (env.set i (some x)) s := os_bind fun _ _ => sx_some
theorem os_setA {i : Nat} {m : M (List PV)} : OkS (mSetA i m) env st N R B C ↔ OkE m env st fun xs s => N (env.set i (some (.ref s.length))) (s ++ [.lst xs]) := os_bind fun _ _ => sx_some
theorem os_ite {c : Prop} [Decidable c] {a b : MS} : OkS (if c then a else b) env st N R B C ↔ if c then OkS a env st N R B C else OkS b env st N R B C := by
  by_cases h : c
  · rw [if_pos h, if_pos h]
  · rw [if_neg h, if_neg h]
theorem os_if {c : M Bool} {a b : MS} : OkS (mIfS c a b) env st N R B C ↔ OkE c env st fun c s => if c then OkS a env s N R B C else OkS b env s N R B C := os_bind fun _ _ => os_ite
theorem os_asg {t : Tg} {m : M PV} : OkS (mAsg t m) env st N R B C ↔ OkE m env st fun x s => Out (tgSet t x s env) fun e => N e s := os_bind fun _ _ => sx_map
theorem os_par {i j : Nat} {m : M (List PV)} : OkS (mPar i j m) env st N R B C ↔ OkE m env st fun xs s => ∃ x y, xs = [x, y] ∧ N ((env.set i (some x)).set j (some y)) s := by
  refine os_bind fun xs s => ?_
  match xs with
  | [x, y] => exact sx_some.trans (Iff.intro (fun q => ⟨x, y, rfl, q⟩) fun ⟨_, _, e, q⟩ => by cases e; exact q)
  | [] => exact sx_none.trans (Iff.intro False.elim fun ⟨_, _, e, _⟩ => by cases e)
  | [x] => exact sx_none.trans (Iff.intro False.elim fun ⟨_, _, e, _⟩ => by cases e)
  | x :: y :: z :: r => exact sx_none.trans (Iff.intro False.elim fun ⟨_, _, e, _⟩ => by cases e)
theorem os_aug {o : O2} {i : Nat} {m : M PV} : OkS (mAug o i m) env st N R B C ↔ OkE (mVar i) env st fun x s => OkE m env s fun y s => Out (o x y s) fun z => N (env.set i (some z)) s := by
  refine os_bind fun x s => os_bind fun y s => ?_
  unfold OkS
  cases e : o x y s with
  | none => simp only [e, sx_none, out_none]
  | some z =>
    simp only [e, out_some]
    exact sx_some
theorem os_put {me mo mi : M PV} : OkS (mPut me mo mi) env st N R B C ↔ OkE me env st fun y s => OkE mo env s fun x s => OkE mi env s fun k s => Out (oPut x k y s) fun s => N env s :=
  os_bind fun _ _ => os_bind fun _ _ => os_bind fun _ _ => sx_map
theorem os_augP {op : O2} {mo mi me : M PV} : OkS (mAugP op mo mi me) env st N R B C ↔ OkE mo env st fun x s => OkE mi env s fun k s => Out (oIxN x k s) fun v => OkE me env s fun y s => Out (op v y s) fun z => Out (oPut x k z s) fun s => N env s := by
  refine os_bind fun x s => os_bind fun k s => ?_
  unfold OkS
  cases e : oIxN x k s with
  | none => simp only [e, sx_none, out_none]
  | some v =>
    simp only [e, out_some]
    refine os_bind fun y s => ?_
    unfold OkS
    cases e : op v y s with
    | none => simp only [e, sx_none, out_none]
    | some z =>
      simp only [e, out_some]
      exact sx_map
theorem os_for {tg : Tg} {mi : M MIt} {b : MS} : OkS (mFor tg mi b) env st N R B C ↔ OkE mi env st fun it s => OkS (forL tg it b it.items) env s N R B C := os_bind fun _ _ => Iff.rfl
theorem ok_it {m : M PV} {Q : MIt → Sto → Prop} : OkE (mIt m) env st Q ↔ OkE m env st fun x s => Out (mItOf x s) fun it => Q it s := ok_bind' fun _ _ => ok_map (g := id)
theorem ok_range1 {m : M (List PV)} {Q : MIt → Sto → Prop} : OkE (mRange1 m) env st Q ↔ OkE m env st fun xs s => ∃ j, xs = [.int j] ∧ (-(2 ^ 62) ≤ j ∧ j ≤ (sizeLine : Nat)) ∧ Q ⟨intsF 0 j.toNat, none⟩ s := by
  refine ok_bind' fun xs s => ?_
  match xs with
  | [.int j] =>
    refine Iff.trans ok_if1 (Iff.intro (fun q => ⟨j, rfl, q⟩) fun ⟨_, e, q⟩ => by cases e; exact q)
  | [] => exact ex_none.trans (Iff.intro False.elim fun ⟨_, e, _⟩ => by cases e)
  | .non :: r | .bl _ :: r | .str _ :: r | .tup _ :: r | .lst _ :: r | .dic _ :: r | .rol _ :: r | .ref _ :: r | .opq _ :: r | .exc _ _ :: r => exact ex_none.trans (Iff.intro False.elim fun ⟨_, e, _⟩ => by cases e)
  | .int _ :: _ :: _ => exact ex_none.trans (Iff.intro False.elim fun ⟨_, e, _⟩ => by cases e)
theorem ok_range2 {m : M (List PV)} {Q : MIt → Sto → Prop} : OkE (mRange2 m) env st Q ↔ OkE m env st fun xs s => ∃ i j, xs = [.int i, .int j] ∧ (-(2 ^ 62) ≤ i ∧ i < 2 ^ 62 ∧ -(2 ^ 62) ≤ j ∧ j < 2 ^ 62 ∧ (j - i).toNat ≤ sizeLine) ∧ Q ⟨intsF i (j - i).toNat, none⟩ s := by
  refine ok_bind' fun xs s => ?_
  by_cases h : ∃ i j, xs = [.int i, .int j]
  · obtain ⟨i, j, rfl⟩ := h
    exact Iff.trans ok_if1 (Iff.intro (fun q => ⟨i, j, rfl, q⟩) fun ⟨_, _, e, q⟩ => by cases e; exact q)
  · refine Iff.intro (fun q => ?_) fun ⟨i, j, e, _⟩ => absurd ⟨i, j, e⟩ h
    obtain ⟨a, t, e, _⟩ := q
    exfalso
    revert e
    show (match xs with
      | [.int i, .int j] => _
      | _ => none) = _ → _
    split
    · rename_i i j
      exact absurd ⟨i, j, rfl⟩ h
    · intro e; cases e
/-- a comprehension -/
theorem ok_lc {tg : Tg} {mi : M MIt} {vs : List Nat} {c : M Bool} {el : M PV} : OkE (mLc tg mi vs c el) env st QL ↔ OkE mi env st fun it s => Out (compL tg it c el it.items (wipeM env vs) s) fun r => QL r.1 r.2 := by
  refine ok_bind' fun it s => ?_
  unfold OkE
  cases e : compL tg it c el it.items (wipeM env vs) s with
  | none => simp only [e, Option.map_none, ex_none, out_none]
  | some r => simp only [e, Option.map_some, ex_ok, out_some]
theorem ok_yes : OkE mYes env st QB ↔ QB true st := ex_ok
/-- a loop over what is not changed meanwhile, by an invariant -/
theorem for_inv {i : Nat} {b : MS} (I : Nat → QN) : ∀ (items all : List PV) (k : Nat) (env : MEnv) (st : Sto),
    (∀ j x env st, items[j]? = some x → I (k + j) env st → OkS b (env.set i (some x)) st (I (k + j + 1)) R N (I (k + j + 1))) → (∀ env st, I (k + items.length) env st → N env st) → I k env st → OkS (forL (.nm i) ⟨all, none⟩ b items) env st N R B C
  | [], all, k, env, st, _, hn, h0 => by
    unfold OkS forL
    have hc : (MIt.mk all none).chk st := True.intro
    rw [if_pos hc]
    exact sx_some.mpr (hn env st h0)
  | x :: xs, all, k, env, st, hb, hn, h0 => by
    have hc : (MIt.mk all none).chk st := True.intro
    obtain ⟨r, e, q⟩ := hb 0 x env st rfl h0
    have e2 : b (env.set i (some x)) st = some r := e
    have next : ∀ e1 s, I (k + 1) e1 s → OkS (forL (.nm i) ⟨all, none⟩ b xs) e1 s N R B C := fun e1 s h => for_inv I xs all (k + 1) e1 s (fun j y env st g g2 => by
      have := hb (j + 1) y env st (by simpa using g) (by rw [show k + (j + 1) = k + 1 + j by omega]; exact g2)
      rw [show k + (j + 1) + 1 = k + 1 + j + 1 by omega] at this
      exact this) (fun env st g => hn env st (by rw [List.length_cons, show k + (xs.length + 1) = k + 1 + xs.length by omega]; exact g)) h
    unfold OkS forL
    rw [if_pos hc]
    simp only [tgSet, e2]
    cases r with
    | next e1 s => exact next e1 s q
    | cont e1 s => exact next e1 s q
    | brk e1 s => exact sx_some.mpr q
    | ret v s => exact sx_some.mpr q
    | exc x e1 s => exact q.elim
/-- a comprehension over what is not changed meanwhile, by an invariant -/
theorem comp_inv {i : Nat} {c : M Bool} {el : M PV} {env : MEnv} (I : Sto → Prop) (G : PV → Prop) : ∀ (items all : List PV) (st : Sto),
    (∀ x ∈ items, ∀ st, I st → OkE c (env.set i (some x)) st fun b s => if b then OkE el (env.set i (some x)) s fun y s => G y ∧ I s else I s) → I st →
    Out (compL (.nm i) ⟨all, none⟩ c el items env st) fun r => (∀ y ∈ r.1, G y) ∧ r.1.length ≤ items.length ∧ I r.2
  | [], all, st, _, h0 => by
    have hc : (MIt.mk all none).chk st := True.intro
    unfold compL
    rw [if_pos hc, out_some]
    exact ⟨fun _ h => by simp at h, Nat.le_refl _, h0⟩
  | x :: xs, all, st, hb, h0 => by
    have hc : (MIt.mk all none).chk st := True.intro
    obtain ⟨b, s, e, q⟩ := hb x List.mem_cons_self st h0
    have next : ∀ s, I s → _ := fun s h => comp_inv I G xs all s (fun y hy => hb y (List.mem_cons_of_mem _ hy)) h
    unfold compL
    rw [if_pos hc]
    simp only [tgSet, e]
    cases b with
    | true =>
      obtain ⟨y, s2, e2, g, q2⟩ := q
      simp only [e2]
      rw [out_map]
      obtain ⟨r, e3, g3, l3, i3⟩ := next s2 q2
      refine ⟨r, e3, fun z hz => ?_, by simpa using l3, i3⟩
      rcases List.mem_cons.mp hz with rfl | hz
      · exact g
      · exact g3 z hz
    | false =>
      obtain ⟨r, e3, g3, l3, i3⟩ := next s q
      exact ⟨r, e3, g3, Nat.le_succ_of_le l3, i3⟩
/-- a comprehension that changes nothing: what is let by, mapped -/
theorem comp_map {i : Nat} {c : M Bool} {el : M PV} {env : MEnv} {st : Sto} {p : PV → Bool} {g : PV → PV} : ∀ (items all : List PV),
    (∀ x ∈ items, c (env.set i (some x)) st = some (.ok (p x) st) ∧ (p x = true → el (env.set i (some x)) st = some (.ok (g x) st))) →
    compL (.nm i) ⟨all, none⟩ c el items env st = some ((items.filter p).map g, st)
  | [], all, _ => by
    have hc : (MIt.mk all none).chk st := True.intro
    unfold compL
    rw [if_pos hc]
    rfl
  | x :: xs, all, hb => by
    have hc : (MIt.mk all none).chk st := True.intro
    have next := comp_map (i := i) (c := c) (el := el) (env := env) (st := st) (p := p) (g := g) xs all fun y hy => hb y (List.mem_cons_of_mem _ hy)
    obtain ⟨e1, e2⟩ := hb x List.mem_cons_self
    unfold compL
    rw [if_pos hc]
    simp only [tgSet, e1]
    cases hp : p x with
    | true =>
      simp only [e2 hp, next, Option.map_some, List.filter_cons, hp, if_true, List.map_cons]
    | false =>
      simp only [next, List.filter_cons, hp, Bool.false_eq_true, if_false]
end
/-! ### operations -/
section
variable {Q : PV → Prop} {i j : Int} {st : Sto}
theorem out_oI {C : Int → Int → Prop} {g : Int → Int → PV} : Out (oI C g (.int i) (.int j) st) Q ↔ C i j ∧ Q (g i j) := by
  unfold oI Out
  by_cases h : C i j <;> simp [h]
theorem out_add : Out (oAdd (.int i) (.int j) st) Q ↔ Q (.int (i + j)) := by simp [Out, oAdd]
theorem out_sub : Out (oSub (.int i) (.int j) st) Q ↔ Q (.int (i - j)) := by unfold oSub; rw [out_oI]; simp
theorem out_mul (h : (-(2 ^ 64) < i ∧ i < 2 ^ 64) ∨ (-(2 ^ 64) < j ∧ j < 2 ^ 64)) : Out (oMul (.int i) (.int j) st) Q ↔ Q (.int (i * j)) := by unfold oMul; rw [out_oI]; exact ⟨fun q => q.2, fun q => ⟨.inl h, q⟩⟩
theorem out_div (h : j ≠ 0) (h2 : j.natAbs.log2 < 9000) : Out (oDiv (.int i) (.int j) st) Q ↔ Q (.int (i.fdiv j)) := by unfold oDiv; rw [out_oI]; exact ⟨fun q => q.2, fun q => ⟨⟨h, h2⟩, q⟩⟩
theorem out_mod (h : j ≠ 0) : Out (oMod (.int i) (.int j) st) Q ↔ Q (.int (i.fmod j)) := by unfold oMod; rw [out_oI]; exact ⟨fun q => q.2, fun q => ⟨h, q⟩⟩
theorem out_pow (h : 0 ≤ j ∧ j ≤ 1000000 ∧ i.natAbs < 2 ^ 64) : Out (oPow (.int i) (.int j) st) Q ↔ Q (.int (i ^ j.toNat)) := by unfold oPow; rw [out_oI]; exact ⟨fun q => q.2, fun q => ⟨h, q⟩⟩
theorem out_neg : Out (oNeg (.int i) st) Q ↔ Q (.int (-i)) := by simp [Out, oNeg]
theorem out_le : Out (oLe (.int i) (.int j) st) Q ↔ Q (.bl (decide (i ≤ j))) := by unfold oLe; rw [out_oI]; simp
theorem out_gt : Out (oGt (.int i) (.int j) st) Q ↔ Q (.bl (decide (j < i))) := by unfold oGt; rw [out_oI]; simp
theorem out_ge : Out (oGe (.int i) (.int j) st) Q ↔ Q (.bl (decide (j ≤ i))) := by unfold oGe; rw [out_oI]; simp
theorem out_lt : Out (oLt (.int i) (.int j) st) Q ↔ Q (.bl (decide (i < j))) := by simp [Out, oLt]
theorem out_eqI : Out (oEq (.int i) (.int j) st) Q ↔ Q (.bl (decide (i = j))) := by
  have e : oEq (.int i) (.int j) st = some (.bl (decide (i = j))) := by
    simp [oEq, oEqB, unlike, asS, asL, dataV, dataP, deep64, PyData.depth, PyData.eqv]
    try (by_cases h : i = j <;> simp [h])
  rw [e, out_some]
theorem out_neI : Out (oNe (.int i) (.int j) st) Q ↔ Q (.bl (!decide (i = j))) := by
  have e : oNe (.int i) (.int j) st = some (.bl (!decide (i = j))) := by
    simp [oNe, oEqB, unlike, asS, asL, dataV, dataP, deep64, PyData.depth, PyData.eqv]
    try (by_cases h : i = j <;> simp [h])
  rw [e, out_some]
theorem out_int : Out (oInt [.int i] st) Q ↔ Q (.int i) := by simp [Out, oInt]
theorem out_abs : Out (oAbs [.int i] st) Q ↔ Q (.int (if i < 0 then -i else i)) := by simp [Out, oAbs]
theorem out_gcd : Out (oGcd [.int i, .int j] st) Q ↔ Q (.int ((Nat.gcd i.natAbs j.natAbs : Nat) : Int)) := by simp [Out, oGcd]
end
/-! ### defs -/
theorem of_defN {n nN : Nat} {b : MS} {xs : List PV} {st : Sto} {Q : PV → Sto → Prop} (hl : xs.length = n) (h : OkS b (xs.map some ++ List.replicate (nN - xs.length) none) st (fun _ s => Q .non s) Q (fun _ _ => False) (fun _ _ => False)) : OkF (defN n nN b) xs st Q := by
  obtain ⟨r, e, q⟩ := h
  unfold OkF defN onlyOk defP
  rw [if_pos hl, e]
  cases r with
  | ret v s => exact ⟨v, s, rfl, q⟩
  | next _ s => exact ⟨_, s, rfl, q⟩
  | brk _ _ => exact q.elim
  | cont _ _ => exact q.elim
  | exc _ _ _ => exact q.elim
theorem of_defT {n nN : Nat} {b : MS} {xs : List PV} {st : Sto} {Q : PV → Sto → Prop} (h : OkF (defN n nN b) xs st fun v s => Closed st s ∧ Out (frz st.length s v) fun v' => Q v' (s.take st.length)) : OkF (defT n nN b) xs st Q := by
  obtain ⟨v, s, e, hc, v', ef, q⟩ := h
  refine ⟨v', s.take st.length, ?_, q⟩
  unfold defT
  rw [e]
  unfold cut
  simp only [if_pos hc, ef]
  rfl
theorem OkF.imp {φ : FnM} {xs : List PV} {st : Sto} {Q Q' : PV → Sto → Prop} (h : OkF φ xs st Q) (k : ∀ v s, Q v s → Q' v s) : OkF φ xs st Q' :=
  let ⟨v, s, e, q⟩ := h
  ⟨v, s, e, k v s q⟩
theorem OkE.imp {α : Type} {m : M α} {env : MEnv} {st : Sto} {Q Q' : α → Sto → Prop} (h : OkE m env st Q) (k : ∀ v s, Q v s → Q' v s) : OkE m env st Q' :=
  let ⟨v, s, e, q⟩ := h
  ⟨v, s, e, k v s q⟩
end Mi

/-! MiB: the bag that laws draw from (plain). -/
namespace Mi
open PySem PySem.Spec PyProof.Rows L2
section
variable {Q : PV → Prop} {QS : Sto → Prop} {x y z w v : PV} {r : List PV} {rest st : Sto} {i : Int}
theorem atI_0 : atI (x :: r) 0 = some x := by
  unfold atI ixN
  have h : (0 : Int) < ((r.length : Int) + 1) := by omega
  simp [h]
theorem atI_1 : atI (x :: y :: r) 1 = some y := by
  unfold atI ixN
  have h : (1 : Int) < ((r.length : Int) + 1 + 1) := by omega
  simp [h]
theorem atI_2 : atI (x :: y :: z :: r) 2 = some z := by
  unfold atI ixN
  have h : (2 : Int) < ((r.length : Int) + 1 + 1 + 1) := by omega
  simp [h]
theorem atI_3 : atI (x :: y :: z :: w :: r) 3 = some w := by
  unfold atI ixN
  have h : (3 : Int) < ((r.length : Int) + 1 + 1 + 1 + 1) := by omega
  simp [h]
theorem ix_r {xs : List PV} : oIx (.ref 0) (.int i) (.lst xs :: rest) = atI xs i := rfl
theorem ix_l {xs : List PV} : oIx (.lst xs) (.int i) st = atI xs i := rfl
theorem ix_t {xs : List PV} : oIx (.tup xs) (.int i) st = atI xs i := rfl
theorem put_0 : oPut (.ref 0) (.int 0) v (.lst (x :: r) :: rest) = some (.lst (v :: r) :: rest) := by
  unfold oPut ixN
  have h : (0 : Int) < ((r.length : Int) + 1) := by omega
  simp [h]
theorem put_1 : oPut (.ref 0) (.int 1) v (.lst (x :: y :: r) :: rest) = some (.lst (x :: v :: r) :: rest) := by
  unfold oPut ixN
  have h : (1 : Int) < ((r.length : Int) + 1 + 1) := by omega
  simp [h]
theorem put_2 : oPut (.ref 0) (.int 2) v (.lst (x :: y :: z :: r) :: rest) = some (.lst (x :: y :: v :: r) :: rest) := by
  unfold oPut ixN
  have h : (2 : Int) < ((r.length : Int) + 1 + 1 + 1) := by omega
  simp [h]
theorem ixn_2 : oIxN (.ref 0) (.int 2) (.lst (x :: y :: z :: r) :: rest) = some z := rfl
theorem cut_l {xs : List PV} {lo hi : Option Int} : oCut (.lst xs) lo hi st = some (.lst (cutP xs lo hi)) := rfl
theorem cut_map {f : Int → PV} {xs : List Int} {lo hi : Option Int} : ∃ ys : List Int, cutP (xs.map f) lo hi = ys.map f ∧ (∀ y ∈ ys, y ∈ xs) ∧ ys.length ≤ xs.length := by
  refine ⟨(xs.drop (HT.sIx (xs.map f).length 0 lo)).take (HT.sIx (xs.map f).length (xs.map f).length hi - HT.sIx (xs.map f).length 0 lo), ?_, fun y hy => ?_, ?_⟩
  · unfold cutP
    rw [List.map_take, List.map_drop]
  · exact List.mem_of_mem_drop (List.mem_of_mem_take hy)
  · rw [List.length_take, List.length_drop]
    omega
theorem add_l {xs ys : List PV} : oAdd (.lst xs) (.lst ys) st = if xs.length + ys.length ≤ sizeLine then some (.lst (xs ++ ys)) else none := rfl
theorem small_line {n : Nat} (h : n ≤ 1000) : n ≤ sizeLine := Nat.le_trans h (by decide)
end
theorem fmod_pos {a b : Int} (h : 0 < b) : 0 ≤ a.fmod b ∧ a.fmod b < b := ⟨Int.fmod_nonneg_of_pos a h, Int.fmod_lt_of_pos a h⟩
theorem fdiv_pos {a b : Int} (h : 0 ≤ a) (h2 : 0 < b) : 0 ≤ a.fdiv b := Int.fdiv_nonneg h (Int.le_of_lt h2)
/-- the bag that numbers are drawn from -/
def BagO (o : MO) : Prop := ∃ (a b c : Int) (cells : List Int), o = .lst [.int a, .int b, .int c, .lst (cells.map .int)] ∧ 0 ≤ a ∧ 0 ≤ b ∧ b < 2147483647 ∧ (∀ x ∈ cells, 0 ≤ x) ∧ cells.length ≤ 63
/-- the def that draws a number -/
noncomputable def bTake2 : MS := (mSeq (mIfS (mTst (mOp oGt (mOp oIx (mVar 0) (mC (.int 0))) (mC (.int 0)))) (mSeq (mSet 4 (mOp oMod (mCl oInt (mCons (mOp oIx (mVar 0) (mC (.int 0))) mNil)) (mVar 1)))
    (mSeq (mPut (mOp oDiv (mCl oInt (mCons (mOp oIx (mVar 0) (mC (.int 0))) mNil)) (mVar 1)) (mVar 0) (mC (.int 0)))
    (mRet (mVar 4)))) mSkip)
    (mSeq (mSet 5 (mOp oMod (mCl oInt (mCons (mOp oMul (mOp oAdd (mOp oIx (mVar 0) (mC (.int 1))) (mC (.int 1))) (mC (.int 39373))) mNil)) (mC (.int 1000000007))))
    (mSeq (mSet 6 (mOp oMod (mCl oInt (mCons (mOp oMul (mOp oMod (mCl oInt (mCons (mOp oMul (mVar 5) (mVar 5)) mNil)) (mC (.int 998244353))) (mC (.int 30011))) mNil)) (mC (.int 998244353))))
    (mRet (mOp oMod (mCl oInt (mCons (mOp oDiv (mVar 6) (mC (.int 7))) mNil)) (mVar 1))))))
noncomputable def gTake : FnM := defN 2 7 (mSeq (mIfS (mTst (mOp oEq (mOp oIx (mVar 0) (mC (.int 0))) (mC (.int 0)))) (mSeq (mSet 2 (mOp oIx (mOp oAdd (mCut (mOp oIx (mVar 0) (mC (.int 3))) (mPart (mOp oIx (mVar 0) (mC (.int 2)))) mNoPart) (mNew (mLst (mCons (mC (.int 0)) mNil)))) (mC (.int 0))))
    (mSeq (mAugP (oI (fun _ _ => True) fun i j => .int (i + j)) (mVar 0) (mC (.int 2)) (mC (.int 1)))
    (mSeq (mIfS (mTst (mOp oGe (mVar 2) (mOp oPow (mC (.int 10)) (mC (.int 18))))) (mPut (mVar 2) (mVar 0) (mC (.int 0))) mSkip)
    (mSeq (mSet 3 (mOp oAdd (mOp oAdd (mOp oMul (mOp oIx (mVar 0) (mC (.int 1))) (mC (.int 48271))) (mOp oMod (mCl oInt (mCons (mVar 2) mNil)) (mC (.int 2147483647)))) (mOp oMul (mC (.int 7919)) (mOp oIx (mVar 0) (mC (.int 2))))))
    (mPut (mOp oMod (mCl oInt (mCons (mVar 3) mNil)) (mC (.int 2147483647))) (mVar 0) (mC (.int 1))))))) mSkip) bTake2)
def MulOk (i j : Int) : Prop := (-(2 ^ 64) < i ∧ i < 2 ^ 64) ∨ (-(2 ^ 64) < j ∧ j < 2 ^ 64) ∨ CMulW i j
def LogOk (j : Int) : Prop := j.natAbs.log2 < 9000
def PowOk (i j : Int) : Prop := 0 ≤ j ∧ j ≤ 1000000 ∧ i.natAbs < 2 ^ 64
theorem out_mulC {Q : PV → Prop} {i j : Int} {st : Sto} : Out (oMul (.int i) (.int j) st) Q ↔ MulOk i j ∧ Q (.int (i * j)) := by
  unfold oMul
  rw [out_oI]
  have e : (CMul i j ∨ CMulW i j) ↔ MulOk i j := or_assoc
  rw [e]
theorem out_divC {Q : PV → Prop} {i j : Int} {st : Sto} : Out (oDiv (.int i) (.int j) st) Q ↔ j ≠ 0 ∧ LogOk j ∧ Q (.int (i.fdiv j)) := by
  unfold oDiv
  rw [out_oI]
  exact and_assoc
theorem out_modC {Q : PV → Prop} {i j : Int} {st : Sto} : Out (oMod (.int i) (.int j) st) Q ↔ j ≠ 0 ∧ Q (.int (i.fmod j)) := by
  unfold oMod
  rw [out_oI]
theorem out_powC {Q : PV → Prop} {i j : Int} {st : Sto} : Out (oPow (.int i) (.int j) st) Q ↔ PowOk i j ∧ Q (.int (i ^ j.toNat)) := by
  unfold oPow
  rw [out_oI]
  rfl
theorem logOk_lt {j : Int} {k : Nat} (h : j.natAbs < 2 ^ (k + 1)) (hk : k < 9000) : LogOk j := by
  unfold LogOk
  have : j.natAbs.log2 < k + 1 := by
    rcases Nat.eq_zero_or_pos j.natAbs with h0 | h0
    · rw [h0]; simp
    · exact (Nat.log2_lt (by omega)).mpr h
  omega
theorem mulOk_l {i j : Int} (h : 0 ≤ i) (h2 : i < 2000000000000000000) : MulOk i j := .inl ⟨by omega, by omega⟩
theorem mulOk_r {i j : Int} (h : 0 ≤ j) (h2 : j < 2000000000000000000) : MulOk i j := .inr (.inl ⟨by omega, by omega⟩)
theorem take2_ok {rest : Sto} {a b c n : Int} {cells : List Int} {x2 x3 : Option PV} (h0 : 0 < n) (h1 : LogOk n) (ha : 0 ≤ a) (hb : 0 ≤ b) (hb2 : b < 2147483647) (hcs : ∀ x ∈ cells, 0 ≤ x) (hl : cells.length ≤ 63) {N B C : QN} :
    OkS bTake2 [some (.ref 0), some (.int n), x2, x3, none, none, none] (.lst [.int a, .int b, .int c, .lst (cells.map .int)] :: rest) N (fun v s => ∃ i B', v = .int i ∧ s = B' :: rest ∧ BagO B' ∧ 0 ≤ i ∧ i < n) B C := by
  have hn : n ≠ 0 := by omega
  simp only [bTake2, os_seq, os_skip, os_brk, os_cont, os_retN, os_drop, os_ret, os_retA, os_set, os_setA, os_if, os_asg, os_par, os_aug, os_put, os_augP, os_for, ok_var, ok_c, ok_nil, ok_cons, ok_tup, ok_lst, ok_new, ok_tst, ok_andT, ok_orT, ok_notT, ok_and, ok_or, ok_not, ok_if, ok_op, ok_un, ok_cl, ok_clF, ok_call, ok_mk, ok_noPart, ok_part, ok_cut, ok_mt, ok_chain, ok_it, ok_range1, ok_range2, ok_lc, ok_yes, out_some, out_none, out_add, out_sub, out_neg, out_le, out_gt, out_ge, out_lt, out_eqI, out_neI, out_int, out_abs, out_gcd, List.map_cons, List.map_nil, List.length_cons, List.length_nil, List.replicate, List.cons_append, List.nil_append, List.append_nil, List.getElem?_cons_zero, List.getElem?_cons_succ, List.set_cons_zero, List.set_cons_succ, PV.bl.injEq, PV.int.injEq, PV.str.injEq, exists_eq_left', exists_eq_left, and_true, true_and, if_true, if_false, Bool.false_eq_true, Bool.true_eq_false, decide_eq_true_eq, Nat.sub_self, Nat.reduceAdd, Nat.reduceSub, Nat.reduceLeDiff, List.cons.injEq, ix_r, ix_l, atI_0, atI_1, atI_2, atI_3, put_0, put_1, put_2, ixn_2, cut_l, out_oI, out_mulC, out_divC, out_modC, out_powC]
  split
  · refine ⟨hn, hn, h1, _, _, rfl, rfl, ⟨_, b, c, cells, rfl, fdiv_pos ha h0, hb, hb2, hcs, hl⟩, (fmod_pos h0).1, (fmod_pos h0).2⟩
  · have m1 := fmod_pos (a := (b + 1) * 39373) (b := 1000000007) (by decide)
    generalize ((b + 1) * 39373).fmod 1000000007 = k1 at m1 ⊢
    have m2 := fmod_pos (a := k1 * k1) (b := 998244353) (by decide)
    generalize (k1 * k1).fmod 998244353 = k2 at m2 ⊢
    refine ⟨mulOk_r (by decide) (by decide), by decide, mulOk_l m1.1 (by omega), by decide, mulOk_l m2.1 (by omega), by decide, by decide, logOk_lt (k := 5) (by decide) (by decide), hn, _, _, rfl, rfl, ⟨a, b, c, cells, rfl, ha, hb, hb2, hcs, hl⟩, (fmod_pos h0).1, (fmod_pos h0).2⟩
theorem first_of {ys : List Int} (h : ∀ y ∈ ys, 0 ≤ y) : ∃ v : Int, 0 ≤ v ∧ ∀ st, oIx (.lst (ys.map .int ++ [.int 0])) (.int 0) st = some (.int v) := by
  cases ys with
  | nil => exact ⟨0, by omega, fun _ => by rw [ix_l]; exact atI_0⟩
  | cons y ys => exact ⟨y, h y List.mem_cons_self, fun _ => by rw [ix_l]; exact atI_0⟩
theorem take_ok {B : MO} {rest : Sto} {n : Int} (hB : BagO B) (h0 : 0 < n) (h1 : LogOk n) : OkF gTake [.ref 0, .int n] (B :: rest) fun v s => ∃ i B', v = .int i ∧ s = B' :: rest ∧ BagO B' ∧ 0 ≤ i ∧ i < n := by
  obtain ⟨a, b, c, cells, rfl, ha, hb, hb2, hcs, hl⟩ := hB
  refine of_defN rfl ?_
  simp only [os_seq, os_skip, os_brk, os_cont, os_retN, os_drop, os_ret, os_retA, os_set, os_setA, os_if, os_asg, os_par, os_aug, os_put, os_augP, os_for, ok_var, ok_c, ok_nil, ok_cons, ok_tup, ok_lst, ok_new, ok_tst, ok_andT, ok_orT, ok_notT, ok_and, ok_or, ok_not, ok_if, ok_op, ok_un, ok_cl, ok_clF, ok_call, ok_mk, ok_noPart, ok_part, ok_cut, ok_mt, ok_chain, ok_it, ok_range1, ok_range2, ok_lc, ok_yes, out_some, out_none, out_add, out_sub, out_neg, out_le, out_gt, out_ge, out_lt, out_eqI, out_neI, out_int, out_abs, out_gcd, List.map_cons, List.map_nil, List.length_cons, List.length_nil, List.replicate, List.cons_append, List.nil_append, List.append_nil, List.getElem?_cons_zero, List.getElem?_cons_succ, List.set_cons_zero, List.set_cons_succ, PV.bl.injEq, PV.int.injEq, PV.str.injEq, exists_eq_left', exists_eq_left, and_true, true_and, if_true, if_false, Bool.false_eq_true, Bool.true_eq_false, decide_eq_true_eq, Nat.sub_self, Nat.reduceAdd, Nat.reduceSub, Nat.reduceLeDiff, List.cons.injEq, ix_r, atI_0, atI_1, atI_2, atI_3, ixn_2, put_2, cut_l, out_oI, add_l, out_iff1]
  split
  · obtain ⟨ys, e, hm, hy⟩ := cut_map (f := .int) (xs := cells) (lo := some c) (hi := none)
    rw [e]
    obtain ⟨v, hv, ev⟩ := first_of fun y h => hcs y (hm y h)
    refine ⟨small_line (by decide), small_line (by rw [List.length_map]; simp; omega), ?_⟩
    rw [ev, out_some]
    simp only [out_powC]
    refine ⟨⟨by decide, by decide, by decide⟩, ?_⟩
    simp only [os_seq, os_skip, os_brk, os_cont, os_retN, os_drop, os_ret, os_retA, os_set, os_setA, os_if, os_asg, os_par, os_aug, os_put, os_augP, os_for, ok_var, ok_c, ok_nil, ok_cons, ok_tup, ok_lst, ok_new, ok_tst, ok_andT, ok_orT, ok_notT, ok_and, ok_or, ok_not, ok_if, ok_op, ok_un, ok_cl, ok_clF, ok_call, ok_mk, ok_noPart, ok_part, ok_cut, ok_mt, ok_chain, ok_it, ok_range1, ok_range2, ok_lc, ok_yes, out_some, out_none, out_add, out_sub, out_neg, out_le, out_gt, out_ge, out_lt, out_eqI, out_neI, out_int, out_abs, out_gcd, List.map_cons, List.map_nil, List.length_cons, List.length_nil, List.replicate, List.cons_append, List.nil_append, List.append_nil, List.getElem?_cons_zero, List.getElem?_cons_succ, List.set_cons_zero, List.set_cons_succ, PV.bl.injEq, PV.int.injEq, PV.str.injEq, exists_eq_left', exists_eq_left, and_true, true_and, if_true, if_false, Bool.false_eq_true, Bool.true_eq_false, decide_eq_true_eq, Nat.sub_self, Nat.reduceAdd, Nat.reduceSub, Nat.reduceLeDiff, List.cons.injEq, ix_r, atI_0, atI_1, atI_2, put_0, put_1, out_mulC, out_modC]
    have m1 : ∀ z : Int, 0 ≤ z.fmod 2147483647 ∧ z.fmod 2147483647 < 2147483647 := fun z => fmod_pos (by decide)
    split
    · exact ⟨mulOk_r (by decide) (by decide), by decide, mulOk_l (by decide) (by decide), by decide, take2_ok h0 h1 hv (m1 _).1 (m1 _).2 hcs hl⟩
    · exact ⟨mulOk_r (by decide) (by decide), by decide, mulOk_l (by decide) (by decide), by decide, take2_ok h0 h1 ha (m1 _).1 (m1 _).2 hcs hl⟩
  · exact take2_ok h0 h1 ha hb hb2 hcs hl
end Mi

/-! MiC: one of some; the bag itself; alike (plain). -/
namespace Mi
open PySem PySem.Spec PyProof.Rows L2
/-- the def that draws one of some things -/
noncomputable def gSome : FnM := defN 2 2 (mRet (mOp oIx (mVar 1) (mCall0 gTake (mCons (mVar 0) (mCons (mCl oLen (mCons (mVar 1) mNil)) mNil)))))
theorem atI_mem {α : Type} {xs : List α} {i : Int} (h0 : 0 ≤ i) (h1 : i < xs.length) : ∃ x ∈ xs, atI xs i = some x := by
  have h : i.toNat < xs.length := by omega
  refine ⟨xs[i.toNat], List.getElem_mem h, ?_⟩
  unfold atI ixN
  simp [h0, h1, h]
theorem logOk_small {n : Nat} (h : n < 2 ^ 64) : LogOk (n : Int) := logOk_lt (k := 63) (by simpa using h) (by decide)
theorem some_ok {B : MO} {rest : Sto} {xs : List PV} (hB : BagO B) (h0 : xs ≠ []) (h1 : xs.length < 2 ^ 64) : OkF gSome [.ref 0, .lst xs] (B :: rest) fun v s => ∃ B', v ∈ xs ∧ s = B' :: rest ∧ BagO B' := by
  refine of_defN rfl ?_
  have hl : 0 < xs.length := List.length_pos_iff.mpr h0
  have el : ∀ s, oLen [.lst xs] s = some (.int xs.length) := fun _ => rfl
  simp only [os_seq, os_skip, os_brk, os_cont, os_retN, os_drop, os_ret, os_retA, os_set, os_setA, os_if, os_asg, os_par, os_aug, os_put, os_augP, os_for, ok_var, ok_c, ok_nil, ok_cons, ok_tup, ok_lst, ok_new, ok_tst, ok_andT, ok_orT, ok_notT, ok_and, ok_or, ok_not, ok_if, ok_op, ok_un, ok_cl, ok_clF, ok_call, ok_mk, ok_noPart, ok_part, ok_cut, ok_mt, ok_chain, ok_it, ok_range1, ok_range2, ok_lc, ok_yes, out_some, out_none, out_add, out_sub, out_neg, out_le, out_gt, out_ge, out_lt, out_eqI, out_neI, out_int, out_abs, out_gcd, List.map_cons, List.map_nil, List.length_cons, List.length_nil, List.replicate, List.cons_append, List.nil_append, List.append_nil, List.getElem?_cons_zero, List.getElem?_cons_succ, List.set_cons_zero, List.set_cons_succ, PV.bl.injEq, PV.int.injEq, PV.str.injEq, exists_eq_left', exists_eq_left, and_true, true_and, if_true, if_false, Bool.false_eq_true, Bool.true_eq_false, decide_eq_true_eq, Nat.sub_self, Nat.reduceAdd, Nat.reduceSub, Nat.reduceLeDiff, List.cons.injEq, el]
  refine (take_ok hB (by omega) (logOk_small h1)).imp fun v s h => ?_
  obtain ⟨i, B', rfl, rfl, hB', g0, g1⟩ := h
  obtain ⟨x, hx, e⟩ := atI_mem (xs := xs) g0 g1
  rw [ix_l, e, out_some]
  exact ⟨B', hx, rfl, hB'⟩
theorem some_str {B : MO} {rest : Sto} {z : Str} (hB : BagO B) (h0 : 0 < z.length) (h1 : z.length < 2 ^ 64) : OkF gSome [.ref 0, .str z] (B :: rest) fun v s => ∃ B' c, v = .str ⟨#[c]⟩ ∧ s = B' :: rest ∧ BagO B' := by
  refine of_defN rfl ?_
  have el : ∀ s, oLen [.str z] s = some (.int z.length) := fun _ => rfl
  simp only [os_seq, os_skip, os_brk, os_cont, os_retN, os_drop, os_ret, os_retA, os_set, os_setA, os_if, os_asg, os_par, os_aug, os_put, os_augP, os_for, ok_var, ok_c, ok_nil, ok_cons, ok_tup, ok_lst, ok_new, ok_tst, ok_andT, ok_orT, ok_notT, ok_and, ok_or, ok_not, ok_if, ok_op, ok_un, ok_cl, ok_clF, ok_call, ok_mk, ok_noPart, ok_part, ok_cut, ok_mt, ok_chain, ok_it, ok_range1, ok_range2, ok_lc, ok_yes, out_some, out_none, out_add, out_sub, out_neg, out_le, out_gt, out_ge, out_lt, out_eqI, out_neI, out_int, out_abs, out_gcd, List.map_cons, List.map_nil, List.length_cons, List.length_nil, List.replicate, List.cons_append, List.nil_append, List.append_nil, List.getElem?_cons_zero, List.getElem?_cons_succ, List.set_cons_zero, List.set_cons_succ, PV.bl.injEq, PV.int.injEq, PV.str.injEq, exists_eq_left', exists_eq_left, and_true, true_and, if_true, if_false, Bool.false_eq_true, Bool.true_eq_false, decide_eq_true_eq, Nat.sub_self, Nat.reduceAdd, Nat.reduceSub, Nat.reduceLeDiff, List.cons.injEq, el]
  refine (take_ok hB (by omega) (logOk_small h1)).imp fun v s h => ?_
  obtain ⟨i, B', rfl, rfl, hB', g0, g1⟩ := h
  obtain ⟨x, hx, e⟩ := atI_mem (xs := z.cps.toList) g0 (by simpa [Str.length] using g1)
  have e2 : oIx (.str z) (.int i) (B' :: rest) = some (.str ⟨#[x]⟩) := by
    show (atI z.cps.toList i).map _ = _
    rw [e]
    rfl
  rw [e2, out_some]
  exact ⟨B', x, rfl, rfl, hB'⟩
def absP : PV → PV
  | .int i => .int (if i < 0 then -i else i)
  | x => x
/-- the def that makes the bag of a script -/
noncomputable def gBag : FnM := defN 1 2 (mRetA (mLst (mCons (mC (.int 0)) (mCons (mC (.int 1234567891)) (mCons (mC (.int 0)) (mCons (mNew (mLc (.nm 1) (mIt (mCut (mVar 0) mNoPart (mPart (mC (.int 63))))) [1] mYes (mCl oAbs (mCons (mVar 1) mNil)))) mNil))))))
theorem bag_ok {ns : List Int} (h : ns.length ≤ 63) : OkF gBag [.rol (ns.map .int)] [] fun v s => ∃ B, v = .ref 0 ∧ s = [B] ∧ BagO B := by
  refine of_defN rfl ?_
  have ec : ∀ lo hi s, oCut (.rol (ns.map .int)) lo hi s = some (.lst (cutP (ns.map .int) lo hi)) := fun _ _ _ => rfl
  have ei : ∀ xs s, mItOf (.lst xs) s = some ⟨xs, none⟩ := fun _ _ => rfl
  simp only [os_seq, os_skip, os_brk, os_cont, os_retN, os_drop, os_ret, os_retA, os_set, os_setA, os_if, os_asg, os_par, os_aug, os_put, os_augP, os_for, ok_var, ok_c, ok_nil, ok_cons, ok_tup, ok_lst, ok_new, ok_tst, ok_andT, ok_orT, ok_notT, ok_and, ok_or, ok_not, ok_if, ok_op, ok_un, ok_cl, ok_clF, ok_call, ok_mk, ok_noPart, ok_part, ok_cut, ok_mt, ok_chain, ok_it, ok_range1, ok_range2, ok_lc, ok_yes, out_some, out_none, out_add, out_sub, out_neg, out_le, out_gt, out_ge, out_lt, out_eqI, out_neI, out_int, out_abs, out_gcd, List.map_cons, List.map_nil, List.length_cons, List.length_nil, List.replicate, List.cons_append, List.nil_append, List.append_nil, List.getElem?_cons_zero, List.getElem?_cons_succ, List.set_cons_zero, List.set_cons_succ, PV.bl.injEq, PV.int.injEq, PV.str.injEq, exists_eq_left', exists_eq_left, and_true, true_and, if_true, if_false, Bool.false_eq_true, Bool.true_eq_false, decide_eq_true_eq, Nat.sub_self, Nat.reduceAdd, Nat.reduceSub, Nat.reduceLeDiff, List.cons.injEq, ec, ei, wipeM]
  obtain ⟨ys, e, hm, hy⟩ := cut_map (f := .int) (xs := ns) (lo := none) (hi := some 63)
  rw [e]
  have hc : compL (.nm 1) ⟨ys.map .int, none⟩ mYes (mCl oAbs (mCons (mVar 1) mNil)) (ys.map .int) [some (.rol (ns.map .int)), none] [] = some (((ys.map .int).filter fun _ => true).map absP, []) := by
    refine comp_map (p := fun _ => true) (g := absP) _ _ fun x hx => ⟨rfl, fun _ => ?_⟩
    obtain ⟨i, _, rfl⟩ := List.mem_map.mp hx
    rfl
  have hf : ∀ l : List PV, l.filter (fun _ => true) = l := fun l => by simp
  rw [hc, out_some, hf]
  refine ⟨small_line (by simp), _, rfl, rfl, 0, 1234567891, 0, ys.map fun i => if i < 0 then -i else i, ?_, by decide, by decide, by decide, fun x hx => ?_, by rw [List.length_map]; omega⟩
  · rw [List.map_map, List.map_map]
    rfl
  · obtain ⟨i, _, rfl⟩ := List.mem_map.mp hx
    split <;> omega
/-- the def that says whether two values are alike -/
noncomputable def gAlike : FnM := defN 2 2 (mRet (mAnd (mOp oEq (mVar 0) (mVar 1)) (mOp oEq (mCl oRepr (mCons (mVar 0) mNil)) (mCl oRepr (mCons (mVar 1) mNil)))))
theorem alike_ok {x y : PV} {d : PyData} {st : Sto} (hx : dataV st x = some d) (hy : dataV st y = some d) (hu : unlike st x y = false) (hp : d.plain = true) (hs : shows d = true) : OkF gAlike [x, y] st fun v s => v = .bl true ∧ s = st := by
  have h64 : deep64 d = true := by
    simp only [shows, Bool.and_eq_true] at hs
    exact hs.1.2
  have e1 : oEq x y st = some (.bl true) := by
    unfold oEq oEqB
    simp only [hu, hx, hy, h64, Bool.and_true, if_true, Bool.false_eq_true, if_false, Option.map_some, PySem.SeqAt.eqv_refl_plain d hp]
  have e2 : oRepr [x] st = some (.str d.shown) := by simp only [oRepr, hx, hs, if_true]
  have e3 : oRepr [y] st = some (.str d.shown) := by simp only [oRepr, hy, hs, if_true]
  have e4 : oEq (.str d.shown) (.str d.shown) st = some (.bl true) := by
    simp [oEq, oEqB, unlike, asS, asL, dataV, dataP, deep64, PyData.depth, PyData.eqv]
  refine of_defN rfl ?_
  simp only [os_seq, os_skip, os_brk, os_cont, os_retN, os_drop, os_ret, os_retA, os_set, os_setA, os_if, os_asg, os_par, os_aug, os_put, os_augP, os_for, ok_var, ok_c, ok_nil, ok_cons, ok_tup, ok_lst, ok_new, ok_tst, ok_andT, ok_orT, ok_notT, ok_and, ok_or, ok_not, ok_if, ok_op, ok_un, ok_cl, ok_clF, ok_call, ok_mk, ok_noPart, ok_part, ok_cut, ok_mt, ok_chain, ok_it, ok_range1, ok_range2, ok_lc, ok_yes, out_some, out_none, out_add, out_sub, out_neg, out_le, out_gt, out_ge, out_lt, out_eqI, out_neI, out_int, out_abs, out_gcd, List.map_cons, List.map_nil, List.length_cons, List.length_nil, List.replicate, List.cons_append, List.nil_append, List.append_nil, List.getElem?_cons_zero, List.getElem?_cons_succ, List.set_cons_zero, List.set_cons_succ, PV.bl.injEq, PV.int.injEq, PV.str.injEq, exists_eq_left', exists_eq_left, and_true, true_and, if_true, if_false, Bool.false_eq_true, Bool.true_eq_false, decide_eq_true_eq, Nat.sub_self, Nat.reduceAdd, Nat.reduceSub, Nat.reduceLeDiff, List.cons.injEq, e1, e2, e3, e4]
end Mi

/-! MiD: what mirrors over changing dicts answer (plain; for simp); rows of keys and values. -/
namespace Mi
open PySem PySem.Spec PyProof.Rows L2
section
variable {env : MEnv} {st : Sto} {Q : PV → Sto → Prop} {QB : Bool → Sto → Prop} {QL : List PV → Sto → Prop} {QD : PD → Sto → Prop} {N B C : QN} {R : QV}
theorem ok_newA {m : M (List PV)} : OkE (mNewA m) env st Q ↔ OkE m env st fun xs s => Q (.ref s.length) (s ++ [.lst xs]) := ok_bind' fun _ _ => ex_ok
theorem ok_newD {m : M PD} : OkE (mNewD m) env st Q ↔ OkE m env st fun ps s => Q (.ref s.length) (s ++ [.dic ps]) := ok_bind' fun _ _ => ex_ok
theorem ok_newV {m : M PD} : OkE (mNewV m) env st Q ↔ OkE m env st fun ps s => Q (.dic ps) s := ok_bind' fun _ _ => ok_pure
theorem ok_dic0 : OkE mDic0 env st QD ↔ QD [] st := ex_ok
theorem ok_clD {o : OD} {a : M (List PV)} : OkE (mClD o a) env st QD ↔ OkE a env st fun xs s => Out (o xs s) fun z => QD z s := ok_bind' fun _ _ => ok_map (g := id)
theorem ok_pairs0 {acc : PD} : OkE (mPairs [] acc) env st QD ↔ QD acc st := ok_pure
theorem ok_pairs1 {acc : PD} {k v : M PV} {r : List (M PV × M PV)} : OkE (mPairs ((k, v) :: r) acc) env st QD ↔ OkE k env st fun x s => OkE v env s fun y s => OkE (mPairs r (acc ++ [(x, y)])) env s QD :=
  ok_bind' fun _ _ => ok_bind' fun _ _ => Iff.rfl
theorem ok_disp {ms : List (M PV × M PV)} : OkE (mDisp ms) env st QD ↔ OkE (mPairs ms []) env st fun ps s => keyed ps = true ∧ QD (mergeP [] ps) s := ok_bind' fun _ _ => ok_if1
def oSortI (x : PV) (st : Sto) : Option (List PV) := match x with
  | .ref r => match st[r]? with
    | some (.dic ps) => match prsOf ps with
      | some ks => if okI ks then some ((sortI ks).map fun e => .tup [.str e.1, .str e.2]) else none
      | none => none
    | _ => none
  | _ => none
theorem ok_sortItems {m : M PV} : OkE (mSortItems m) env st QL ↔ OkE m env st fun x s => Out (oSortI x s) fun xs => QL xs s := by
  refine ok_bind' fun x s => ?_
  unfold OkE oSortI
  cases x with
  | ref r =>
    simp only
    cases e : s[r]? with
    | none => simp only [ex_none, out_none]
    | some o => cases o with
      | dic ps =>
        simp only
        cases e2 : prsOf ps with
        | none => simp only [ex_none, out_none]
        | some ks =>
          simp only
          by_cases h : okI ks = true
          · simp only [h, if_true, ex_ok, out_some]
          · simp only [h, if_false, ex_none, out_none, Bool.false_eq_true]
      | lst _ => simp only [ex_none, out_none]
      | loc _ => simp only [ex_none, out_none]
  | _ => simp only [ex_none, out_none]
def oClear (x : PV) (st : Sto) : Option Sto := match x with
  | .ref r => match st[r]? with
    | some (.dic _) => some (st.set r (.dic []))
    | _ => none
  | _ => none
theorem ok_clear {m : M PV} : OkE (mClear m) env st Q ↔ OkE m env st fun x s => Out (oClear x s) fun s' => Q .non s' := by
  refine ok_bind' fun x s => ?_
  unfold OkE oClear
  cases x with
  | ref r =>
    simp only
    cases e : s[r]? with
    | none => simp only [ex_none, out_none]
    | some o => cases o <;> simp only [ex_none, out_none, ex_ok, out_some]
  | _ => simp only [ex_none, out_none]
theorem ok_idx {m : M PV} {a : M (List PV)} : OkE (mIdx m a) env st Q ↔ OkE m env st fun x s => (asT x).isSome = true ∧ OkE a env s fun ys s => Out (oIdx x ys) fun r => Q r s := by
  refine ok_bind' fun x s => ?_
  by_cases h : (asT x).isSome = true
  · refine Iff.trans (b := OkE (M.bind a (fun ys => fun _ st => (oIdx x ys).map fun r => .ok r st)) env s Q) ?_ ?_
    · unfold OkE
      simp only [h, if_true]
    · refine Iff.trans (ok_bind' (R := fun ys s => Out (oIdx x ys) fun r => Q r s) fun ys s => ok_map (g := id)) ?_
      simp only [h, true_and]
  · unfold OkE
    simp only [h, if_false, ex_none, false_and, Bool.false_eq_true]
theorem os_putD {me mo mi : M PV} : OkS (mPutD me mo mi) env st N R B C ↔ OkE me env st fun y s => OkE mo env s fun x s => OkE mi env s fun k s => Out (oPutD x k y s) fun s => N env s :=
  os_bind fun _ _ => os_bind fun _ _ => os_bind fun _ _ => sx_map
theorem os_lc2 {t t1 : Tg} {mi mi1 : M MIt} {vs vs1 : List Nat} {mc mc1 : M Bool} {me : M PV} : OkE (mLc2 t mi vs mc mi1 t1 vs1 mc1 me) env st QL ↔ OkE mi env st fun it s => Out (comp2 t it mc mi1 t1 vs1 mc1 me it.items (wipeM env vs) s) fun r => r.1.length ≤ sizeLine ∧ QL r.1 r.2 := by
  refine ok_bind' fun it s => ?_
  unfold OkE
  cases e : comp2 t it mc mi1 t1 vs1 mc1 me it.items (wipeM env vs) s with
  | none => simp only [e, ex_none, out_none]
  | some r =>
    obtain ⟨ys, s'⟩ := r
    simp only [e, out_some]
    exact ok_if1
end
/-- a comprehension that changes nothing, over anything that is not changed meanwhile -/
theorem comp_mapG {it : MIt} {i : Nat} {c : M Bool} {el : M PV} {env : MEnv} {st : Sto} {p : PV → Bool} {g : PV → PV} (hc : it.chk st) : ∀ (items : List PV),
    (∀ x ∈ items, c (env.set i (some x)) st = some (.ok (p x) st) ∧ (p x = true → el (env.set i (some x)) st = some (.ok (g x) st))) →
    compL (.nm i) it c el items env st = some ((items.filter p).map g, st)
  | [], hb => by
    unfold compL
    rw [if_pos hc]
    rfl
  | x :: xs, hb => by
    have next := comp_mapG (it := it) (i := i) (c := c) (el := el) (env := env) (st := st) (p := p) (g := g) hc xs fun y hy => hb y (List.mem_cons_of_mem _ hy)
    obtain ⟨e1, e2⟩ := hb x List.mem_cons_self
    unfold compL
    rw [if_pos hc]
    simp only [tgSet, e1]
    cases hp : p x with
    | true =>
      simp only [e2 hp, next, Option.map_some, List.filter_cons, hp, if_true, List.map_cons]
    | false =>
      simp only [next, List.filter_cons, hp, Bool.false_eq_true, if_false]
/-- the same over a row of texts -/
theorem comp_strs {it : MIt} {i : Nat} {c : M Bool} {el : M PV} {env : MEnv} {st : Sto} {p : Str → Bool} {g : Str → PV} (hc : it.chk st) (zs : List Str)
    (hb : ∀ z ∈ zs, c (env.set i (some (.str z))) st = some (.ok (p z) st) ∧ (p z = true → el (env.set i (some (.str z))) st = some (.ok (g z) st))) :
    compL (.nm i) it c el (zs.map .str) env st = some ((zs.filter p).map g, st) := by
  have := comp_mapG (it := it) (i := i) (c := c) (el := el) (env := env) (st := st) (p := fun x => match x with | .str z => p z | _ => false) (g := fun x => match x with | .str z => g z | x => x) hc (zs.map .str) fun x hx => by
    obtain ⟨z, hz, rfl⟩ := List.mem_map.mp hx
    exact hb z hz
  rw [this]
  congr 2
  rw [List.filter_map, List.map_map]
  rfl
theorem chk_none {xs : List PV} {st : Sto} : (MIt.mk xs none).chk st := True.intro
theorem chk_lst {xs : List PV} {r : Nat} {st : Sto} (h : st[r]? = some (.lst xs)) : (MIt.mk xs (some (.lst r))).chk st := h
/-- what is so of a test and of an expression, as an equation -/
theorem ok_eq {α : Type} {m : M α} {env : MEnv} {st : Sto} {a : α} (h : OkE m env st fun b s => b = a ∧ s = st) : m env st = some (.ok a st) := by
  obtain ⟨b, s, e, rfl, rfl⟩ := h
  exact e
/-! ### rows of keys and values -/
section
variable {β : Type}
def mapD (f : β → PV) (es : List (Str × β)) : PD := es.map fun e => (.str e.1, f e.2)
def getA (es : List (Str × β)) (z : Str) : Option β := (es.find? fun e => decide (e.1 = z)).map (·.2)
def hasA (es : List (Str × β)) (z : Str) : Bool := es.any fun e => decide (e.1 = z)
def putA (es : List (Str × β)) (z : Str) (y : β) : List (Str × β) := if hasA es z then es.map (fun e => if e.1 = z then (e.1, y) else e) else es ++ [(z, y)]
theorem valP_mapD (f : β → PV) (z : Str) : ∀ es : List (Str × β), valP (mapD f es) (.inr z) = (getA es z).map f
  | [] => rfl
  | e :: es => by
    have ih := valP_mapD f z es
    unfold valP mapD getA at *
    simp only [List.map_cons, List.find?_cons, keyOf, Option.some.injEq, Sum.inr.injEq]
    by_cases h : e.1 = z
    · simp [h]
    · simp only [h, decide_false]
      exact ih
theorem hasP_mapD (f : β → PV) (z : Str) (es : List (Str × β)) : hasP (mapD f es) (.inr z) = hasA es z := by
  unfold hasP mapD hasA
  rw [List.any_map]
  congr 1
  funext e
  simp [keyOf]
theorem putP_mapD (f : β → PV) (z : Str) (y : β) (es : List (Str × β)) : putP (mapD f es) (.inr z) (.str z) (f y) = mapD f (putA es z y) := by
  unfold putP putA
  rw [hasP_mapD]
  by_cases h : hasA es z = true
  · rw [if_pos h, if_pos h]
    unfold setP mapD
    rw [List.map_map, List.map_map]
    refine List.map_congr_left fun e _ => ?_
    simp only [Function.comp, keyOf, Option.some.injEq, Sum.inr.injEq]
    by_cases h2 : e.1 = z <;> simp [h2]
  · rw [if_neg h, if_neg h]
    simp [mapD]
def mergeA (es more : List (Str × β)) : List (Str × β) := more.foldl (fun acc e => putA acc e.1 e.2) es
theorem mergeP_mapD (f : β → PV) : ∀ (more es : List (Str × β)), mergeP (mapD f es) (mapD f more) = mapD f (mergeA es more)
  | [], es => rfl
  | e :: more, es => by
    have ih := mergeP_mapD f more (putA es e.1 e.2)
    unfold mergeP mergeA at *
    simp only [mapD, List.map_cons, List.foldl_cons] at *
    rw [← ih]
    congr 1
    show putP (mapD f es) (.inr e.1) (.str e.1) (f e.2) = _
    rw [putP_mapD]
    rfl
theorem strs_mapD (f : β → PV) : ∀ es : List (Str × β), strsOf ((mapD f es).map (·.1)) = some (es.map (·.1))
  | [] => rfl
  | e :: es => by
    have ih := strs_mapD f es
    simp only [mapD, List.map_cons, strsOf] at *
    rw [ih]
    rfl
theorem strsOf_map : ∀ zs : List Str, strsOf (zs.map .str) = some zs
  | [] => rfl
  | z :: zs => by simp only [List.map_cons, strsOf, strsOf_map zs, Option.map_some]
theorem prsOf_mapD : ∀ es : List (Str × Str), prsOf (mapD .str es) = some es
  | [] => rfl
  | e :: es => by
    have ih := prsOf_mapD es
    simp only [mapD, List.map_cons, prsOf] at *
    rw [ih]
    rfl
theorem pairsOf_map (f : β → PV) : ∀ es : List (Str × β), pairsOf (es.map fun e => PV.tup [.str e.1, f e.2]) = some (mapD f es)
  | [] => rfl
  | e :: es => by
    have ih := pairsOf_map f es
    simp only [List.map_cons, pairsOf, keyOf, Option.isSome_some, if_true, ih, Option.map_some]
    rfl
theorem mapD_len (f : β → PV) (es : List (Str × β)) : (mapD f es).length = es.length := List.length_map _
theorem hasA_iff {es : List (Str × β)} {z : Str} : hasA es z = true ↔ z ∈ es.map (·.1) := by
  unfold hasA
  rw [List.any_eq_true, List.mem_map]
  simp only [decide_eq_true_eq]
theorem getA_some {es : List (Str × β)} {z : Str} (h : z ∈ es.map (·.1)) : ∃ y, getA es z = some y ∧ (z, y) ∈ es := by
  rw [List.mem_map] at h
  obtain ⟨e, he, rfl⟩ := h
  unfold getA
  cases g : es.find? fun e' => decide (e'.1 = e.1) with
  | none =>
    have := List.find?_eq_none.mp g e he
    simp at this
  | some e' =>
    have h1 := List.find?_some g
    have h2 := List.mem_of_find?_eq_some g
    simp only [decide_eq_true_eq] at h1
    exact ⟨e'.2, rfl, by rw [← h1]; exact h2⟩
theorem getA_mem {es : List (Str × β)} {z : Str} {y : β} (h : getA es z = some y) : (z, y) ∈ es := by
  unfold getA at h
  rw [Option.map_eq_some_iff] at h
  obtain ⟨e, g, rfl⟩ := h
  have h1 := List.find?_some g
  have h2 := List.mem_of_find?_eq_some g
  simp only [decide_eq_true_eq] at h1
  rw [← h1]
  exact h2
theorem putA_keys {es : List (Str × β)} {z : Str} {y : β} : (putA es z y).map (·.1) = if z ∈ es.map (·.1) then es.map (·.1) else es.map (·.1) ++ [z] := by
  unfold putA
  by_cases h : hasA es z = true
  · rw [if_pos h, if_pos (hasA_iff.mp h), List.map_map]
    refine List.map_congr_left fun e _ => ?_
    simp only [Function.comp]
    split <;> rfl
  · rw [if_neg h, if_neg fun g => h (hasA_iff.mpr g)]
    simp
theorem putA_mem {es : List (Str × β)} {z : Str} {y : β} {e : Str × β} (h : e ∈ putA es z y) : e = (z, y) ∨ (e ∈ es ∧ e.1 ≠ z) := by
  unfold putA at h
  by_cases g : hasA es z = true
  · rw [if_pos g, List.mem_map] at h
    obtain ⟨x, hx, rfl⟩ := h
    by_cases k : x.1 = z
    · rw [if_pos k, k]; exact .inl rfl
    · rw [if_neg k]; exact .inr ⟨hx, k⟩
  · rw [if_neg g, List.mem_append] at h
    rcases h with h | h
    · refine .inr ⟨h, fun k => g (hasA_iff.mpr ?_)⟩
      exact List.mem_map.mpr ⟨e, h, k⟩
    · exact .inl (by simpa using h)
theorem putA_new {es : List (Str × β)} {z : Str} {y : β} (h : z ∉ es.map (·.1)) : putA es z y = es ++ [(z, y)] := by
  unfold putA
  rw [if_neg fun g => h (hasA_iff.mp g)]
theorem putA_len {es : List (Str × β)} {z : Str} {y : β} : (putA es z y).length ≤ es.length + 1 := by
  unfold putA
  split <;> simp
theorem putA_nodup {es : List (Str × β)} {z : Str} {y : β} (h : (es.map (·.1)).Nodup) : ((putA es z y).map (·.1)).Nodup := by
  rw [putA_keys]
  split
  · exact h
  · rename_i g
    rw [List.nodup_append]
    exact ⟨h, by simp, fun a ha b hb => by simp at hb; subst hb; exact fun e => g (e ▸ ha)⟩
theorem getA_self {es : List (Str × β)} {z : Str} {y : β} : getA (putA es z y) z = some y := by
  have hz : z ∈ (putA es z y).map (·.1) := by
    rw [putA_keys]
    split
    · assumption
    · simp
  obtain ⟨y', h1, h2⟩ := getA_some hz
  rcases putA_mem h2 with e | ⟨_, e⟩
  · cases e; exact h1
  · exact absurd rfl e
theorem getA_append {es more : List (Str × β)} {x : Str} {y : β} (h : getA es x = some y) : getA (es ++ more) x = some y := by
  unfold getA at *
  rw [Option.map_eq_some_iff] at h
  obtain ⟨e, g, rfl⟩ := h
  rw [List.find?_append, g]
  rfl
theorem mergeA_new : ∀ {more es : List (Str × β)}, (es.map (·.1) ++ more.map (·.1)).Nodup → mergeA es more = es ++ more
  | [], es, _ => by simp [mergeA]
  | e :: more, es, h => by
    unfold mergeA
    rw [List.foldl_cons, putA_new]
    · have ih := mergeA_new (more := more) (es := es ++ [(e.1, e.2)]) (by simpa using h)
      unfold mergeA at ih
      rw [ih]
      simp
    · intro g
      rw [List.nodup_append] at h
      exact h.2.2 _ g _ (by simp) rfl
theorem nodup_len {α : Type} [DecidableEq α] : ∀ {xs ys : List α}, xs.Nodup → (∀ x ∈ xs, x ∈ ys) → xs.length ≤ ys.length
  | [], ys, _, _ => Nat.zero_le _
  | x :: xs, ys, h, hs => by
    rw [List.nodup_cons] at h
    have hx := hs x List.mem_cons_self
    have ih := nodup_len (xs := xs) (ys := ys.erase x) h.2 fun y hy => by
      have ne : y ≠ x := fun e => h.1 (e ▸ hy)
      exact (List.mem_erase_of_ne ne).mpr (hs y (List.mem_cons_of_mem _ hy))
    rw [List.length_erase_of_mem hx] at ih
    have := List.length_pos_of_mem hx
    rw [List.length_cons]
    omega
end
end Mi

namespace K04
open PySem PySem.Spec PyProof.Rows L2 Mi
/-! ### the text -/
def topS (i : Nat) : Stmt := PySem.Challenge.pw_partedmeet_k04_dealings_looked_at.main.body.getD i (.Pass ⟨0, 0, 0, 0⟩)
abbrev s_parties_of : Stmt := topS 1
theorem sc_parties_of : FnScope ["dealing"] ["dealing"] (defScope s_parties_of) := ⟨rfl, rfl, rfl, by decide +kernel, rfl, by decide +kernel, by decide +kernel⟩
abbrev s_rounds_of : Stmt := topS 2
theorem sc_rounds_of : FnScope ["dealing", "one"] ["dealing"] (defScope s_rounds_of) := ⟨rfl, rfl, rfl, by decide +kernel, rfl, by decide +kernel, by decide +kernel⟩
abbrev s_round_at : Stmt := topS 3
theorem sc_round_at : FnScope ["dealing", "name"] ["dealing", "name"] (defScope s_round_at) := ⟨rfl, rfl, rfl, by decide +kernel, rfl, by decide +kernel, by decide +kernel⟩
abbrev s_lot_of : Stmt := topS 4
theorem sc_lot_of : FnScope ["dealing", "name"] ["dealing", "name"] (defScope s_lot_of) := ⟨rfl, rfl, rfl, by decide +kernel, rfl, by decide +kernel, by decide +kernel⟩
abbrev s_chooser_of : Stmt := topS 5
theorem sc_chooser_of : FnScope ["dealing", "name"] ["dealing", "name"] (defScope s_chooser_of) := ⟨rfl, rfl, rfl, by decide +kernel, rfl, by decide +kernel, by decide +kernel⟩
abbrev s_words_of : Stmt := topS 6
theorem sc_words_of : FnScope ["dealing", "name", "result"] ["dealing", "name"] (defScope s_words_of) := ⟨rfl, rfl, rfl, by decide +kernel, rfl, by decide +kernel, by decide +kernel⟩
abbrev s_nexts_of : Stmt := topS 7
theorem sc_nexts_of : FnScope ["dealing", "name", "word"] ["dealing", "name", "word"] (defScope s_nexts_of) := ⟨rfl, rfl, rfl, by decide +kernel, rfl, by decide +kernel, by decide +kernel⟩
abbrev s_next_of : Stmt := topS 8
theorem sc_next_of : FnScope ["dealing", "name", "word", "party"] ["dealing", "name", "word", "party"] (defScope s_next_of) := ⟨rfl, rfl, rfl, by decide +kernel, rfl, by decide +kernel, by decide +kernel⟩
abbrev s_wants : Stmt := topS 9
theorem sc_wants : FnScope ["dealing", "name", "party"] ["dealing", "name", "party"] (defScope s_wants) := ⟨rfl, rfl, rfl, by decide +kernel, rfl, by decide +kernel, by decide +kernel⟩
abbrev s_rounds_with : Stmt := topS 10
theorem sc_rounds_with : FnScope ["dealing", "party", "one"] ["dealing", "party"] (defScope s_rounds_with) := ⟨rfl, rfl, rfl, by decide +kernel, rfl, by decide +kernel, by decide +kernel⟩
abbrev s_all_deeds : Stmt := topS 11
theorem sc_all_deeds : FnScope ["dealing", "one", "result"] ["dealing"] (defScope s_all_deeds) := ⟨rfl, rfl, rfl, by decide +kernel, rfl, by decide +kernel, by decide +kernel⟩
abbrev s__law_bag : Stmt := topS 13
theorem sc__law_bag : FnScope ["_law_script", "_law_cell"] ["_law_script"] (defScope s__law_bag) := ⟨rfl, rfl, rfl, by decide +kernel, rfl, by decide +kernel, by decide +kernel⟩
abbrev s__law_take : Stmt := topS 14
theorem sc__law_take : FnScope ["_law_bag_here", "_law_many", "_law_cell", "_law_stirred", "_law_value", "_law_begin", "_law_second"] ["_law_bag_here", "_law_many"] (defScope s__law_take) := ⟨rfl, rfl, rfl, by decide +kernel, rfl, by decide +kernel, by decide +kernel⟩
abbrev s__law_some : Stmt := topS 15
theorem sc__law_some : FnScope ["_law_bag_here", "_law_things"] ["_law_bag_here", "_law_things"] (defScope s__law_some) := ⟨rfl, rfl, rfl, by decide +kernel, rfl, by decide +kernel, by decide +kernel⟩
abbrev s__law_mixed : Stmt := topS 16
theorem sc__law_mixed : FnScope ["_law_bag_here", "_law_things", "_law_found", "_law_thing"] ["_law_bag_here", "_law_things"] (defScope s__law_mixed) := ⟨rfl, rfl, rfl, by decide +kernel, rfl, by decide +kernel, by decide +kernel⟩
abbrev s__law_alike : Stmt := topS 17
theorem sc__law_alike : FnScope ["_law_found", "_law_due"] ["_law_found", "_law_due"] (defScope s__law_alike) := ⟨rfl, rfl, rfl, by decide +kernel, rfl, by decide +kernel, by decide +kernel⟩
abbrev s__law_table : Stmt := topS 18
theorem sc__law_table : FnScope ["_law_dealing_here", "_law_found", "_law_name", "_law_lot", "_law_chooser", "_law_results", "_law_word", "_law_nexts"] ["_law_dealing_here"] (defScope s__law_table) := ⟨rfl, rfl, rfl, by decide +kernel, rfl, by decide +kernel, by decide +kernel⟩
abbrev s__law_dealing : Stmt := topS 19
theorem sc__law_dealing : FnScope ["_law_parties_here", "_law_table_here", "_law_rounds", "_law_name", "_law_lot", "_law_chooser", "_law_results", "_law_rows", "_law_word"] ["_law_parties_here", "_law_table_here"] (defScope s__law_dealing) := ⟨rfl, rfl, rfl, by decide +kernel, rfl, by decide +kernel, by decide +kernel⟩
abbrev s__law_parties : Stmt := topS 20
theorem sc__law_parties : FnScope ["_law_bag_here", "_law_most", "_law_names"] ["_law_bag_here", "_law_most"] (defScope s__law_parties) := ⟨rfl, rfl, rfl, by decide +kernel, rfl, by decide +kernel, by decide +kernel⟩
abbrev s__law_begun : Stmt := topS 21
theorem sc__law_begun : FnScope ["_law_parties_here", "_law_nexts", "_law_party"] ["_law_parties_here"] (defScope s__law_begun) := ⟨rfl, rfl, rfl, by decide +kernel, rfl, by decide +kernel, by decide +kernel⟩
abbrev s__law_new_name : Stmt := topS 22
theorem sc__law_new_name : FnScope ["_law_bag_here", "_law_known", "_law_some_here", "_law_one", "_law_free", "_law_two", "_law_name"] ["_law_bag_here", "_law_known"] (defScope s__law_new_name) := ⟨rfl, rfl, rfl, by decide +kernel, rfl, by decide +kernel, by decide +kernel⟩
abbrev s__law_result_of : Stmt := topS 23
theorem sc__law_result_of : FnScope ["_law_bag_here", "_law_table_here", "_law_rows", "_law_name", "_law_word"] ["_law_bag_here", "_law_table_here"] (defScope s__law_result_of) := ⟨rfl, rfl, rfl, by decide +kernel, rfl, by decide +kernel, by decide +kernel⟩
abbrev s__law_with_copy : Stmt := topS 24
theorem sc__law_with_copy : FnScope ["_law_bag_here", "_law_table_here", "_law_name", "_law_word"] ["_law_bag_here", "_law_table_here"] (defScope s__law_with_copy) := ⟨rfl, rfl, rfl, by decide +kernel, rfl, by decide +kernel, by decide +kernel⟩
abbrev s__law_with_loop : Stmt := topS 25
theorem sc__law_with_loop : FnScope ["_law_bag_here", "_law_table_here", "_law_name", "_law_back", "_law_party"] ["_law_bag_here", "_law_table_here"] (defScope s__law_with_loop) := ⟨rfl, rfl, rfl, by decide +kernel, rfl, by decide +kernel, by decide +kernel⟩
abbrev s__law_with_round : Stmt := topS 26
theorem sc__law_with_round : FnScope ["_law_bag_here", "_law_table_here", "_law_name", "_law_word", "_law_lot", "_law_some_here", "_law_new", "_law_nexts", "_law_only", "_law_party"] ["_law_bag_here", "_law_table_here"] (defScope s__law_with_round) := ⟨rfl, rfl, rfl, by decide +kernel, rfl, by decide +kernel, by decide +kernel⟩
abbrev s__law_with_fold : Stmt := topS 27
theorem sc__law_with_fold : FnScope ["_law_bag_here", "_law_table_here", "_law_name", "_law_word", "_law_nexts", "_law_other", "_law_lot", "_law_chooser", "_law_results", "_law_only", "_law_p"] ["_law_bag_here", "_law_table_here"] (defScope s__law_with_fold) := ⟨rfl, rfl, rfl, by decide +kernel, rfl, by decide +kernel, by decide +kernel⟩
abbrev s__law_grown : Stmt := topS 28
theorem sc__law_grown : FnScope ["_law_bag_here", "_law_parties_here", "_law_steps", "_law_most", "_law_table_here", "_law_turn", "_law_way"] ["_law_bag_here", "_law_parties_here", "_law_steps", "_law_most"] (defScope s__law_grown) := ⟨rfl, rfl, rfl, by decide +kernel, rfl, by decide +kernel, by decide +kernel⟩
abbrev s__law_turned : Stmt := topS 29
theorem sc__law_turned : FnScope ["_law_bag_here", "_law_table_here", "_law_name", "_law_word", "_law_party", "_law_other"] ["_law_bag_here", "_law_table_here"] (defScope s__law_turned) := ⟨rfl, rfl, rfl, by decide +kernel, rfl, by decide +kernel, by decide +kernel⟩
abbrev s__law_any : Stmt := topS 30
theorem sc__law_any : FnScope ["_law_bag_here", "_law_parties_here", "_law_most", "_law_table_here", "_law_turn", "_law_lot", "_law_name", "_law_whole", "_law_to", "_law_nexts", "_law_p", "_law_is_whole", "_law_other"] ["_law_bag_here", "_law_parties_here", "_law_most"] (defScope s__law_any) := ⟨rfl, rfl, rfl, by decide +kernel, rfl, by decide +kernel, by decide +kernel⟩
abbrev s__law_in_pairs : Stmt := topS 31
theorem sc__law_in_pairs : FnScope ["_law_bag_here", "_law_names", "_law_rounds", "_law_parties_here", "_law_table_here", "_law_k", "_law_lot", "_law_later", "_law_turn", "_law_way"] ["_law_bag_here"] (defScope s__law_in_pairs) := ⟨rfl, rfl, rfl, by decide +kernel, rfl, by decide +kernel, by decide +kernel⟩
abbrev s__law_drawn : Stmt := topS 32
theorem sc__law_drawn : FnScope ["_law_bag_here", "_law_most_parties", "_law_most_rounds", "_law_way", "_law_parties_here", "_law_pairs", "_law_table_here", "_law_turn"] ["_law_bag_here", "_law_most_parties", "_law_most_rounds"] (defScope s__law_drawn) := ⟨rfl, rfl, rfl, by decide +kernel, rfl, by decide +kernel, by decide +kernel⟩
abbrev s__law_is_looked_at : Stmt := topS 33
theorem sc__law_is_looked_at : FnScope ["_law_bag_here", "_law_dealing_here", "_law_table_here", "_law_name", "_law_lot", "_law_chooser", "_law_results", "_law_told", "_law_party", "_law_word", "_law_nexts"] ["_law_bag_here", "_law_dealing_here", "_law_table_here"] (defScope s__law_is_looked_at) := ⟨rfl, rfl, rfl, by decide +kernel, rfl, by decide +kernel, by decide +kernel⟩
abbrev s_law : Stmt := topS 34
theorem sc_law : FnScope ["_law_script", "_law_bag_here", "_law_turn", "_law_dealing_here", "_law_table_here", "_law_shown", "_law_party", "_law_due", "_law_name", "_law_word"] ["_law_script"] (defScope s_law) := ⟨rfl, rfl, rfl, by decide +kernel, rfl, by decide +kernel, by decide +kernel⟩
/-- names that the module leaves to what is built in; its constants -/
structure Glo (mg : Str → Option Value) : Prop where
  z_abs : mg "abs" = none
  z_dict : mg "dict" = none
  z_int : mg "int" = none
  z_len : mg "len" = none
  z_list : mg "list" = none
  z_range : mg "range" = none
  z_repr : mg "repr" = none
  z_sorted : mg "sorted" = none
  z_tuple : mg "tuple" = none
/-! ### the mirrors -/
noncomputable def b_parties_of : MS := (mRet (mOp oIxD (mVar 0) (mC (.int 0))))
noncomputable def f_parties_of : FnM := defN 1 1 (b_parties_of)
noncomputable def b_rounds_of : MS := (mRet (mCl oTuple (mCons (mNew (mLc (.nm 1) (mIt (mOp oIxD (mVar 0) (mC (.int 1)))) [1] mYes (mOp oIxD (mVar 1) (mC (.int 0))))) mNil)))
noncomputable def f_rounds_of : FnM := defN 1 2 (b_rounds_of)
noncomputable def b_round_at : MS := (mRet (mOp oIxD (mOp oIxD (mVar 0) (mC (.int 1))) (mIdx (mCall0 f_rounds_of (mCons (mVar 0) mNil)) (mCons (mVar 1) mNil))))
noncomputable def f_round_at : FnM := defN 2 2 (b_round_at)
noncomputable def b_lot_of : MS := (mRet (mOp oIxD (mCall0 f_round_at (mCons (mVar 0) (mCons (mVar 1) mNil))) (mC (.int 1))))
noncomputable def f_lot_of : FnM := defN 2 2 (b_lot_of)
noncomputable def b_chooser_of : MS := (mRet (mOp oIxD (mCall0 f_round_at (mCons (mVar 0) (mCons (mVar 1) mNil))) (mC (.int 2))))
noncomputable def f_chooser_of : FnM := defN 2 2 (b_chooser_of)
noncomputable def b_words_of : MS := (mRet (mCl oTuple (mCons (mNew (mLc (.nm 2) (mIt (mOp oIxD (mCall0 f_round_at (mCons (mVar 0) (mCons (mVar 1) mNil))) (mC (.int 3)))) [2] mYes (mOp oIxD (mVar 2) (mC (.int 0))))) mNil)))
noncomputable def f_words_of : FnM := defN 2 3 (b_words_of)
noncomputable def b_nexts_of : MS := (mRet (mNewD (mClD oDictT (mCons (mOp oIxD (mNewD (mClD oDictT (mCons (mOp oIxD (mCall0 f_round_at (mCons (mVar 0) (mCons (mVar 1) mNil))) (mC (.int 3))) mNil))) (mVar 2)) mNil))))
noncomputable def f_nexts_of : FnM := defN 3 3 (b_nexts_of)
noncomputable def b_next_of : MS := (mRet (mOp oIxD (mCall0 f_nexts_of (mCons (mVar 0) (mCons (mVar 1) (mCons (mVar 2) mNil)))) (mVar 3)))
noncomputable def f_next_of : FnM := defN 4 4 (b_next_of)
noncomputable def b_wants : MS := (mRet (mOp oInD (mVar 2) (mCall0 f_lot_of (mCons (mVar 0) (mCons (mVar 1) mNil)))))
noncomputable def f_wants : FnM := defN 3 3 (b_wants)
noncomputable def b_rounds_with : MS := (mRet (mCl oTuple (mCons (mNew (mLc (.nm 2) (mIt (mOp oIxD (mVar 0) (mC (.int 1)))) [2] (mTst (mOp oInD (mVar 1) (mOp oIxD (mVar 2) (mC (.int 1))))) (mOp oIxD (mVar 2) (mC (.int 0))))) mNil)))
noncomputable def f_rounds_with : FnM := defN 2 3 (b_rounds_with)
noncomputable def b_all_deeds : MS := (mRet (mCl oTuple (mCons (mNew (mLc2 (.nm 1) (mIt (mOp oIxD (mVar 0) (mC (.int 1)))) [1, 2] mYes (mIt (mOp oIxD (mVar 1) (mC (.int 3)))) (.nm 2) [2] mYes (mTup (mCons (mOp oIxD (mVar 1) (mC (.int 0))) (mCons (mOp oIxD (mVar 2) (mC (.int 0))) mNil))))) mNil)))
noncomputable def f_all_deeds : FnM := defN 1 3 (b_all_deeds)
noncomputable def b__law_bag : MS := (mRetA (mLst (mCons (mC (.int 0)) (mCons (mC (.int 1234567891)) (mCons (mC (.int 0)) (mCons (mNew (mLc (.nm 1) (mIt (mCut (mVar 0) mNoPart (mPart (mC (.int 63))))) [1] mYes (mCl oAbs (mCons (mVar 1) mNil)))) mNil))))))
noncomputable def f__law_bag : FnM := defN 1 2 (b__law_bag)
noncomputable def b__law_take : MS := (mSeq (mIfS (mTst (mOp oEq (mOp oIxD (mVar 0) (mC (.int 0))) (mC (.int 0)))) (mSeq (mSet 2 (mOp oIxD (mOp oAdd (mCut (mOp oIxD (mVar 0) (mC (.int 3))) (mPart (mOp oIxD (mVar 0) (mC (.int 2)))) mNoPart) (mNew (mLst (mCons (mC (.int 0)) mNil)))) (mC (.int 0))))
    (mSeq (mAugP (oI (fun _ _ => True) fun i j => .int (i + j)) (mVar 0) (mC (.int 2)) (mC (.int 1)))
    (mSeq (mIfS (mTst (mOp oGe (mVar 2) (mOp oPow (mC (.int 10)) (mC (.int 18))))) (mPutD (mVar 2) (mVar 0) (mC (.int 0))) mSkip)
    (mSeq (mSet 3 (mOp oAdd (mOp oAdd (mOp oMul (mOp oIxD (mVar 0) (mC (.int 1))) (mC (.int 48271))) (mOp oMod (mCl oInt (mCons (mVar 2) mNil)) (mC (.int 2147483647)))) (mOp oMul (mC (.int 7919)) (mOp oIxD (mVar 0) (mC (.int 2))))))
    (mPutD (mOp oMod (mCl oInt (mCons (mVar 3) mNil)) (mC (.int 2147483647))) (mVar 0) (mC (.int 1))))))) mSkip)
    (mSeq (mIfS (mTst (mOp oGt (mOp oIxD (mVar 0) (mC (.int 0))) (mC (.int 0)))) (mSeq (mSet 4 (mOp oMod (mCl oInt (mCons (mOp oIxD (mVar 0) (mC (.int 0))) mNil)) (mVar 1)))
    (mSeq (mPutD (mOp oDiv (mCl oInt (mCons (mOp oIxD (mVar 0) (mC (.int 0))) mNil)) (mVar 1)) (mVar 0) (mC (.int 0)))
    (mRet (mVar 4)))) mSkip)
    (mSeq (mSet 5 (mOp oMod (mCl oInt (mCons (mOp oMul (mOp oAdd (mOp oIxD (mVar 0) (mC (.int 1))) (mC (.int 1))) (mC (.int 39373))) mNil)) (mC (.int 1000000007))))
    (mSeq (mSet 6 (mOp oMod (mCl oInt (mCons (mOp oMul (mOp oMod (mCl oInt (mCons (mOp oMul (mVar 5) (mVar 5)) mNil)) (mC (.int 998244353))) (mC (.int 30011))) mNil)) (mC (.int 998244353))))
    (mRet (mOp oMod (mCl oInt (mCons (mOp oDiv (mVar 6) (mC (.int 7))) mNil)) (mVar 1)))))))
noncomputable def f__law_take : FnM := defN 2 7 (b__law_take)
noncomputable def b__law_some : MS := (mRet (mOp oIxD (mVar 1) (mCall0 f__law_take (mCons (mVar 0) (mCons (mCl oLenD (mCons (mVar 1) mNil)) mNil)))))
noncomputable def f__law_some : FnM := defN 2 2 (b__law_some)
noncomputable def b__law_mixed : MS := (mSeq (mSetA 2 (mLst mNil))
    (mSeq (mFor (.nm 3) (mIt (mVar 1)) (mDrop (mMt "list" oInsert (mVar 2) (mCons (mCall0 f__law_take (mCons (mVar 0) (mCons (mOp oAdd (mCl oLenD (mCons (mVar 2) mNil)) (mC (.int 1))) mNil))) (mCons (mVar 3) mNil)))))
    (mRet (mVar 2))))
noncomputable def f__law_mixed : FnM := defT 2 4 (b__law_mixed)
noncomputable def b__law_alike : MS := (mRet (mAnd (mOp oEqX (mVar 0) (mVar 1)) (mOp oEqX (mCl oReprX (mCons (mVar 0) mNil)) (mCl oReprX (mCons (mVar 1) mNil)))))
noncomputable def f__law_alike : FnM := defN 2 2 (b__law_alike)
noncomputable def b__law_table : MS := (mSeq (mSet 1 (mNewD mDic0))
    (mSeq (mFor (.tup [(.nm 2), (.nm 3), (.nm 4), (.nm 5)]) (mIt (mOp oIxD (mVar 0) (mC (.int 1)))) (mPutD (mNewA (mLst (mCons (mVar 3) (mCons (mVar 4) (mCons (mNewD (mClD oDict (mCons (mNew (mLc (.tup [(.nm 6), (.nm 7)]) (mIt (mVar 5)) [6, 7] mYes (mTup (mCons (mVar 6) (mCons (mNewD (mClD oDict (mCons (mNew (mClF oListD (mCons (mVar 7) mNil))) mNil))) mNil))))) mNil))) mNil))))) (mVar 1) (mVar 2)))
    (mRet (mVar 1))))
noncomputable def f__law_table : FnM := defN 1 8 (b__law_table)
noncomputable def b__law_dealing : MS := (mSeq (mSetA 2 (mLst mNil))
    (mSeq (mFor (.nm 3) (mIt (mNew (mClF oSorted (mCons (mVar 1) mNil)))) (mSeq (mAsg (.tup [(.nm 4), (.nm 5), (.nm 6)]) (mOp oIxD (mVar 1) (mVar 3)))
    (mSeq (mSet 7 (mNew (mLc (.nm 8) (mIt (mNew (mClF oSorted (mCons (mVar 6) mNil)))) [8] mYes (mTup (mCons (mVar 8) (mCons (mCl oTuple (mCons (mNew (mSortItems (mOp oIxD (mVar 6) (mVar 8)))) mNil)) mNil))))))
    (mDrop (mMt "list" oAppend (mVar 2) (mCons (mTup (mCons (mVar 3) (mCons (mVar 4) (mCons (mVar 5) (mCons (mCl oTuple (mCons (mVar 7) mNil)) mNil))))) mNil))))))
    (mRet (mTup (mCons (mVar 0) (mCons (mCl oTuple (mCons (mVar 2) mNil)) mNil))))))
noncomputable def f__law_dealing : FnM := defT 2 9 (b__law_dealing)
noncomputable def b__law_parties : MS := (mSeq (mSet 2 (mCall0 f__law_some (mCons (mVar 0) (mCons (mNew (mLst (mCons (mNew (mLst (mCons (mC (.str "a")) (mCons (mC (.str "b")) (mCons (mC (.str "c")) (mCons (mC (.str "d")) (mCons (mC (.str "e")) (mCons (mC (.str "f")) mNil)))))))) (mCons (mNew (mLst (mCons (mC (.str "agent")) (mCons (mC (.str "bank")) (mCons (mC (.str "buyer")) (mCons (mC (.str "notary")) (mCons (mC (.str "seller")) (mCons (mC (.str "town")) mNil)))))))) mNil)))) mNil))))
    (mRet (mCl oTuple (mCons (mNew (mClF oSorted (mCons (mCut (mCall0 f__law_mixed (mCons (mVar 0) (mCons (mVar 2) mNil))) mNoPart (mPart (mOp oAdd (mC (.int 1)) (mCall0 f__law_take (mCons (mVar 0) (mCons (mVar 1) mNil)))))) mNil))) mNil))))
noncomputable def f__law_parties : FnM := defN 2 3 (b__law_parties)
noncomputable def b__law_begun : MS := (mSeq (mSet 1 (mNewD (mClD oDict (mCons (mNew (mLc (.nm 2) (mIt (mVar 0)) [2] mYes (mTup (mCons (mVar 2) (mCons (mC (.str "last")) mNil))))) mNil))))
    (mRet (mNewD (mDisp [((mC (.str "first")), (mNewA (mLst (mCons (mVar 0) (mCons (mOp oIxD (mVar 0) (mC (.int 0))) (mCons (mNewD (mDisp [((mC (.str "go")), (mVar 1))])) mNil)))))), ((mC (.str "last")), (mNewA (mLst (mCons (mVar 0) (mCons (mOp oIxD (mVar 0) (mUn oNeg (mC (.int 1)))) (mCons (mNewD mDic0) mNil))))))]))))
noncomputable def f__law_begun : FnM := defN 1 3 (b__law_begun)
noncomputable def b__law_new_name : MS := (mSeq (mSetA 2 (mLst mNil))
    (mSeq (mFor (.nm 3) (mIt (mNew (mLst (mCons (mC (.str "k")) (mCons (mC (.str "b")) (mCons (mC (.str "z")) (mCons (mC (.str "m")) (mCons (mC (.str "g")) mNil)))))))) (mDrop (mMt "list" oExtend (mVar 2) (mCons (mNew (mLc (.nm 5) (mIt (mNew (mLst (mCons (mC (.str "a")) (mCons (mC (.str "o")) (mCons (mC (.str "u")) (mCons (mC (.str "ix")) (mCons (mC (.str "")) mNil)))))))) [5] mYes (mOp oAdd (mVar 3) (mVar 5)))) mNil))))
    (mSeq (mSet 4 (mNew (mLc (.nm 6) (mIt (mVar 2)) [6] (mTst (mOp oNotInD (mVar 6) (mVar 1))) (mVar 6))))
    (mRet (mIf (mTst (mOp oNe (mVar 4) (mNew (mLst mNil)))) (mCall0 f__law_some (mCons (mVar 0) (mCons (mVar 4) mNil))) (mOp oAdd (mOp oMul (mC (.str "n")) (mOp oSub (mOp oAdd (mC (.int 1)) (mCl oLenD (mCons (mVar 1) mNil))) (mCl oLenD (mCons (mVar 2) mNil)))) (mC (.str "q"))))))))
noncomputable def f__law_new_name : FnM := defT 2 7 (b__law_new_name)
noncomputable def b__law_result_of : MS := (mSeq (mSetA 2 (mLst mNil))
    (mSeq (mFor (.nm 3) (mIt (mNew (mClF oSorted (mCons (mVar 1) mNil)))) (mDrop (mMt "list" oExtend (mVar 2) (mCons (mNew (mLc (.nm 4) (mIt (mNew (mClF oSorted (mCons (mOp oIxD (mOp oIxD (mVar 1) (mVar 3)) (mC (.int 2))) mNil)))) [4] mYes (mTup (mCons (mVar 3) (mCons (mVar 4) mNil))))) mNil))))
    (mRet (mCall0 f__law_some (mCons (mVar 0) (mCons (mVar 2) mNil))))))
noncomputable def f__law_result_of : FnM := defT 2 5 (b__law_result_of)
noncomputable def b__law_with_copy : MS := (mSeq (mAsg (.tup [(.nm 2), (.nm 3)]) (mCall0 f__law_result_of (mCons (mVar 0) (mCons (mVar 1) mNil))))
    (mIfS (mTst (mOp oLt (mCl oLenD (mCons (mOp oIxD (mOp oIxD (mVar 1) (mVar 2)) (mC (.int 2))) mNil)) (mC (.int 4)))) (mPutD (mNewD (mClD oDict (mCons (mOp oIxD (mOp oIxD (mOp oIxD (mVar 1) (mVar 2)) (mC (.int 2))) (mVar 3)) mNil))) (mOp oIxD (mOp oIxD (mVar 1) (mVar 2)) (mC (.int 2))) (mCall0 f__law_new_name (mCons (mVar 0) (mCons (mNew (mClF oListD (mCons (mOp oIxD (mOp oIxD (mVar 1) (mVar 2)) (mC (.int 2))) mNil))) mNil)))) mSkip))
noncomputable def f__law_with_copy : FnM := defN 2 4 (b__law_with_copy)
noncomputable def b__law_with_loop : MS := (mSeq (mSet 2 (mOp oIxD (mCall0 f__law_result_of (mCons (mVar 0) (mCons (mVar 1) mNil))) (mC (.int 0))))
    (mIfS (mTst (mOp oLt (mCl oLenD (mCons (mOp oIxD (mOp oIxD (mVar 1) (mVar 2)) (mC (.int 2))) mNil)) (mC (.int 4)))) (mSeq (mSet 3 (mNewD (mClD oDict (mCons (mNew (mLc (.nm 4) (mIt (mOp oIxD (mOp oIxD (mVar 1) (mVar 2)) (mC (.int 0)))) [4] mYes (mTup (mCons (mVar 4) (mCons (mVar 2) mNil))))) mNil))))
    (mPutD (mVar 3) (mOp oIxD (mOp oIxD (mVar 1) (mVar 2)) (mC (.int 2))) (mCall0 f__law_new_name (mCons (mVar 0) (mCons (mNew (mClF oListD (mCons (mOp oIxD (mOp oIxD (mVar 1) (mVar 2)) (mC (.int 2))) mNil))) mNil))))) mSkip))
noncomputable def f__law_with_loop : FnM := defN 2 5 (b__law_with_loop)
noncomputable def b__law_with_round : MS := (mSeq (mAsg (.tup [(.nm 2), (.nm 3)]) (mCall0 f__law_result_of (mCons (mVar 0) (mCons (mVar 1) mNil))))
    (mSeq (mSet 4 (mOp oIxD (mOp oIxD (mVar 1) (mVar 2)) (mC (.int 0))))
    (mSeq (mSet 5 (mCl oTuple (mCons (mNew (mClF oSorted (mCons (mCut (mCall0 f__law_mixed (mCons (mVar 0) (mCons (mNew (mClF oListD (mCons (mVar 4) mNil))) mNil))) mNoPart (mPart (mOp oAdd (mC (.int 1)) (mCall0 f__law_take (mCons (mVar 0) (mCons (mCl oLenD (mCons (mVar 4) mNil)) mNil)))))) mNil))) mNil)))
    (mSeq (mAsg (.tup [(.nm 6), (.nm 7)]) (mTup (mCons (mCall0 f__law_new_name (mCons (mVar 0) (mCons (mNew (mClF oListD (mCons (mVar 1) mNil))) mNil))) (mCons (mOp oIxD (mOp oIxD (mOp oIxD (mVar 1) (mVar 2)) (mC (.int 2))) (mVar 3)) mNil))))
    (mSeq (mSet 8 (mNewD (mClD oDict (mCons (mNew (mLc (.nm 9) (mIt (mVar 5)) [9] mYes (mTup (mCons (mVar 9) (mCons (mOp oIxD (mVar 7) (mVar 9)) mNil))))) mNil))))
    (mSeq (mPutD (mNewA (mLst (mCons (mVar 5) (mCons (mCall0 f__law_some (mCons (mVar 0) (mCons (mVar 5) mNil))) (mCons (mNewD (mDisp [((mCall0 f__law_some (mCons (mVar 0) (mCons (mNew (mLst (mCons (mC (.str "go")) (mCons (mC (.str "yes")) (mCons (mC (.str "no")) mNil))))) mNil))), (mVar 8))])) mNil))))) (mVar 1) (mVar 6))
    (mFor (.nm 9) (mIt (mVar 5)) (mPutD (mVar 6) (mVar 7) (mVar 9)))))))))
noncomputable def f__law_with_round : FnM := defN 2 10 (b__law_with_round)
noncomputable def b__law_with_fold : MS := (mSeq (mAsg (.tup [(.nm 2), (.nm 3)]) (mCall0 f__law_result_of (mCons (mVar 0) (mCons (mVar 1) mNil))))
    (mSeq (mSet 4 (mOp oIxD (mOp oIxD (mOp oIxD (mVar 1) (mVar 2)) (mC (.int 2))) (mVar 3)))
    (mFor (.nm 5) (mIt (mCall0 f__law_mixed (mCons (mVar 0) (mCons (mNew (mClF oSorted (mCons (mVar 1) mNil))) mNil)))) (mSeq (mAsg (.tup [(.nm 6), (.nm 7), (.nm 8)]) (mOp oIxD (mVar 1) (mVar 5)))
    (mIfS (mAndT (mTst (mOp oNe (mVar 5) (mVar 2))) (mAndT (mTst (mOp oEq (mCl oLenD (mCons (mVar 8) mNil)) (mC (.int 1)))) (mTst (mOp oEq (mNew (mLc (.nm 10) (mIt (mVar 6)) [10] (mTst (mOp oNotInD (mVar 10) (mVar 4))) (mVar 10))) (mNew (mLst mNil)))))) (mSeq (mSet 9 (mOp oIxD (mVar 8) (mOp oIxD (mNew (mClF oSorted (mCons (mVar 8) mNil))) (mC (.int 0)))))
    (mIfS (mTst (mOp oEq (mNew (mLc (.nm 10) (mIt (mVar 6)) [10] (mTst (mOp oNe (mOp oIxD (mVar 9) (mVar 10)) (mOp oIxD (mVar 4) (mVar 10)))) (mVar 10))) (mNew (mLst mNil)))) (mSeq (mDrop (mMt "dict" oUpd (mVar 4) (mCons (mNewD (mClD oDict (mCons (mNew (mLc (.nm 10) (mIt (mVar 6)) [10] mYes (mTup (mCons (mVar 10) (mCons (mVar 5) mNil))))) mNil))) mNil)))
    mRetN) mSkip)) mSkip)))))
noncomputable def f__law_with_fold : FnM := defN 2 11 (b__law_with_fold)
noncomputable def b__law_grown : MS := (mSeq (mSet 4 (mCall0 f__law_begun (mCons (mVar 1) mNil)))
    (mSeq (mFor (.nm 5) (mRange1 (mCons (mVar 2) mNil)) (mSeq (mSet 6 (mCall0 f__law_take (mCons (mVar 0) (mCons (mC (.int 8)) mNil))))
    (mIfS (mTst (mOp oLt (mVar 6) (mC (.int 2)))) (mDrop (mCall0 f__law_with_copy (mCons (mVar 0) (mCons (mVar 4) mNil)))) (mIfS (mTst (mOp oEq (mVar 6) (mC (.int 2)))) (mDrop (mCall0 f__law_with_loop (mCons (mVar 0) (mCons (mVar 4) mNil)))) (mIfS (mTst (mOp oEq (mVar 6) (mC (.int 3)))) (mDrop (mCall0 f__law_with_fold (mCons (mVar 0) (mCons (mVar 4) mNil)))) (mIfS (mTst (mOp oLt (mCl oLenD (mCons (mVar 4) mNil)) (mVar 3))) (mDrop (mCall0 f__law_with_round (mCons (mVar 0) (mCons (mVar 4) mNil)))) mSkip))))))
    (mRet (mVar 4))))
noncomputable def f__law_grown : FnM := defN 4 7 (b__law_grown)
noncomputable def b__law_turned : MS := (mSeq (mAsg (.tup [(.nm 2), (.nm 3)]) (mCall0 f__law_result_of (mCons (mVar 0) (mCons (mVar 1) mNil))))
    (mSeq (mSet 4 (mCall0 f__law_some (mCons (mVar 0) (mCons (mOp oIxD (mOp oIxD (mVar 1) (mVar 2)) (mC (.int 0))) mNil))))
    (mSeq (mPutD (mCall0 f__law_some (mCons (mVar 0) (mCons (mNew (mLc (.nm 5) (mIt (mNew (mClF oSorted (mCons (mVar 1) mNil)))) [5] (mTst (mOp oInD (mVar 4) (mOp oIxD (mOp oIxD (mVar 1) (mVar 5)) (mC (.int 0))))) (mVar 5))) mNil))) (mOp oIxD (mOp oIxD (mOp oIxD (mVar 1) (mVar 2)) (mC (.int 2))) (mVar 3)) (mVar 4))
    (mRet (mVar 1)))))
noncomputable def f__law_turned : FnM := defN 2 6 (b__law_turned)
noncomputable def b__law_any : MS := (mSeq (mSet 3 (mCall0 f__law_begun (mCons (mVar 1) mNil)))
    (mSeq (mFor (.nm 4) (mRange1 (mCons (mCall0 f__law_take (mCons (mVar 0) (mCons (mOp oSub (mVar 2) (mC (.int 1))) mNil))) mNil)) (mSeq (mSet 5 (mCl oTuple (mCons (mNew (mClF oSorted (mCons (mCut (mCall0 f__law_mixed (mCons (mVar 0) (mCons (mNew (mClF oListD (mCons (mVar 1) mNil))) mNil))) mNoPart (mPart (mOp oAdd (mC (.int 1)) (mCall0 f__law_take (mCons (mVar 0) (mCons (mCl oLenD (mCons (mVar 1) mNil)) mNil)))))) mNil))) mNil)))
    (mPutD (mNewA (mLst (mCons (mVar 5) (mCons (mCall0 f__law_some (mCons (mVar 0) (mCons (mVar 5) mNil))) (mCons (mNewD mDic0) mNil))))) (mVar 3) (mCall0 f__law_new_name (mCons (mVar 0) (mCons (mNew (mClF oListD (mCons (mVar 3) mNil))) mNil))))))
    (mSeq (mFor (.nm 6) (mIt (mNew (mClF oSorted (mCons (mVar 3) mNil)))) (mSeq (mSet 5 (mOp oIxD (mOp oIxD (mVar 3) (mVar 6)) (mC (.int 0))))
    (mFor (.nm 4) (mRange1 (mCons (mIf (mTst (mOp oEq (mVar 6) (mC (.str "last")))) (mC (.int 0)) (mOp oAdd (mC (.int 1)) (mCall0 f__law_take (mCons (mVar 0) (mCons (mC (.int 2)) mNil))))) mNil)) (mSeq (mSet 7 (mNew (mLc (.nm 12) (mIt (mNew (mClF oSorted (mCons (mVar 3) mNil)))) [12] (mTst (mOp oEq (mNew (mLc (.nm 10) (mIt (mVar 5)) [10] (mTst (mOp oNotInD (mVar 10) (mOp oIxD (mOp oIxD (mVar 3) (mVar 12)) (mC (.int 0))))) (mVar 10))) (mNew (mLst mNil)))) (mVar 12))))
    (mSeq (mAsg (.tup [(.nm 8), (.nm 9)]) (mTup (mCons (mCall0 f__law_some (mCons (mVar 0) (mCons (mVar 7) mNil))) (mCons (mNewD mDic0) mNil))))
    (mSeq (mFor (.nm 10) (mIt (mVar 5)) (mPutD (mCall0 f__law_some (mCons (mVar 0) (mCons (mNew (mLc (.nm 12) (mIt (mNew (mClF oSorted (mCons (mVar 3) mNil)))) [12] (mTst (mOp oInD (mVar 10) (mOp oIxD (mOp oIxD (mVar 3) (mVar 12)) (mC (.int 0))))) (mVar 12))) mNil))) (mVar 9) (mVar 10)))
    (mSeq (mSet 11 (mOp oEq (mCall0 f__law_take (mCons (mVar 0) (mCons (mC (.int 3)) mNil))) (mC (.int 0))))
    (mPutD (mIf (mTst (mVar 11)) (mNewD (mClD oDict (mCons (mNew (mLc (.nm 10) (mIt (mVar 5)) [10] mYes (mTup (mCons (mVar 10) (mCons (mVar 8) mNil))))) mNil))) (mVar 9)) (mOp oIxD (mOp oIxD (mVar 3) (mVar 6)) (mC (.int 2))) (mOp oIxD (mNew (mLst (mCons (mC (.str "go")) (mCons (mC (.str "no")) mNil)))) (mVar 4))))))))))
    (mRet (mVar 3)))))
noncomputable def f__law_any : FnM := defN 3 13 (b__law_any)
noncomputable def b__law_in_pairs : MS := (mSeq (mPar 1 2 (mCons (mCall0 f__law_mixed (mCons (mVar 0) (mCons (mNew (mLst (mCons (mC (.str "a")) (mCons (mC (.str "b")) (mCons (mC (.str "c")) mNil))))) mNil))) (mCons (mCall0 f__law_mixed (mCons (mVar 0) (mCons (mNew (mLst (mCons (mC (.str "k")) (mCons (mC (.str "m")) (mCons (mC (.str "z")) mNil))))) mNil))) mNil)))
    (mSeq (mPar 3 4 (mCons (mTup (mCons (mC (.str "a")) (mCons (mC (.str "b")) (mCons (mC (.str "c")) mNil)))) (mCons (mCall0 f__law_begun (mCons (mTup (mCons (mC (.str "a")) (mCons (mC (.str "b")) (mCons (mC (.str "c")) mNil)))) mNil)) mNil)))
    (mSeq (mFor (.nm 5) (mRange1 (mCons (mC (.int 3)) mNil)) (mSeq (mPar 6 7 (mCons (mCl oTuple (mCons (mNew (mClF oSorted (mCons (mNew (mLst (mCons (mOp oIxD (mVar 1) (mVar 5)) (mCons (mOp oIxD (mVar 1) (mOp oSub (mVar 5) (mC (.int 2)))) mNil)))) mNil))) mNil)) (mCons (mOp oIxD (mVar 2) (mOp oSub (mVar 5) (mC (.int 2)))) mNil)))
    (mSeq (mPutD (mNewA (mLst (mCons (mVar 6) (mCons (mOp oIxD (mVar 6) (mC (.int 0))) (mCons (mNewD (mDisp [((mC (.str "go")), (mNewD (mDisp [((mOp oIxD (mVar 1) (mVar 5)), (mC (.str "last"))), ((mOp oIxD (mVar 1) (mOp oSub (mVar 5) (mC (.int 2)))), (mVar 7))])))])) mNil))))) (mVar 4) (mOp oIxD (mVar 2) (mVar 5)))
    (mPutD (mOp oIxD (mVar 2) (mVar 5)) (mOp oIxD (mOp oIxD (mOp oIxD (mVar 4) (mC (.str "first"))) (mC (.int 2))) (mC (.str "go"))) (mOp oIxD (mVar 1) (mOp oSub (mVar 5) (mC (.int 2))))))))
    (mSeq (mFor (.nm 8) (mRange1 (mCons (mCall0 f__law_take (mCons (mVar 0) (mCons (mC (.int 4)) mNil))) mNil)) (mSeq (mSet 9 (mCall0 f__law_take (mCons (mVar 0) (mCons (mC (.int 3)) mNil))))
    (mIfS (mTst (mOp oEq (mVar 9) (mC (.int 0)))) (mDrop (mCall0 f__law_with_copy (mCons (mVar 0) (mCons (mVar 4) mNil)))) (mIfS (mTst (mOp oEq (mVar 9) (mC (.int 1)))) (mDrop (mCall0 f__law_with_loop (mCons (mVar 0) (mCons (mVar 4) mNil)))) (mDrop (mCall0 f__law_with_round (mCons (mVar 0) (mCons (mVar 4) mNil))))))))
    (mRet (mTup (mCons (mVar 3) (mCons (mVar 4) mNil))))))))
noncomputable def f__law_in_pairs : FnM := defN 1 10 (b__law_in_pairs)
noncomputable def b__law_drawn : MS := (mSeq (mPar 3 4 (mCons (mCall0 f__law_take (mCons (mVar 0) (mCons (mC (.int 8)) mNil))) (mCons (mCall0 f__law_parties (mCons (mVar 0) (mCons (mVar 1) mNil))) mNil)))
    (mSeq (mIfS (mTst (mOp oEq (mVar 3) (mC (.int 7)))) (mSeq (mSet 5 (mCall0 f__law_in_pairs (mCons (mVar 0) mNil)))
    (mAsg (.tup [(.nm 4), (.nm 6)]) (mIf (mTst (mOp oGt (mVar 1) (mC (.int 2)))) (mVar 5) (mTup (mCons (mVar 4) (mCons (mCall0 f__law_any (mCons (mVar 0) (mCons (mVar 4) (mCons (mVar 2) mNil)))) mNil)))))) (mIfS (mTst (mOp oEq (mVar 3) (mC (.int 6)))) (mSet 6 (mCall0 f__law_any (mCons (mVar 0) (mCons (mVar 4) (mCons (mVar 2) mNil))))) (mSet 6 (mCall0 f__law_grown (mCons (mVar 0) (mCons (mVar 4) (mCons (mCall0 f__law_some (mCons (mVar 0) (mCons (mNew (mLst (mCons (mC (.int 12)) (mCons (mC (.int 3)) (mCons (mC (.int 7)) (mCons (mC (.int 20)) (mCons (mC (.int 0)) mNil))))))) mNil))) (mCons (mVar 2) mNil))))))))
    (mSeq (mFor (.nm 7) (mRange1 (mCons (mOp oIxD (mNew (mLst (mCons (mC (.int 0)) (mCons (mC (.int 0)) (mCons (mC (.int 0)) (mCons (mC (.int 1)) (mCons (mC (.int 1)) (mCons (mC (.int 2)) (mCons (mC (.int 0)) (mCons (mCall0 f__law_take (mCons (mVar 0) (mCons (mC (.int 2)) mNil))) mNil)))))))))) (mVar 3)) mNil)) (mSet 6 (mCall0 f__law_turned (mCons (mVar 0) (mCons (mVar 6) mNil)))))
    (mRet (mCall0 f__law_dealing (mCons (mVar 4) (mCons (mVar 6) mNil)))))))
noncomputable def f__law_drawn : FnM := defT 3 8 (b__law_drawn)
noncomputable def b__law_is_looked_at : MS := (mSeq (mFor (.nm 3) (mIt (mNew (mClF oSorted (mCons (mVar 2) mNil)))) (mSeq (mAsg (.tup [(.nm 4), (.nm 5), (.nm 6)]) (mOp oIxD (mVar 2) (mVar 3)))
    (mSeq (mSet 7 (mNew (mLst (mCons (mCall0 f_lot_of (mCons (mVar 1) (mCons (mVar 3) mNil))) (mCons (mCall0 f_chooser_of (mCons (mVar 1) (mCons (mVar 3) mNil))) (mCons (mCall0 f_words_of (mCons (mVar 1) (mCons (mVar 3) mNil))) mNil))))))
    (mSeq (mIfS (mNotT (mTst (mCall0 f__law_alike (mCons (mVar 7) (mCons (mNew (mLst (mCons (mVar 4) (mCons (mVar 5) (mCons (mCl oTuple (mCons (mNew (mClF oSorted (mCons (mVar 6) mNil))) mNil)) mNil))))) mNil))))) (mRet (mC (.bl false))) mSkip)
    (mSeq (mFor (.nm 8) (mIt (mOp oIxD (mVar 1) (mC (.int 0)))) (mIfS (mNotT (mTst (mCall0 f__law_alike (mCons (mCall0 f_wants (mCons (mVar 1) (mCons (mVar 3) (mCons (mVar 8) mNil)))) (mCons (mOp oInD (mVar 8) (mVar 4)) mNil))))) (mRet (mC (.bl false))) mSkip))
    (mLock (mVar 6) (mFor (.nm 9) (mItKs (mVar 6)) (mSeq (mSet 10 (mCall0 f_nexts_of (mCons (mVar 1) (mCons (mVar 3) (mCons (mVar 9) mNil)))))
    (mSeq (mIfS (mNotT (mTst (mCall0 f__law_alike (mCons (mVar 10) (mCons (mNewD (mClD oDict (mCons (mNew (mLc (.nm 8) (mIt (mVar 4)) [8] mYes (mTup (mCons (mVar 8) (mCons (mOp oIxD (mOp oIxD (mVar 6) (mVar 9)) (mVar 8)) mNil))))) mNil))) mNil))))) (mRet (mC (.bl false))) mSkip)
    (mSeq (mFor (.nm 8) (mIt (mVar 4)) (mIfS (mTst (mOp oNeX (mCall0 f_next_of (mCons (mVar 1) (mCons (mVar 3) (mCons (mVar 9) (mCons (mVar 8) mNil))))) (mOp oIxD (mOp oIxD (mVar 6) (mVar 9)) (mVar 8)))) (mRet (mC (.bl false))) mSkip))
    (mSeq (mDrop (mClear (mVar 10)))
    (mIfS (mTst (mOp oNeX (mCall0 f_nexts_of (mCons (mVar 1) (mCons (mVar 3) (mCons (mVar 9) mNil)))) (mOp oIxD (mVar 6) (mVar 9)))) (mRet (mC (.bl false))) mSkip))))))))))))
    (mRet (mC (.bl true))))
noncomputable def f__law_is_looked_at : FnM := defT 3 11 (b__law_is_looked_at)
noncomputable def b_law : MS := (mSeq (mSet 1 (mCall0 f__law_bag (mCons (mVar 0) mNil)))
    (mSeq (mFor (.nm 2) (mRange1 (mCons (mC (.int 3)) mNil)) (mSeq (mSet 3 (mCall0 f__law_drawn (mCons (mVar 1) (mCons (mCall0 f__law_some (mCons (mVar 1) (mCons (mNew (mLst (mCons (mC (.int 3)) (mCons (mC (.int 4)) (mCons (mC (.int 6)) (mCons (mC (.int 1)) mNil)))))) mNil))) (mCons (mCall0 f__law_some (mCons (mVar 1) (mCons (mNew (mLst (mCons (mC (.int 6)) (mCons (mC (.int 12)) (mCons (mC (.int 24)) mNil))))) mNil))) mNil)))))
    (mSeq (mAsg (.tup [(.nm 4), (.nm 5)]) (mTup (mCons (mCall0 f__law_table (mCons (mVar 3) mNil)) (mCons (mCl oRepr (mCons (mVar 3) mNil)) mNil))))
    (mSeq (mIfS (mNotT (mTst (mCall0 f__law_alike (mCons (mNew (mLst (mCons (mCall0 f_parties_of (mCons (mVar 3) mNil)) (mCons (mCall0 f_rounds_of (mCons (mVar 3) mNil)) mNil)))) (mCons (mNew (mLst (mCons (mOp oIxD (mVar 3) (mC (.int 0))) (mCons (mCl oTuple (mCons (mNew (mClF oSorted (mCons (mVar 4) mNil))) mNil)) mNil)))) mNil))))) (mRet (mC (.bl false))) mSkip)
    (mSeq (mFor (.nm 6) (mIt (mOp oIxD (mVar 3) (mC (.int 0)))) (mSeq (mSet 7 (mCl oTuple (mCons (mNew (mLc (.nm 8) (mIt (mNew (mClF oSorted (mCons (mVar 4) mNil)))) [8] (mTst (mOp oInD (mVar 6) (mOp oIxD (mOp oIxD (mVar 4) (mVar 8)) (mC (.int 0))))) (mVar 8))) mNil)))
    (mIfS (mNotT (mTst (mCall0 f__law_alike (mCons (mCall0 f_rounds_with (mCons (mVar 3) (mCons (mVar 6) mNil))) (mCons (mVar 7) mNil))))) (mRet (mC (.bl false))) mSkip)))
    (mSeq (mSetA 7 (mLst mNil))
    (mSeq (mFor (.nm 8) (mIt (mNew (mClF oSorted (mCons (mVar 4) mNil)))) (mDrop (mMt "list" oExtend (mVar 7) (mCons (mNew (mLc (.nm 9) (mIt (mNew (mClF oSorted (mCons (mOp oIxD (mOp oIxD (mVar 4) (mVar 8)) (mC (.int 2))) mNil)))) [9] mYes (mTup (mCons (mVar 8) (mCons (mVar 9) mNil))))) mNil))))
    (mSeq (mIfS (mOrT (mNotT (mTst (mCall0 f__law_alike (mCons (mCall0 f_all_deeds (mCons (mVar 3) mNil)) (mCons (mCl oTuple (mCons (mVar 7) mNil)) mNil))))) (mNotT (mTst (mCall0 f__law_is_looked_at (mCons (mVar 1) (mCons (mVar 3) (mCons (mVar 4) mNil))))))) (mRet (mC (.bl false))) mSkip)
    (mIfS (mTst (mOp oNe (mCl oRepr (mCons (mVar 3) mNil)) (mVar 5))) (mRet (mC (.bl false))) mSkip)))))))))
    (mRet (mC (.bl true)))))
noncomputable def f_law : FnM := defN 1 10 (b_law)
/-! ### the walks -/
section
variable {P : Program} {w : World} {K : PySem.W.Frag} {mg : Str → Option Value} {base : Heap}
theorem w_parties_of (G : Glo mg) (T : At K mg "parties_of" s_parties_of ["dealing"]) : Def P w K mg base "parties_of" 1 1 (f_parties_of) := by
  refine defN_of (k := 0) T sc_parties_of rfl rfl fun f cdv A outer s H E hg hr => ?_
  have nd := sc_parties_of.nd
  have hu := units66 hr
  exact (ms_one (ms_ret (m_ix (r_ixD hu) (m_var (pv 0)) m_int (fun _ _ => rfl))))
theorem w_rounds_of (G : Glo mg) (T : At K mg "rounds_of" s_rounds_of ["dealing"]) : Def P w K mg base "rounds_of" 1 1 (f_rounds_of) := by
  refine defN_of (k := 0) T sc_rounds_of rfl rfl fun f cdv A outer s H E hg hr => ?_
  have nd := sc_rounds_of.nd
  have hu := units66 hr
  exact (ms_one (ms_ret (m_callTy c_tuple (by rfl) G.z_tuple (by decide +kernel) (m_cons (m_new (f_lc (own := [("one", 1)]) rfl nd (m_it (m_ix (r_ixD hu) (m_var (pv 0)) m_int (fun _ _ => rfl))) (blkOk_by (N := ["dealing", "one"]) (sc := defScope s_rounds_of) (by decide +kernel)) (fun _ _ _ _ _ => (mg_name (i := 1) nd rfl (by first | exact Or.inl rfl | exact Or.inr rfl))) (fun _ _ _ _ _ => mts_nil) (fun _ _ _ _ _ => (m_ix (r_ixD hu) (m_var (pv 1)) m_int (fun _ _ => rfl))))) m_nil))))
theorem w_round_at (G : Glo mg) (T : At K mg "round_at" s_round_at ["dealing", "name"]) (D_rounds_of : Def P w K mg base "rounds_of" 1 1 (f_rounds_of)) : Def P w K mg base "round_at" 2 2 (f_round_at) := by
  refine defN_of (k := 1) T sc_round_at rfl rfl fun f cdv A outer s H E hg hr => ?_
  have nd := sc_round_at.nd
  have hu := units66 hr
  exact (ms_one (ms_ret (m_ix (r_ixD hu) (m_ix (r_ixD hu) (m_var (pv 0)) m_int (fun _ _ => rfl)) (m_idx (m_call D_rounds_of hg hr (by rfl) (m_cons (m_var (pv 0)) m_nil)) (m_cons (m_var (pv 1)) m_nil)) (fun _ _ => rfl))))
theorem w_lot_of (G : Glo mg) (T : At K mg "lot_of" s_lot_of ["dealing", "name"]) (D_round_at : Def P w K mg base "round_at" 2 2 (f_round_at)) : Def P w K mg base "lot_of" 2 3 (f_lot_of) := by
  refine defN_of (k := 2) T sc_lot_of rfl rfl fun f cdv A outer s H E hg hr => ?_
  have nd := sc_lot_of.nd
  have hu := units66 hr
  exact (ms_one (ms_ret (m_ix (r_ixD hu) (m_call D_round_at hg hr (by rfl) (m_cons (m_var (pv 0)) (m_cons (m_var (pv 1)) m_nil))) m_int (fun _ _ => rfl))))
theorem w_chooser_of (G : Glo mg) (T : At K mg "chooser_of" s_chooser_of ["dealing", "name"]) (D_round_at : Def P w K mg base "round_at" 2 2 (f_round_at)) : Def P w K mg base "chooser_of" 2 3 (f_chooser_of) := by
  refine defN_of (k := 2) T sc_chooser_of rfl rfl fun f cdv A outer s H E hg hr => ?_
  have nd := sc_chooser_of.nd
  have hu := units66 hr
  exact (ms_one (ms_ret (m_ix (r_ixD hu) (m_call D_round_at hg hr (by rfl) (m_cons (m_var (pv 0)) (m_cons (m_var (pv 1)) m_nil))) m_int (fun _ _ => rfl))))
theorem w_words_of (G : Glo mg) (T : At K mg "words_of" s_words_of ["dealing", "name"]) (D_round_at : Def P w K mg base "round_at" 2 2 (f_round_at)) : Def P w K mg base "words_of" 2 3 (f_words_of) := by
  refine defN_of (k := 2) T sc_words_of rfl rfl fun f cdv A outer s H E hg hr => ?_
  have nd := sc_words_of.nd
  have hu := units66 hr
  exact (ms_one (ms_ret (m_callTy c_tuple (by rfl) G.z_tuple (by decide +kernel) (m_cons (m_new (f_lc (own := [("result", 2)]) rfl nd (m_it (m_ix (r_ixD hu) (m_call D_round_at hg hr (by rfl) (m_cons (m_var (pv 0)) (m_cons (m_var (pv 1)) m_nil))) m_int (fun _ _ => rfl))) (blkOk_by (N := ["dealing", "name", "result"]) (sc := defScope s_words_of) (by decide +kernel)) (fun _ _ _ _ _ => (mg_name (i := 2) nd rfl (by first | exact Or.inl rfl | exact Or.inr rfl))) (fun _ _ _ _ _ => mts_nil) (fun _ _ _ _ _ => (m_ix (r_ixD hu) (m_var (pv 2)) m_int (fun _ _ => rfl))))) m_nil))))
theorem w_nexts_of (G : Glo mg) (T : At K mg "nexts_of" s_nexts_of ["dealing", "name", "word"]) (D_round_at : Def P w K mg base "round_at" 2 2 (f_round_at)) : Def P w K mg base "nexts_of" 3 3 (f_nexts_of) := by
  refine defN_of (k := 2) T sc_nexts_of rfl rfl fun f cdv A outer s H E hg hr => ?_
  have nd := sc_nexts_of.nd
  have hu := units66 hr
  exact (ms_one (ms_ret (m_newD (d_callTy (c_dictT rfl) (by rfl) G.z_dict (by decide +kernel) (m_cons (m_ix (r_ixD hu) (m_newD (d_callTy (c_dictT rfl) (by rfl) G.z_dict (by decide +kernel) (m_cons (m_ix (r_ixD hu) (m_call D_round_at hg hr (by rfl) (m_cons (m_var (pv 0)) (m_cons (m_var (pv 1)) m_nil))) m_int (fun _ _ => rfl)) m_nil))) (m_var (pv 2)) (fun _ _ => rfl)) m_nil)))))
theorem w_next_of (G : Glo mg) (T : At K mg "next_of" s_next_of ["dealing", "name", "word", "party"]) (D_nexts_of : Def P w K mg base "nexts_of" 3 3 (f_nexts_of)) : Def P w K mg base "next_of" 4 4 (f_next_of) := by
  refine defN_of (k := 3) T sc_next_of rfl rfl fun f cdv A outer s H E hg hr => ?_
  have nd := sc_next_of.nd
  have hu := units66 hr
  exact (ms_one (ms_ret (m_ix (r_ixD hu) (m_call D_nexts_of hg hr (by rfl) (m_cons (m_var (pv 0)) (m_cons (m_var (pv 1)) (m_cons (m_var (pv 2)) m_nil)))) (m_var (pv 3)) (fun _ _ => rfl))))
theorem w_wants (G : Glo mg) (T : At K mg "wants" s_wants ["dealing", "name", "party"]) (D_lot_of : Def P w K mg base "lot_of" 2 3 (f_lot_of)) : Def P w K mg base "wants" 3 4 (f_wants) := by
  refine defN_of (k := 3) T sc_wants rfl rfl fun f cdv A outer s H E hg hr => ?_
  have nd := sc_wants.nd
  have hu := units66 hr
  exact (ms_one (ms_ret (m_cmp (r_inD hu) (m_var (pv 2)) (m_call D_lot_of hg hr (by rfl) (m_cons (m_var (pv 0)) (m_cons (m_var (pv 1)) m_nil))) (by rfl))))
theorem w_rounds_with (G : Glo mg) (T : At K mg "rounds_with" s_rounds_with ["dealing", "party"]) : Def P w K mg base "rounds_with" 2 1 (f_rounds_with) := by
  refine defN_of (k := 0) T sc_rounds_with rfl rfl fun f cdv A outer s H E hg hr => ?_
  have nd := sc_rounds_with.nd
  have hu := units66 hr
  exact (ms_one (ms_ret (m_callTy c_tuple (by rfl) G.z_tuple (by decide +kernel) (m_cons (m_new (f_lc (own := [("one", 2)]) rfl nd (m_it (m_ix (r_ixD hu) (m_var (pv 0)) m_int (fun _ _ => rfl))) (blkOk_by (N := ["dealing", "party", "one"]) (sc := defScope s_rounds_with) (by decide +kernel)) (fun _ _ _ _ _ => (mg_name (i := 2) nd rfl (by first | exact Or.inl rfl | exact Or.inr rfl))) (fun _ _ _ _ _ => (mts_one (m_cmpT (r_inD hu) (m_var (pv 1)) (m_ix (r_ixD hu) (m_var (pv 2)) m_int (fun _ _ => rfl)) (by rfl)))) (fun _ _ _ _ _ => (m_ix (r_ixD hu) (m_var (pv 2)) m_int (fun _ _ => rfl))))) m_nil))))
theorem w_all_deeds (G : Glo mg) (T : At K mg "all_deeds" s_all_deeds ["dealing"]) : Def P w K mg base "all_deeds" 1 1 (f_all_deeds) := by
  refine defN_of (k := 0) T sc_all_deeds rfl rfl fun f cdv A outer s H E hg hr => ?_
  have nd := sc_all_deeds.nd
  have hu := units66 hr
  exact (ms_one (ms_ret (m_callTy c_tuple (by rfl) G.z_tuple (by decide +kernel) (m_cons (m_new (f_lc2 (own := [("one", 1), ("result", 2)]) (vs1 := [2]) rfl nd (m_it (m_ix (r_ixD hu) (m_var (pv 0)) m_int (fun _ _ => rfl))) (blkOk_by (N := ["dealing", "one", "result"]) (sc := defScope s_all_deeds) (by decide +kernel)) (fun _ _ _ _ _ => (mg_name (i := 1) nd rfl (by first | exact Or.inl rfl | exact Or.inr rfl))) (fun _ _ _ _ _ => mts_nil) (fun _ _ _ _ _ => (m_it (m_ix (r_ixD hu) (m_var (pv 1)) m_int (fun _ _ => rfl)))) (fun _ _ _ _ _ => (mg_name (i := 2) nd rfl (by first | exact Or.inl rfl | exact Or.inr rfl))) (fun _ _ _ _ _ => mts_nil) (fun _ _ _ _ _ => (m_tup (m_cons (m_ix (r_ixD hu) (m_var (pv 1)) m_int (fun _ _ => rfl)) (m_cons (m_ix (r_ixD hu) (m_var (pv 2)) m_int (fun _ _ => rfl)) m_nil)))))) m_nil))))
theorem w__law_bag (G : Glo mg) (T : At K mg "_law_bag" s__law_bag ["_law_script"]) : Def P w K mg base "_law_bag" 1 1 (f__law_bag) := by
  refine defN_of (k := 0) T sc__law_bag rfl rfl fun f cdv A outer s H E hg hr => ?_
  have nd := sc__law_bag.nd
  have hu := units66 hr
  exact (ms_one (ms_retA (f_lst (m_cons m_int (m_cons m_int (m_cons m_int (m_cons (m_new (f_lc (own := [("_law_cell", 1)]) rfl nd (m_it (m_cut (m_var (pv 0)) mp_none (mp_some m_int))) (blkOk_by (N := ["_law_script", "_law_cell"]) (sc := defScope s__law_bag) (by decide +kernel)) (fun _ _ _ _ _ => (mg_name (i := 1) nd rfl (by first | exact Or.inl rfl | exact Or.inr rfl))) (fun _ _ _ _ _ => mts_nil) (fun _ _ _ _ _ => (m_callB c_abs (by rfl) G.z_abs (by decide +kernel) (m_cons (m_var (pv 1)) m_nil))))) m_nil)))))))
theorem w__law_take (G : Glo mg) (T : At K mg "_law_take" s__law_take ["_law_bag_here", "_law_many"]) : Def P w K mg base "_law_take" 2 1 (f__law_take) := by
  refine defN_of (k := 0) T sc__law_take rfl rfl fun f cdv A outer s H E hg hr => ?_
  have nd := sc__law_take.nd
  have hu := units66 hr
  exact (ms_cons (ms_if (m_cmpT (r_eq hu) (m_ix (r_ixD hu) (m_var (pv 0)) m_int (fun _ _ => rfl)) m_int (nm _ (by decide) (by decide))) (ms_cons (ms_set (i := 2) nd rfl (by first | exact Or.inl rfl | exact Or.inr rfl) (m_ix (r_ixD hu) (m_op r_add (m_cut (m_ix (r_ixD hu) (m_var (pv 0)) m_int (fun _ _ => rfl)) (mp_some (m_ix (r_ixD hu) (m_var (pv 0)) m_int (fun _ _ => rfl))) mp_none) (m_new (f_lst (m_cons m_int m_nil)))) m_int (fun _ _ => rfl)))
    (ms_cons (ms_augP r_iadd (m_var (pv 0)) m_int m_int)
    (ms_cons (ms_if (m_cmpT r_ge (m_var (pv 2)) (m_op r_pow m_int m_int) (nm _ (by decide) (by decide))) (ms_one (ms_putD hu (m_var (pv 2)) (m_var (pv 0)) m_int)) ms_nil)
    (ms_cons (ms_set (i := 3) nd rfl (by first | exact Or.inl rfl | exact Or.inr rfl) (m_op r_add (m_op r_add (m_op r_mul (m_ix (r_ixD hu) (m_var (pv 0)) m_int (fun _ _ => rfl)) m_int) (m_op r_mod (m_callTy c_int (by rfl) G.z_int (by decide +kernel) (m_cons (m_var (pv 2)) m_nil)) m_int)) (m_op r_mul m_int (m_ix (r_ixD hu) (m_var (pv 0)) m_int (fun _ _ => rfl)))))
    (ms_one (ms_putD hu (m_op r_mod (m_callTy c_int (by rfl) G.z_int (by decide +kernel) (m_cons (m_var (pv 3)) m_nil)) m_int) (m_var (pv 0)) m_int)))))) ms_nil)
    (ms_cons (ms_if (m_cmpT r_gt (m_ix (r_ixD hu) (m_var (pv 0)) m_int (fun _ _ => rfl)) m_int (nm _ (by decide) (by decide))) (ms_cons (ms_set (i := 4) nd rfl (by first | exact Or.inl rfl | exact Or.inr rfl) (m_op r_mod (m_callTy c_int (by rfl) G.z_int (by decide +kernel) (m_cons (m_ix (r_ixD hu) (m_var (pv 0)) m_int (fun _ _ => rfl)) m_nil)) (m_var (pv 1))))
    (ms_cons (ms_putD hu (m_op r_div (m_callTy c_int (by rfl) G.z_int (by decide +kernel) (m_cons (m_ix (r_ixD hu) (m_var (pv 0)) m_int (fun _ _ => rfl)) m_nil)) (m_var (pv 1))) (m_var (pv 0)) m_int)
    (ms_one (ms_ret (m_var (pv 4)))))) ms_nil)
    (ms_cons (ms_set (i := 5) nd rfl (by first | exact Or.inl rfl | exact Or.inr rfl) (m_op r_mod (m_callTy c_int (by rfl) G.z_int (by decide +kernel) (m_cons (m_op r_mul (m_op r_add (m_ix (r_ixD hu) (m_var (pv 0)) m_int (fun _ _ => rfl)) m_int) m_int) m_nil)) m_int))
    (ms_cons (ms_set (i := 6) nd rfl (by first | exact Or.inl rfl | exact Or.inr rfl) (m_op r_mod (m_callTy c_int (by rfl) G.z_int (by decide +kernel) (m_cons (m_op r_mul (m_op r_mod (m_callTy c_int (by rfl) G.z_int (by decide +kernel) (m_cons (m_op r_mul (m_var (pv 5)) (m_var (pv 5))) m_nil)) m_int) m_int) m_nil)) m_int))
    (ms_one (ms_ret (m_op r_mod (m_callTy c_int (by rfl) G.z_int (by decide +kernel) (m_cons (m_op r_div (m_var (pv 6)) m_int) m_nil)) (m_var (pv 1)))))))))
theorem w__law_some (G : Glo mg) (T : At K mg "_law_some" s__law_some ["_law_bag_here", "_law_things"]) (D__law_take : Def P w K mg base "_law_take" 2 1 (f__law_take)) : Def P w K mg base "_law_some" 2 2 (f__law_some) := by
  refine defN_of (k := 1) T sc__law_some rfl rfl fun f cdv A outer s H E hg hr => ?_
  have nd := sc__law_some.nd
  have hu := units66 hr
  exact (ms_one (ms_ret (m_ix (r_ixD hu) (m_var (pv 1)) (m_call D__law_take hg hr (by rfl) (m_cons (m_var (pv 0)) (m_cons (m_callB c_lenD (by rfl) G.z_len (by decide +kernel) (m_cons (m_var (pv 1)) m_nil)) m_nil))) (fun _ _ => rfl))))
theorem w__law_mixed (G : Glo mg) (T : At K mg "_law_mixed" s__law_mixed ["_law_bag_here", "_law_things"]) (D__law_take : Def P w K mg base "_law_take" 2 1 (f__law_take)) : Def P w K mg base "_law_mixed" 2 2 (f__law_mixed) := by
  refine defT_of (k := 1) T sc__law_mixed rfl rfl fun f cdv A outer s H E hg hr => ?_
  have nd := sc__law_mixed.nd
  have hu := units66 hr
  exact (ms_cons (ms_setA (i := 2) nd rfl (by first | exact Or.inl rfl | exact Or.inr rfl) (f_lst m_nil))
    (ms_cons (ms_for PassesOwn.never rfl (m_it (m_var (pv 1))) (mg_name (i := 3) nd rfl (by first | exact Or.inl rfl | exact Or.inr rfl)) (ms_one (ms_expr (m_mt PySem.F.plainAttrs_list PySem.F.slot_list_insert PySem.F.type_list_insert mt_ins (m_var (pv 2)) (m_cons (m_call D__law_take hg hr (by rfl) (m_cons (m_var (pv 0)) (m_cons (m_op r_add (m_callB c_lenD (by rfl) G.z_len (by decide +kernel) (m_cons (m_var (pv 2)) m_nil)) m_int) m_nil))) (m_cons (m_var (pv 3)) m_nil))))))
    (ms_one (ms_ret (m_var (pv 2))))))
theorem w__law_alike (G : Glo mg) (T : At K mg "_law_alike" s__law_alike ["_law_found", "_law_due"]) : Def P w K mg base "_law_alike" 2 1 (f__law_alike) := by
  refine defN_of (k := 0) T sc__law_alike rfl rfl fun f cdv A outer s H E hg hr => ?_
  have nd := sc__law_alike.nd
  have hu := units66 hr
  exact (ms_one (ms_ret (m_and (m_cmp (r_eqX hu) (m_var (pv 0)) (m_var (pv 1)) (nm _ (by decide) (by decide))) (m_bone (m_cmp (r_eqX hu) (m_callB (c_reprX hg hu) (by rfl) G.z_repr (by decide +kernel) (m_cons (m_var (pv 0)) m_nil)) (m_callB (c_reprX hg hu) (by rfl) G.z_repr (by decide +kernel) (m_cons (m_var (pv 1)) m_nil)) (nm _ (by decide) (by decide)))))))
theorem w__law_table (G : Glo mg) (T : At K mg "_law_table" s__law_table ["_law_dealing_here"]) : Def P w K mg base "_law_table" 1 1 (f__law_table) := by
  refine defN_of (k := 0) T sc__law_table rfl rfl fun f cdv A outer s H E hg hr => ?_
  have nd := sc__law_table.nd
  have hu := units66 hr
  exact (ms_cons (ms_set (i := 1) nd rfl (by first | exact Or.inl rfl | exact Or.inr rfl) (m_newD d_dict0))
    (ms_cons (ms_for PassesOwn.never rfl (m_it (m_ix (r_ixD hu) (m_var (pv 0)) m_int (fun _ _ => rfl))) (mg_tup rfl (mgs_cons (mg_name (i := 2) nd rfl (by first | exact Or.inl rfl | exact Or.inr rfl)) (mgs_cons (mg_name (i := 3) nd rfl (by first | exact Or.inl rfl | exact Or.inr rfl)) (mgs_cons (mg_name (i := 4) nd rfl (by first | exact Or.inl rfl | exact Or.inr rfl)) (mgs_cons (mg_name (i := 5) nd rfl (by first | exact Or.inl rfl | exact Or.inr rfl)) mgs_nil))))) (ms_one (ms_putD hu (m_newA (f_lst (m_cons (m_var (pv 3)) (m_cons (m_var (pv 4)) (m_cons (m_newD (d_callTy (c_dict rfl) (by rfl) G.z_dict (by decide +kernel) (m_cons (m_new (f_lc (own := [("_law_word", 6), ("_law_nexts", 7)]) rfl nd (m_it (m_var (pv 5))) (blkOk_by (N := ["_law_dealing_here", "_law_found", "_law_name", "_law_lot", "_law_chooser", "_law_results", "_law_word", "_law_nexts"]) (sc := defScope s__law_table) (by decide +kernel)) (fun _ _ _ _ _ => (mg_tup rfl (mgs_cons (mg_name (i := 6) nd rfl (by first | exact Or.inl rfl | exact Or.inr rfl)) (mgs_cons (mg_name (i := 7) nd rfl (by first | exact Or.inl rfl | exact Or.inr rfl)) mgs_nil)))) (fun _ _ _ _ _ => mts_nil) (fun _ _ _ _ _ => (m_tup (m_cons (m_var (pv 6)) (m_cons (m_newD (d_callTy (c_dict rfl) (by rfl) G.z_dict (by decide +kernel) (m_cons (m_new (f_callTy (c_listD rfl) (by rfl) G.z_list (by decide +kernel) (m_cons (m_var (pv 7)) m_nil))) m_nil))) m_nil)))))) m_nil))) m_nil))))) (m_var (pv 1)) (m_var (pv 2)))))
    (ms_one (ms_ret (m_var (pv 1))))))
theorem w__law_dealing (G : Glo mg) (T : At K mg "_law_dealing" s__law_dealing ["_law_parties_here", "_law_table_here"]) : Def P w K mg base "_law_dealing" 2 1 (f__law_dealing) := by
  refine defT_of (k := 0) T sc__law_dealing rfl rfl fun f cdv A outer s H E hg hr => ?_
  have nd := sc__law_dealing.nd
  have hu := units66 hr
  exact (ms_cons (ms_setA (i := 2) nd rfl (by first | exact Or.inl rfl | exact Or.inr rfl) (f_lst m_nil))
    (ms_cons (ms_for PassesOwn.never rfl (m_it (m_new (f_callB (c_sorted rfl) (by rfl) G.z_sorted (by decide +kernel) (m_cons (m_var (pv 1)) m_nil)))) (mg_name (i := 3) nd rfl (by first | exact Or.inl rfl | exact Or.inr rfl)) (ms_cons (ms_asg (m_ix (r_ixD hu) (m_var (pv 1)) (m_var (pv 3)) (fun _ _ => rfl)) (mg_tup rfl (mgs_cons (mg_name (i := 4) nd rfl (by first | exact Or.inl rfl | exact Or.inr rfl)) (mgs_cons (mg_name (i := 5) nd rfl (by first | exact Or.inl rfl | exact Or.inr rfl)) (mgs_cons (mg_name (i := 6) nd rfl (by first | exact Or.inl rfl | exact Or.inr rfl)) mgs_nil)))))
    (ms_cons (ms_setLc (own := [("_law_word", 8)]) (i := 7) rfl nd rfl rfl (m_it (m_new (f_callB (c_sorted rfl) (by rfl) G.z_sorted (by decide +kernel) (m_cons (m_var (pv 6)) m_nil)))) (blkOk_by (N := ["_law_parties_here", "_law_table_here", "_law_rounds", "_law_name", "_law_lot", "_law_chooser", "_law_results", "_law_rows", "_law_word"]) (sc := defScope s__law_dealing) (by decide +kernel)) (fun _ _ _ _ _ => (mg_name (i := 8) nd rfl (by first | exact Or.inl rfl | exact Or.inr rfl))) (fun _ _ _ _ _ => mts_nil) (fun _ _ _ _ _ => (m_tup (m_cons (m_var (pv 8)) (m_cons (m_callTy c_tuple (by rfl) G.z_tuple (by decide +kernel) (m_cons (m_new (f_sortItems rfl (by rfl) G.z_sorted (m_ix (r_ixD hu) (m_var (pv 6)) (m_var (pv 8)) (fun _ _ => rfl)))) m_nil)) m_nil)))))
    (ms_one (ms_expr (m_mt PySem.F.plainAttrs_list PySem.F.slot_list_append PySem.F.type_list_append mt_app (m_var (pv 2)) (m_cons (m_tup (m_cons (m_var (pv 3)) (m_cons (m_var (pv 4)) (m_cons (m_var (pv 5)) (m_cons (m_callTy c_tuple (by rfl) G.z_tuple (by decide +kernel) (m_cons (m_var (pv 7)) m_nil)) m_nil))))) m_nil)))))))
    (ms_one (ms_ret (m_tup (m_cons (m_var (pv 0)) (m_cons (m_callTy c_tuple (by rfl) G.z_tuple (by decide +kernel) (m_cons (m_var (pv 2)) m_nil)) m_nil)))))))
theorem w__law_parties (G : Glo mg) (T : At K mg "_law_parties" s__law_parties ["_law_bag_here", "_law_most"]) (D__law_some : Def P w K mg base "_law_some" 2 2 (f__law_some)) (D__law_mixed : Def P w K mg base "_law_mixed" 2 2 (f__law_mixed)) (D__law_take : Def P w K mg base "_law_take" 2 1 (f__law_take)) : Def P w K mg base "_law_parties" 2 3 (f__law_parties) := by
  refine defN_of (k := 2) T sc__law_parties rfl rfl fun f cdv A outer s H E hg hr => ?_
  have nd := sc__law_parties.nd
  have hu := units66 hr
  exact (ms_cons (ms_set (i := 2) nd rfl (by first | exact Or.inl rfl | exact Or.inr rfl) (m_call D__law_some hg hr (by rfl) (m_cons (m_var (pv 0)) (m_cons (m_new (f_lst (m_cons (m_new (f_lst (m_cons m_str (m_cons m_str (m_cons m_str (m_cons m_str (m_cons m_str (m_cons m_str m_nil)))))))) (m_cons (m_new (f_lst (m_cons m_str (m_cons m_str (m_cons m_str (m_cons m_str (m_cons m_str (m_cons m_str m_nil)))))))) m_nil)))) m_nil))))
    (ms_one (ms_ret (m_callTy c_tuple (by rfl) G.z_tuple (by decide +kernel) (m_cons (m_new (f_callB (c_sorted rfl) (by rfl) G.z_sorted (by decide +kernel) (m_cons (m_cut (m_call D__law_mixed hg hr (by rfl) (m_cons (m_var (pv 0)) (m_cons (m_var (pv 2)) m_nil))) mp_none (mp_some (m_op r_add m_int (m_call D__law_take hg hr (by rfl) (m_cons (m_var (pv 0)) (m_cons (m_var (pv 1)) m_nil)))))) m_nil))) m_nil)))))
theorem w__law_begun (G : Glo mg) (T : At K mg "_law_begun" s__law_begun ["_law_parties_here"]) : Def P w K mg base "_law_begun" 1 1 (f__law_begun) := by
  refine defN_of (k := 0) T sc__law_begun rfl rfl fun f cdv A outer s H E hg hr => ?_
  have nd := sc__law_begun.nd
  have hu := units66 hr
  exact (ms_cons (ms_set (i := 1) nd rfl (by first | exact Or.inl rfl | exact Or.inr rfl) (m_newD (d_callTy (c_dict rfl) (by rfl) G.z_dict (by decide +kernel) (m_cons (m_new (f_lc (own := [("_law_party", 2)]) rfl nd (m_it (m_var (pv 0))) (blkOk_by (N := ["_law_parties_here", "_law_nexts", "_law_party"]) (sc := defScope s__law_begun) (by decide +kernel)) (fun _ _ _ _ _ => (mg_name (i := 2) nd rfl (by first | exact Or.inl rfl | exact Or.inr rfl))) (fun _ _ _ _ _ => mts_nil) (fun _ _ _ _ _ => (m_tup (m_cons (m_var (pv 2)) (m_cons m_str m_nil)))))) m_nil))))
    (ms_one (ms_ret (m_newD (d_disp (mps_cons m_str (m_newA (f_lst (m_cons (m_var (pv 0)) (m_cons (m_ix (r_ixD hu) (m_var (pv 0)) m_int (fun _ _ => rfl)) (m_cons (m_newD (d_disp (mps_cons m_str (m_var (pv 1)) mps_nil))) m_nil))))) (mps_cons m_str (m_newA (f_lst (m_cons (m_var (pv 0)) (m_cons (m_ix (r_ixD hu) (m_var (pv 0)) (m_un r_neg m_int) (fun _ _ => rfl)) (m_cons (m_newD d_dict0) m_nil))))) mps_nil)))))))
theorem w__law_new_name (G : Glo mg) (T : At K mg "_law_new_name" s__law_new_name ["_law_bag_here", "_law_known"]) (D__law_some : Def P w K mg base "_law_some" 2 2 (f__law_some)) : Def P w K mg base "_law_new_name" 2 3 (f__law_new_name) := by
  refine defT_of (k := 2) T sc__law_new_name rfl rfl fun f cdv A outer s H E hg hr => ?_
  have nd := sc__law_new_name.nd
  have hu := units66 hr
  exact (ms_cons (ms_setA (i := 2) nd rfl (by first | exact Or.inl rfl | exact Or.inr rfl) (f_lst m_nil))
    (ms_cons (ms_for PassesOwn.never rfl (m_it (m_new (f_lst (m_cons m_str (m_cons m_str (m_cons m_str (m_cons m_str (m_cons m_str m_nil)))))))) (mg_name (i := 3) nd rfl (by first | exact Or.inl rfl | exact Or.inr rfl)) (ms_one (ms_expr (m_mt PySem.F.plainAttrs_list PySem.F.slot_list_extend PySem.F.type_list_extend mt_ext (m_var (pv 2)) (m_cons (m_new (f_lc (own := [("_law_two", 5)]) rfl nd (m_it (m_new (f_lst (m_cons m_str (m_cons m_str (m_cons m_str (m_cons m_str (m_cons m_str m_nil)))))))) (blkOk_by (N := ["_law_bag_here", "_law_known", "_law_some_here", "_law_one", "_law_free", "_law_two", "_law_name"]) (sc := defScope s__law_new_name) (by decide +kernel)) (fun _ _ _ _ _ => (mg_name (i := 5) nd rfl (by first | exact Or.inl rfl | exact Or.inr rfl))) (fun _ _ _ _ _ => mts_nil) (fun _ _ _ _ _ => (m_op r_add (m_var (pv 3)) (m_var (pv 5)))))) m_nil)))))
    (ms_cons (ms_setLc (own := [("_law_name", 6)]) (i := 4) rfl nd rfl rfl (m_it (m_var (pv 2))) (blkOk_by (N := ["_law_bag_here", "_law_known", "_law_some_here", "_law_one", "_law_free", "_law_two", "_law_name"]) (sc := defScope s__law_new_name) (by decide +kernel)) (fun _ _ _ _ _ => (mg_name (i := 6) nd rfl (by first | exact Or.inl rfl | exact Or.inr rfl))) (fun _ _ _ _ _ => (mts_one (m_cmpT (r_notInD hu) (m_var (pv 6)) (m_var (pv 1)) (by rfl)))) (fun _ _ _ _ _ => (m_var (pv 6))))
    (ms_one (ms_ret (m_if (m_cmpT (r_ne hu) (m_var (pv 4)) (m_new (f_lst m_nil)) (nm _ (by decide) (by decide))) (m_call D__law_some hg hr (by rfl) (m_cons (m_var (pv 0)) (m_cons (m_var (pv 4)) m_nil))) (m_op r_add (m_op r_mul m_str (m_op r_sub (m_op r_add m_int (m_callB c_lenD (by rfl) G.z_len (by decide +kernel) (m_cons (m_var (pv 1)) m_nil))) (m_callB c_lenD (by rfl) G.z_len (by decide +kernel) (m_cons (m_var (pv 2)) m_nil)))) m_str)))))))
theorem w__law_result_of (G : Glo mg) (T : At K mg "_law_result_of" s__law_result_of ["_law_bag_here", "_law_table_here"]) (D__law_some : Def P w K mg base "_law_some" 2 2 (f__law_some)) : Def P w K mg base "_law_result_of" 2 3 (f__law_result_of) := by
  refine defT_of (k := 2) T sc__law_result_of rfl rfl fun f cdv A outer s H E hg hr => ?_
  have nd := sc__law_result_of.nd
  have hu := units66 hr
  exact (ms_cons (ms_setA (i := 2) nd rfl (by first | exact Or.inl rfl | exact Or.inr rfl) (f_lst m_nil))
    (ms_cons (ms_for PassesOwn.never rfl (m_it (m_new (f_callB (c_sorted rfl) (by rfl) G.z_sorted (by decide +kernel) (m_cons (m_var (pv 1)) m_nil)))) (mg_name (i := 3) nd rfl (by first | exact Or.inl rfl | exact Or.inr rfl)) (ms_one (ms_expr (m_mt PySem.F.plainAttrs_list PySem.F.slot_list_extend PySem.F.type_list_extend mt_ext (m_var (pv 2)) (m_cons (m_new (f_lc (own := [("_law_word", 4)]) rfl nd (m_it (m_new (f_callB (c_sorted rfl) (by rfl) G.z_sorted (by decide +kernel) (m_cons (m_ix (r_ixD hu) (m_ix (r_ixD hu) (m_var (pv 1)) (m_var (pv 3)) (fun _ _ => rfl)) m_int (fun _ _ => rfl)) m_nil)))) (blkOk_by (N := ["_law_bag_here", "_law_table_here", "_law_rows", "_law_name", "_law_word"]) (sc := defScope s__law_result_of) (by decide +kernel)) (fun _ _ _ _ _ => (mg_name (i := 4) nd rfl (by first | exact Or.inl rfl | exact Or.inr rfl))) (fun _ _ _ _ _ => mts_nil) (fun _ _ _ _ _ => (m_tup (m_cons (m_var (pv 3)) (m_cons (m_var (pv 4)) m_nil)))))) m_nil)))))
    (ms_one (ms_ret (m_call D__law_some hg hr (by rfl) (m_cons (m_var (pv 0)) (m_cons (m_var (pv 2)) m_nil)))))))
theorem w__law_with_copy (G : Glo mg) (T : At K mg "_law_with_copy" s__law_with_copy ["_law_bag_here", "_law_table_here"]) (D__law_result_of : Def P w K mg base "_law_result_of" 2 3 (f__law_result_of)) (D__law_new_name : Def P w K mg base "_law_new_name" 2 3 (f__law_new_name)) : Def P w K mg base "_law_with_copy" 2 4 (f__law_with_copy) := by
  refine defN_of (k := 3) T sc__law_with_copy rfl rfl fun f cdv A outer s H E hg hr => ?_
  have nd := sc__law_with_copy.nd
  have hu := units66 hr
  exact (ms_cons (ms_asg (m_call D__law_result_of hg hr (by rfl) (m_cons (m_var (pv 0)) (m_cons (m_var (pv 1)) m_nil))) (mg_tup rfl (mgs_cons (mg_name (i := 2) nd rfl (by first | exact Or.inl rfl | exact Or.inr rfl)) (mgs_cons (mg_name (i := 3) nd rfl (by first | exact Or.inl rfl | exact Or.inr rfl)) mgs_nil))))
    (ms_one (ms_if (m_cmpT r_lt (m_callB c_lenD (by rfl) G.z_len (by decide +kernel) (m_cons (m_ix (r_ixD hu) (m_ix (r_ixD hu) (m_var (pv 1)) (m_var (pv 2)) (fun _ _ => rfl)) m_int (fun _ _ => rfl)) m_nil)) m_int (nm _ (by decide) (by decide))) (ms_one (ms_putD hu (m_newD (d_callTy (c_dict rfl) (by rfl) G.z_dict (by decide +kernel) (m_cons (m_ix (r_ixD hu) (m_ix (r_ixD hu) (m_ix (r_ixD hu) (m_var (pv 1)) (m_var (pv 2)) (fun _ _ => rfl)) m_int (fun _ _ => rfl)) (m_var (pv 3)) (fun _ _ => rfl)) m_nil))) (m_ix (r_ixD hu) (m_ix (r_ixD hu) (m_var (pv 1)) (m_var (pv 2)) (fun _ _ => rfl)) m_int (fun _ _ => rfl)) (m_call D__law_new_name hg hr (by rfl) (m_cons (m_var (pv 0)) (m_cons (m_new (f_callTy (c_listD rfl) (by rfl) G.z_list (by decide +kernel) (m_cons (m_ix (r_ixD hu) (m_ix (r_ixD hu) (m_var (pv 1)) (m_var (pv 2)) (fun _ _ => rfl)) m_int (fun _ _ => rfl)) m_nil))) m_nil))))) ms_nil)))
theorem w__law_with_loop (G : Glo mg) (T : At K mg "_law_with_loop" s__law_with_loop ["_law_bag_here", "_law_table_here"]) (D__law_result_of : Def P w K mg base "_law_result_of" 2 3 (f__law_result_of)) (D__law_new_name : Def P w K mg base "_law_new_name" 2 3 (f__law_new_name)) : Def P w K mg base "_law_with_loop" 2 4 (f__law_with_loop) := by
  refine defN_of (k := 3) T sc__law_with_loop rfl rfl fun f cdv A outer s H E hg hr => ?_
  have nd := sc__law_with_loop.nd
  have hu := units66 hr
  exact (ms_cons (ms_set (i := 2) nd rfl (by first | exact Or.inl rfl | exact Or.inr rfl) (m_ix (r_ixD hu) (m_call D__law_result_of hg hr (by rfl) (m_cons (m_var (pv 0)) (m_cons (m_var (pv 1)) m_nil))) m_int (fun _ _ => rfl)))
    (ms_one (ms_if (m_cmpT r_lt (m_callB c_lenD (by rfl) G.z_len (by decide +kernel) (m_cons (m_ix (r_ixD hu) (m_ix (r_ixD hu) (m_var (pv 1)) (m_var (pv 2)) (fun _ _ => rfl)) m_int (fun _ _ => rfl)) m_nil)) m_int (nm _ (by decide) (by decide))) (ms_cons (ms_set (i := 3) nd rfl (by first | exact Or.inl rfl | exact Or.inr rfl) (m_newD (d_callTy (c_dict rfl) (by rfl) G.z_dict (by decide +kernel) (m_cons (m_new (f_lc (own := [("_law_party", 4)]) rfl nd (m_it (m_ix (r_ixD hu) (m_ix (r_ixD hu) (m_var (pv 1)) (m_var (pv 2)) (fun _ _ => rfl)) m_int (fun _ _ => rfl))) (blkOk_by (N := ["_law_bag_here", "_law_table_here", "_law_name", "_law_back", "_law_party"]) (sc := defScope s__law_with_loop) (by decide +kernel)) (fun _ _ _ _ _ => (mg_name (i := 4) nd rfl (by first | exact Or.inl rfl | exact Or.inr rfl))) (fun _ _ _ _ _ => mts_nil) (fun _ _ _ _ _ => (m_tup (m_cons (m_var (pv 4)) (m_cons (m_var (pv 2)) m_nil)))))) m_nil))))
    (ms_one (ms_putD hu (m_var (pv 3)) (m_ix (r_ixD hu) (m_ix (r_ixD hu) (m_var (pv 1)) (m_var (pv 2)) (fun _ _ => rfl)) m_int (fun _ _ => rfl)) (m_call D__law_new_name hg hr (by rfl) (m_cons (m_var (pv 0)) (m_cons (m_new (f_callTy (c_listD rfl) (by rfl) G.z_list (by decide +kernel) (m_cons (m_ix (r_ixD hu) (m_ix (r_ixD hu) (m_var (pv 1)) (m_var (pv 2)) (fun _ _ => rfl)) m_int (fun _ _ => rfl)) m_nil))) m_nil)))))) ms_nil)))
theorem w__law_with_round (G : Glo mg) (T : At K mg "_law_with_round" s__law_with_round ["_law_bag_here", "_law_table_here"]) (D__law_result_of : Def P w K mg base "_law_result_of" 2 3 (f__law_result_of)) (D__law_mixed : Def P w K mg base "_law_mixed" 2 2 (f__law_mixed)) (D__law_take : Def P w K mg base "_law_take" 2 1 (f__law_take)) (D__law_new_name : Def P w K mg base "_law_new_name" 2 3 (f__law_new_name)) (D__law_some : Def P w K mg base "_law_some" 2 2 (f__law_some)) : Def P w K mg base "_law_with_round" 2 4 (f__law_with_round) := by
  refine defN_of (k := 3) T sc__law_with_round rfl rfl fun f cdv A outer s H E hg hr => ?_
  have nd := sc__law_with_round.nd
  have hu := units66 hr
  exact (ms_cons (ms_asg (m_call D__law_result_of hg hr (by rfl) (m_cons (m_var (pv 0)) (m_cons (m_var (pv 1)) m_nil))) (mg_tup rfl (mgs_cons (mg_name (i := 2) nd rfl (by first | exact Or.inl rfl | exact Or.inr rfl)) (mgs_cons (mg_name (i := 3) nd rfl (by first | exact Or.inl rfl | exact Or.inr rfl)) mgs_nil))))
    (ms_cons (ms_set (i := 4) nd rfl (by first | exact Or.inl rfl | exact Or.inr rfl) (m_ix (r_ixD hu) (m_ix (r_ixD hu) (m_var (pv 1)) (m_var (pv 2)) (fun _ _ => rfl)) m_int (fun _ _ => rfl)))
    (ms_cons (ms_set (i := 5) nd rfl (by first | exact Or.inl rfl | exact Or.inr rfl) (m_callTy c_tuple (by rfl) G.z_tuple (by decide +kernel) (m_cons (m_new (f_callB (c_sorted rfl) (by rfl) G.z_sorted (by decide +kernel) (m_cons (m_cut (m_call D__law_mixed hg hr (by rfl) (m_cons (m_var (pv 0)) (m_cons (m_new (f_callTy (c_listD rfl) (by rfl) G.z_list (by decide +kernel) (m_cons (m_var (pv 4)) m_nil))) m_nil))) mp_none (mp_some (m_op r_add m_int (m_call D__law_take hg hr (by rfl) (m_cons (m_var (pv 0)) (m_cons (m_callB c_lenD (by rfl) G.z_len (by decide +kernel) (m_cons (m_var (pv 4)) m_nil)) m_nil)))))) m_nil))) m_nil)))
    (ms_cons (ms_asg (m_tup (m_cons (m_call D__law_new_name hg hr (by rfl) (m_cons (m_var (pv 0)) (m_cons (m_new (f_callTy (c_listD rfl) (by rfl) G.z_list (by decide +kernel) (m_cons (m_var (pv 1)) m_nil))) m_nil))) (m_cons (m_ix (r_ixD hu) (m_ix (r_ixD hu) (m_ix (r_ixD hu) (m_var (pv 1)) (m_var (pv 2)) (fun _ _ => rfl)) m_int (fun _ _ => rfl)) (m_var (pv 3)) (fun _ _ => rfl)) m_nil))) (mg_tup rfl (mgs_cons (mg_name (i := 6) nd rfl (by first | exact Or.inl rfl | exact Or.inr rfl)) (mgs_cons (mg_name (i := 7) nd rfl (by first | exact Or.inl rfl | exact Or.inr rfl)) mgs_nil))))
    (ms_cons (ms_set (i := 8) nd rfl (by first | exact Or.inl rfl | exact Or.inr rfl) (m_newD (d_callTy (c_dict rfl) (by rfl) G.z_dict (by decide +kernel) (m_cons (m_new (f_lc (own := [("_law_party", 9)]) rfl nd (m_it (m_var (pv 5))) (blkOk_by (N := ["_law_bag_here", "_law_table_here", "_law_name", "_law_word", "_law_lot", "_law_some_here", "_law_new", "_law_nexts", "_law_only", "_law_party"]) (sc := defScope s__law_with_round) (by decide +kernel)) (fun _ _ _ _ _ => (mg_name (i := 9) nd rfl (by first | exact Or.inl rfl | exact Or.inr rfl))) (fun _ _ _ _ _ => mts_nil) (fun _ _ _ _ _ => (m_tup (m_cons (m_var (pv 9)) (m_cons (m_ix (r_ixD hu) (m_var (pv 7)) (m_var (pv 9)) (fun _ _ => rfl)) m_nil)))))) m_nil))))
    (ms_cons (ms_putD hu (m_newA (f_lst (m_cons (m_var (pv 5)) (m_cons (m_call D__law_some hg hr (by rfl) (m_cons (m_var (pv 0)) (m_cons (m_var (pv 5)) m_nil))) (m_cons (m_newD (d_disp (mps_cons (m_call D__law_some hg hr (by rfl) (m_cons (m_var (pv 0)) (m_cons (m_new (f_lst (m_cons m_str (m_cons m_str (m_cons m_str m_nil))))) m_nil))) (m_var (pv 8)) mps_nil))) m_nil))))) (m_var (pv 1)) (m_var (pv 6)))
    (ms_one (ms_for PassesOwn.never rfl (m_it (m_var (pv 5))) (mg_name (i := 9) nd rfl (by first | exact Or.inl rfl | exact Or.inr rfl)) (ms_one (ms_putD hu (m_var (pv 6)) (m_var (pv 7)) (m_var (pv 9))))))))))))
theorem w__law_with_fold (G : Glo mg) (T : At K mg "_law_with_fold" s__law_with_fold ["_law_bag_here", "_law_table_here"]) (D__law_result_of : Def P w K mg base "_law_result_of" 2 3 (f__law_result_of)) (D__law_mixed : Def P w K mg base "_law_mixed" 2 2 (f__law_mixed)) : Def P w K mg base "_law_with_fold" 2 4 (f__law_with_fold) := by
  refine defN_of (k := 3) T sc__law_with_fold rfl rfl fun f cdv A outer s H E hg hr => ?_
  have nd := sc__law_with_fold.nd
  have hu := units66 hr
  exact (ms_cons (ms_asg (m_call D__law_result_of hg hr (by rfl) (m_cons (m_var (pv 0)) (m_cons (m_var (pv 1)) m_nil))) (mg_tup rfl (mgs_cons (mg_name (i := 2) nd rfl (by first | exact Or.inl rfl | exact Or.inr rfl)) (mgs_cons (mg_name (i := 3) nd rfl (by first | exact Or.inl rfl | exact Or.inr rfl)) mgs_nil))))
    (ms_cons (ms_set (i := 4) nd rfl (by first | exact Or.inl rfl | exact Or.inr rfl) (m_ix (r_ixD hu) (m_ix (r_ixD hu) (m_ix (r_ixD hu) (m_var (pv 1)) (m_var (pv 2)) (fun _ _ => rfl)) m_int (fun _ _ => rfl)) (m_var (pv 3)) (fun _ _ => rfl)))
    (ms_one (ms_for PassesOwn.never rfl (m_it (m_call D__law_mixed hg hr (by rfl) (m_cons (m_var (pv 0)) (m_cons (m_new (f_callB (c_sorted rfl) (by rfl) G.z_sorted (by decide +kernel) (m_cons (m_var (pv 1)) m_nil))) m_nil)))) (mg_name (i := 5) nd rfl (by first | exact Or.inl rfl | exact Or.inr rfl)) (ms_cons (ms_asg (m_ix (r_ixD hu) (m_var (pv 1)) (m_var (pv 5)) (fun _ _ => rfl)) (mg_tup rfl (mgs_cons (mg_name (i := 6) nd rfl (by first | exact Or.inl rfl | exact Or.inr rfl)) (mgs_cons (mg_name (i := 7) nd rfl (by first | exact Or.inl rfl | exact Or.inr rfl)) (mgs_cons (mg_name (i := 8) nd rfl (by first | exact Or.inl rfl | exact Or.inr rfl)) mgs_nil)))))
    (ms_one (ms_if ((m_andT (m_cmpT (r_ne hu) (m_var (pv 5)) (m_var (pv 2)) (nm _ (by decide) (by decide))) (m_andT (m_cmpT (r_eq hu) (m_callB c_lenD (by rfl) G.z_len (by decide +kernel) (m_cons (m_var (pv 8)) m_nil)) m_int (nm _ (by decide) (by decide))) (m_and1 (m_cmpT (r_eq hu) (m_new (f_lc (own := [("_law_p", 10)]) rfl nd (m_it (m_var (pv 6))) (blkOk_by (N := ["_law_bag_here", "_law_table_here", "_law_name", "_law_word", "_law_nexts", "_law_other", "_law_lot", "_law_chooser", "_law_results", "_law_only", "_law_p"]) (sc := defScope s__law_with_fold) (by decide +kernel)) (fun _ _ _ _ _ => (mg_name (i := 10) nd rfl (by first | exact Or.inl rfl | exact Or.inr rfl))) (fun _ _ _ _ _ => (mts_one (m_cmpT (r_notInD hu) (m_var (pv 10)) (m_var (pv 4)) (by rfl)))) (fun _ _ _ _ _ => (m_var (pv 10))))) (m_new (f_lst m_nil)) (nm _ (by decide) (by decide))))))).pt (ms_cons (ms_set (i := 9) nd rfl (by first | exact Or.inl rfl | exact Or.inr rfl) (m_ix (r_ixD hu) (m_var (pv 8)) (m_ix (r_ixD hu) (m_new (f_callB (c_sorted rfl) (by rfl) G.z_sorted (by decide +kernel) (m_cons (m_var (pv 8)) m_nil))) m_int (fun _ _ => rfl)) (fun _ _ => rfl)))
    (ms_one (ms_if (m_cmpT (r_eq hu) (m_new (f_lc (own := [("_law_p", 10)]) rfl nd (m_it (m_var (pv 6))) (blkOk_by (N := ["_law_bag_here", "_law_table_here", "_law_name", "_law_word", "_law_nexts", "_law_other", "_law_lot", "_law_chooser", "_law_results", "_law_only", "_law_p"]) (sc := defScope s__law_with_fold) (by decide +kernel)) (fun _ _ _ _ _ => (mg_name (i := 10) nd rfl (by first | exact Or.inl rfl | exact Or.inr rfl))) (fun _ _ _ _ _ => (mts_one (m_cmpT (r_ne hu) (m_ix (r_ixD hu) (m_var (pv 9)) (m_var (pv 10)) (fun _ _ => rfl)) (m_ix (r_ixD hu) (m_var (pv 4)) (m_var (pv 10)) (fun _ _ => rfl)) (nm _ (by decide) (by decide))))) (fun _ _ _ _ _ => (m_var (pv 10))))) (m_new (f_lst m_nil)) (nm _ (by decide) (by decide))) (ms_cons (ms_expr (m_mt PySem.F.plainAttrs_dict PySem.F.slot_dict_update PySem.F.type_dict_update mt_upd (m_var (pv 4)) (m_cons (m_newD (d_callTy (c_dict rfl) (by rfl) G.z_dict (by decide +kernel) (m_cons (m_new (f_lc (own := [("_law_p", 10)]) rfl nd (m_it (m_var (pv 6))) (blkOk_by (N := ["_law_bag_here", "_law_table_here", "_law_name", "_law_word", "_law_nexts", "_law_other", "_law_lot", "_law_chooser", "_law_results", "_law_only", "_law_p"]) (sc := defScope s__law_with_fold) (by decide +kernel)) (fun _ _ _ _ _ => (mg_name (i := 10) nd rfl (by first | exact Or.inl rfl | exact Or.inr rfl))) (fun _ _ _ _ _ => mts_nil) (fun _ _ _ _ _ => (m_tup (m_cons (m_var (pv 10)) (m_cons (m_var (pv 5)) m_nil)))))) m_nil))) m_nil)))
    (ms_one ms_retN)) ms_nil))) ms_nil)))))))
theorem w__law_grown (G : Glo mg) (T : At K mg "_law_grown" s__law_grown ["_law_bag_here", "_law_parties_here", "_law_steps", "_law_most"]) (D__law_begun : Def P w K mg base "_law_begun" 1 1 (f__law_begun)) (D__law_take : Def P w K mg base "_law_take" 2 1 (f__law_take)) (D__law_with_copy : Def P w K mg base "_law_with_copy" 2 4 (f__law_with_copy)) (D__law_with_loop : Def P w K mg base "_law_with_loop" 2 4 (f__law_with_loop)) (D__law_with_fold : Def P w K mg base "_law_with_fold" 2 4 (f__law_with_fold)) (D__law_with_round : Def P w K mg base "_law_with_round" 2 4 (f__law_with_round)) : Def P w K mg base "_law_grown" 4 5 (f__law_grown) := by
  refine defN_of (k := 4) T sc__law_grown rfl rfl fun f cdv A outer s H E hg hr => ?_
  have nd := sc__law_grown.nd
  have hu := units66 hr
  exact (ms_cons (ms_set (i := 4) nd rfl (by first | exact Or.inl rfl | exact Or.inr rfl) (m_call D__law_begun hg hr (by rfl) (m_cons (m_var (pv 1)) m_nil)))
    (ms_cons (ms_for PassesOwn.never rfl (m_range1 (by rfl) G.z_range (m_cons (m_var (pv 2)) m_nil)) (mg_name (i := 5) nd rfl (by first | exact Or.inl rfl | exact Or.inr rfl)) (ms_cons (ms_set (i := 6) nd rfl (by first | exact Or.inl rfl | exact Or.inr rfl) (m_call D__law_take hg hr (by rfl) (m_cons (m_var (pv 0)) (m_cons m_int m_nil))))
    (ms_one (ms_if (m_cmpT r_lt (m_var (pv 6)) m_int (nm _ (by decide) (by decide))) (ms_one (ms_expr (m_call D__law_with_copy hg hr (by rfl) (m_cons (m_var (pv 0)) (m_cons (m_var (pv 4)) m_nil))))) (ms_one (ms_if (m_cmpT (r_eq hu) (m_var (pv 6)) m_int (nm _ (by decide) (by decide))) (ms_one (ms_expr (m_call D__law_with_loop hg hr (by rfl) (m_cons (m_var (pv 0)) (m_cons (m_var (pv 4)) m_nil))))) (ms_one (ms_if (m_cmpT (r_eq hu) (m_var (pv 6)) m_int (nm _ (by decide) (by decide))) (ms_one (ms_expr (m_call D__law_with_fold hg hr (by rfl) (m_cons (m_var (pv 0)) (m_cons (m_var (pv 4)) m_nil))))) (ms_one (ms_if (m_cmpT r_lt (m_callB c_lenD (by rfl) G.z_len (by decide +kernel) (m_cons (m_var (pv 4)) m_nil)) (m_var (pv 3)) (nm _ (by decide) (by decide))) (ms_one (ms_expr (m_call D__law_with_round hg hr (by rfl) (m_cons (m_var (pv 0)) (m_cons (m_var (pv 4)) m_nil))))) ms_nil))))))))))
    (ms_one (ms_ret (m_var (pv 4))))))
theorem w__law_turned (G : Glo mg) (T : At K mg "_law_turned" s__law_turned ["_law_bag_here", "_law_table_here"]) (D__law_result_of : Def P w K mg base "_law_result_of" 2 3 (f__law_result_of)) (D__law_some : Def P w K mg base "_law_some" 2 2 (f__law_some)) : Def P w K mg base "_law_turned" 2 4 (f__law_turned) := by
  refine defN_of (k := 3) T sc__law_turned rfl rfl fun f cdv A outer s H E hg hr => ?_
  have nd := sc__law_turned.nd
  have hu := units66 hr
  exact (ms_cons (ms_asg (m_call D__law_result_of hg hr (by rfl) (m_cons (m_var (pv 0)) (m_cons (m_var (pv 1)) m_nil))) (mg_tup rfl (mgs_cons (mg_name (i := 2) nd rfl (by first | exact Or.inl rfl | exact Or.inr rfl)) (mgs_cons (mg_name (i := 3) nd rfl (by first | exact Or.inl rfl | exact Or.inr rfl)) mgs_nil))))
    (ms_cons (ms_set (i := 4) nd rfl (by first | exact Or.inl rfl | exact Or.inr rfl) (m_call D__law_some hg hr (by rfl) (m_cons (m_var (pv 0)) (m_cons (m_ix (r_ixD hu) (m_ix (r_ixD hu) (m_var (pv 1)) (m_var (pv 2)) (fun _ _ => rfl)) m_int (fun _ _ => rfl)) m_nil))))
    (ms_cons (ms_putD hu (m_call D__law_some hg hr (by rfl) (m_cons (m_var (pv 0)) (m_cons (m_new (f_lc (own := [("_law_other", 5)]) rfl nd (m_it (m_new (f_callB (c_sorted rfl) (by rfl) G.z_sorted (by decide +kernel) (m_cons (m_var (pv 1)) m_nil)))) (blkOk_by (N := ["_law_bag_here", "_law_table_here", "_law_name", "_law_word", "_law_party", "_law_other"]) (sc := defScope s__law_turned) (by decide +kernel)) (fun _ _ _ _ _ => (mg_name (i := 5) nd rfl (by first | exact Or.inl rfl | exact Or.inr rfl))) (fun _ _ _ _ _ => (mts_one (m_cmpT (r_inD hu) (m_var (pv 4)) (m_ix (r_ixD hu) (m_ix (r_ixD hu) (m_var (pv 1)) (m_var (pv 5)) (fun _ _ => rfl)) m_int (fun _ _ => rfl)) (by rfl)))) (fun _ _ _ _ _ => (m_var (pv 5))))) m_nil))) (m_ix (r_ixD hu) (m_ix (r_ixD hu) (m_ix (r_ixD hu) (m_var (pv 1)) (m_var (pv 2)) (fun _ _ => rfl)) m_int (fun _ _ => rfl)) (m_var (pv 3)) (fun _ _ => rfl)) (m_var (pv 4)))
    (ms_one (ms_ret (m_var (pv 1)))))))
theorem w__law_any (G : Glo mg) (T : At K mg "_law_any" s__law_any ["_law_bag_here", "_law_parties_here", "_law_most"]) (D__law_begun : Def P w K mg base "_law_begun" 1 1 (f__law_begun)) (D__law_take : Def P w K mg base "_law_take" 2 1 (f__law_take)) (D__law_mixed : Def P w K mg base "_law_mixed" 2 2 (f__law_mixed)) (D__law_some : Def P w K mg base "_law_some" 2 2 (f__law_some)) (D__law_new_name : Def P w K mg base "_law_new_name" 2 3 (f__law_new_name)) : Def P w K mg base "_law_any" 3 4 (f__law_any) := by
  refine defN_of (k := 3) T sc__law_any rfl rfl fun f cdv A outer s H E hg hr => ?_
  have nd := sc__law_any.nd
  have hu := units66 hr
  exact (ms_cons (ms_set (i := 3) nd rfl (by first | exact Or.inl rfl | exact Or.inr rfl) (m_call D__law_begun hg hr (by rfl) (m_cons (m_var (pv 1)) m_nil)))
    (ms_cons (ms_for PassesOwn.never rfl (m_range1 (by rfl) G.z_range (m_cons (m_call D__law_take hg hr (by rfl) (m_cons (m_var (pv 0)) (m_cons (m_op r_sub (m_var (pv 2)) m_int) m_nil))) m_nil)) (mg_name (i := 4) nd rfl (by first | exact Or.inl rfl | exact Or.inr rfl)) (ms_cons (ms_set (i := 5) nd rfl (by first | exact Or.inl rfl | exact Or.inr rfl) (m_callTy c_tuple (by rfl) G.z_tuple (by decide +kernel) (m_cons (m_new (f_callB (c_sorted rfl) (by rfl) G.z_sorted (by decide +kernel) (m_cons (m_cut (m_call D__law_mixed hg hr (by rfl) (m_cons (m_var (pv 0)) (m_cons (m_new (f_callTy (c_listD rfl) (by rfl) G.z_list (by decide +kernel) (m_cons (m_var (pv 1)) m_nil))) m_nil))) mp_none (mp_some (m_op r_add m_int (m_call D__law_take hg hr (by rfl) (m_cons (m_var (pv 0)) (m_cons (m_callB c_lenD (by rfl) G.z_len (by decide +kernel) (m_cons (m_var (pv 1)) m_nil)) m_nil)))))) m_nil))) m_nil)))
    (ms_one (ms_putD hu (m_newA (f_lst (m_cons (m_var (pv 5)) (m_cons (m_call D__law_some hg hr (by rfl) (m_cons (m_var (pv 0)) (m_cons (m_var (pv 5)) m_nil))) (m_cons (m_newD d_dict0) m_nil))))) (m_var (pv 3)) (m_call D__law_new_name hg hr (by rfl) (m_cons (m_var (pv 0)) (m_cons (m_new (f_callTy (c_listD rfl) (by rfl) G.z_list (by decide +kernel) (m_cons (m_var (pv 3)) m_nil))) m_nil)))))))
    (ms_cons (ms_for PassesOwn.never rfl (m_it (m_new (f_callB (c_sorted rfl) (by rfl) G.z_sorted (by decide +kernel) (m_cons (m_var (pv 3)) m_nil)))) (mg_name (i := 6) nd rfl (by first | exact Or.inl rfl | exact Or.inr rfl)) (ms_cons (ms_set (i := 5) nd rfl (by first | exact Or.inl rfl | exact Or.inr rfl) (m_ix (r_ixD hu) (m_ix (r_ixD hu) (m_var (pv 3)) (m_var (pv 6)) (fun _ _ => rfl)) m_int (fun _ _ => rfl)))
    (ms_one (ms_for PassesOwn.never rfl (m_range1 (by rfl) G.z_range (m_cons (m_if (m_cmpT (r_eq hu) (m_var (pv 6)) m_str (nm _ (by decide) (by decide))) m_int (m_op r_add m_int (m_call D__law_take hg hr (by rfl) (m_cons (m_var (pv 0)) (m_cons m_int m_nil))))) m_nil)) (mg_name (i := 4) nd rfl (by first | exact Or.inl rfl | exact Or.inr rfl)) (ms_cons (ms_setLc (own := [("_law_other", 12)]) (i := 7) rfl nd rfl rfl (m_it (m_new (f_callB (c_sorted rfl) (by rfl) G.z_sorted (by decide +kernel) (m_cons (m_var (pv 3)) m_nil)))) (blkOk_by (N := ["_law_bag_here", "_law_parties_here", "_law_most", "_law_table_here", "_law_turn", "_law_lot", "_law_name", "_law_whole", "_law_to", "_law_nexts", "_law_p", "_law_is_whole", "_law_other"]) (sc := defScope s__law_any) (by decide +kernel)) (fun _ _ _ _ _ => (mg_name (i := 12) nd rfl (by first | exact Or.inl rfl | exact Or.inr rfl))) (fun _ _ _ _ _ => (mts_one (m_cmpT (r_eq hu) (m_new (f_lc (own := [("_law_p", 10)]) rfl nd (m_it (m_var (pv 5))) (blkOk_by (N := ["_law_bag_here", "_law_parties_here", "_law_most", "_law_table_here", "_law_turn", "_law_lot", "_law_name", "_law_whole", "_law_to", "_law_nexts", "_law_p", "_law_is_whole", "_law_other"]) (by rfl)) (fun _ _ _ _ _ => (mg_name (i := 10) nd rfl (by first | exact Or.inl rfl | exact Or.inr rfl))) (fun _ _ _ _ _ => (mts_one (m_cmpT (r_notInD hu) (m_var (pv 10)) (m_ix (r_ixD hu) (m_ix (r_ixD hu) (m_var (pv 3)) (m_var (pv 12)) (fun _ _ => rfl)) m_int (fun _ _ => rfl)) (by rfl)))) (fun _ _ _ _ _ => (m_var (pv 10))))) (m_new (f_lst m_nil)) (nm _ (by decide) (by decide))))) (fun _ _ _ _ _ => (m_var (pv 12))))
    (ms_cons (ms_asg (m_tup (m_cons (m_call D__law_some hg hr (by rfl) (m_cons (m_var (pv 0)) (m_cons (m_var (pv 7)) m_nil))) (m_cons (m_newD d_dict0) m_nil))) (mg_tup rfl (mgs_cons (mg_name (i := 8) nd rfl (by first | exact Or.inl rfl | exact Or.inr rfl)) (mgs_cons (mg_name (i := 9) nd rfl (by first | exact Or.inl rfl | exact Or.inr rfl)) mgs_nil))))
    (ms_cons (ms_for PassesOwn.never rfl (m_it (m_var (pv 5))) (mg_name (i := 10) nd rfl (by first | exact Or.inl rfl | exact Or.inr rfl)) (ms_one (ms_putD hu (m_call D__law_some hg hr (by rfl) (m_cons (m_var (pv 0)) (m_cons (m_new (f_lc (own := [("_law_other", 12)]) rfl nd (m_it (m_new (f_callB (c_sorted rfl) (by rfl) G.z_sorted (by decide +kernel) (m_cons (m_var (pv 3)) m_nil)))) (blkOk_by (N := ["_law_bag_here", "_law_parties_here", "_law_most", "_law_table_here", "_law_turn", "_law_lot", "_law_name", "_law_whole", "_law_to", "_law_nexts", "_law_p", "_law_is_whole", "_law_other"]) (sc := defScope s__law_any) (by decide +kernel)) (fun _ _ _ _ _ => (mg_name (i := 12) nd rfl (by first | exact Or.inl rfl | exact Or.inr rfl))) (fun _ _ _ _ _ => (mts_one (m_cmpT (r_inD hu) (m_var (pv 10)) (m_ix (r_ixD hu) (m_ix (r_ixD hu) (m_var (pv 3)) (m_var (pv 12)) (fun _ _ => rfl)) m_int (fun _ _ => rfl)) (by rfl)))) (fun _ _ _ _ _ => (m_var (pv 12))))) m_nil))) (m_var (pv 9)) (m_var (pv 10)))))
    (ms_cons (ms_set (i := 11) nd rfl (by first | exact Or.inl rfl | exact Or.inr rfl) (m_cmp (r_eq hu) (m_call D__law_take hg hr (by rfl) (m_cons (m_var (pv 0)) (m_cons m_int m_nil))) m_int (nm _ (by decide) (by decide))))
    (ms_one (ms_putD hu (m_if (m_val (m_var (pv 11))) (m_newD (d_callTy (c_dict rfl) (by rfl) G.z_dict (by decide +kernel) (m_cons (m_new (f_lc (own := [("_law_p", 10)]) rfl nd (m_it (m_var (pv 5))) (blkOk_by (N := ["_law_bag_here", "_law_parties_here", "_law_most", "_law_table_here", "_law_turn", "_law_lot", "_law_name", "_law_whole", "_law_to", "_law_nexts", "_law_p", "_law_is_whole", "_law_other"]) (sc := defScope s__law_any) (by decide +kernel)) (fun _ _ _ _ _ => (mg_name (i := 10) nd rfl (by first | exact Or.inl rfl | exact Or.inr rfl))) (fun _ _ _ _ _ => mts_nil) (fun _ _ _ _ _ => (m_tup (m_cons (m_var (pv 10)) (m_cons (m_var (pv 8)) m_nil)))))) m_nil))) (m_var (pv 9))) (m_ix (r_ixD hu) (m_ix (r_ixD hu) (m_var (pv 3)) (m_var (pv 6)) (fun _ _ => rfl)) m_int (fun _ _ => rfl)) (m_ix (r_ixD hu) (m_new (f_lst (m_cons m_str (m_cons m_str m_nil)))) (m_var (pv 4)) (fun _ _ => rfl))))))))))))
    (ms_one (ms_ret (m_var (pv 3)))))))
theorem w__law_in_pairs (G : Glo mg) (T : At K mg "_law_in_pairs" s__law_in_pairs ["_law_bag_here"]) (D__law_mixed : Def P w K mg base "_law_mixed" 2 2 (f__law_mixed)) (D__law_begun : Def P w K mg base "_law_begun" 1 1 (f__law_begun)) (D__law_take : Def P w K mg base "_law_take" 2 1 (f__law_take)) (D__law_with_copy : Def P w K mg base "_law_with_copy" 2 4 (f__law_with_copy)) (D__law_with_loop : Def P w K mg base "_law_with_loop" 2 4 (f__law_with_loop)) (D__law_with_round : Def P w K mg base "_law_with_round" 2 4 (f__law_with_round)) : Def P w K mg base "_law_in_pairs" 1 5 (f__law_in_pairs) := by
  refine defN_of (k := 4) T sc__law_in_pairs rfl rfl fun f cdv A outer s H E hg hr => ?_
  have nd := sc__law_in_pairs.nd
  have hu := units66 hr
  exact (ms_cons (ms_par (i := 1) (j := 2) rfl nd rfl rfl (by decide) rfl rfl (m_cons (m_call D__law_mixed hg hr (by rfl) (m_cons (m_var (pv 0)) (m_cons (m_new (f_lst (m_cons m_str (m_cons m_str (m_cons m_str m_nil))))) m_nil))) (m_cons (m_call D__law_mixed hg hr (by rfl) (m_cons (m_var (pv 0)) (m_cons (m_new (f_lst (m_cons m_str (m_cons m_str (m_cons m_str m_nil))))) m_nil))) m_nil)) (by rfl))
    (ms_cons (ms_par (i := 3) (j := 4) rfl nd rfl rfl (by decide) rfl rfl (m_cons (m_tup (m_cons m_str (m_cons m_str (m_cons m_str m_nil)))) (m_cons (m_call D__law_begun hg hr (by rfl) (m_cons (m_tup (m_cons m_str (m_cons m_str (m_cons m_str m_nil)))) m_nil)) m_nil)) (by rfl))
    (ms_cons (ms_for PassesOwn.never rfl (m_range1 (by rfl) G.z_range (m_cons m_int m_nil)) (mg_name (i := 5) nd rfl (by first | exact Or.inl rfl | exact Or.inr rfl)) (ms_cons (ms_par (i := 6) (j := 7) rfl nd rfl rfl (by decide) rfl rfl (m_cons (m_callTy c_tuple (by rfl) G.z_tuple (by decide +kernel) (m_cons (m_new (f_callB (c_sorted rfl) (by rfl) G.z_sorted (by decide +kernel) (m_cons (m_new (f_lst (m_cons (m_ix (r_ixD hu) (m_var (pv 1)) (m_var (pv 5)) (fun _ _ => rfl)) (m_cons (m_ix (r_ixD hu) (m_var (pv 1)) (m_op r_sub (m_var (pv 5)) m_int) (fun _ _ => rfl)) m_nil)))) m_nil))) m_nil)) (m_cons (m_ix (r_ixD hu) (m_var (pv 2)) (m_op r_sub (m_var (pv 5)) m_int) (fun _ _ => rfl)) m_nil)) (by rfl))
    (ms_cons (ms_putD hu (m_newA (f_lst (m_cons (m_var (pv 6)) (m_cons (m_ix (r_ixD hu) (m_var (pv 6)) m_int (fun _ _ => rfl)) (m_cons (m_newD (d_disp (mps_cons m_str (m_newD (d_disp (mps_cons (m_ix (r_ixD hu) (m_var (pv 1)) (m_var (pv 5)) (fun _ _ => rfl)) m_str (mps_cons (m_ix (r_ixD hu) (m_var (pv 1)) (m_op r_sub (m_var (pv 5)) m_int) (fun _ _ => rfl)) (m_var (pv 7)) mps_nil)))) mps_nil))) m_nil))))) (m_var (pv 4)) (m_ix (r_ixD hu) (m_var (pv 2)) (m_var (pv 5)) (fun _ _ => rfl)))
    (ms_one (ms_putD hu (m_ix (r_ixD hu) (m_var (pv 2)) (m_var (pv 5)) (fun _ _ => rfl)) (m_ix (r_ixD hu) (m_ix (r_ixD hu) (m_ix (r_ixD hu) (m_var (pv 4)) m_str (fun _ _ => rfl)) m_int (fun _ _ => rfl)) m_str (fun _ _ => rfl)) (m_ix (r_ixD hu) (m_var (pv 1)) (m_op r_sub (m_var (pv 5)) m_int) (fun _ _ => rfl)))))))
    (ms_cons (ms_for PassesOwn.never rfl (m_range1 (by rfl) G.z_range (m_cons (m_call D__law_take hg hr (by rfl) (m_cons (m_var (pv 0)) (m_cons m_int m_nil))) m_nil)) (mg_name (i := 8) nd rfl (by first | exact Or.inl rfl | exact Or.inr rfl)) (ms_cons (ms_set (i := 9) nd rfl (by first | exact Or.inl rfl | exact Or.inr rfl) (m_call D__law_take hg hr (by rfl) (m_cons (m_var (pv 0)) (m_cons m_int m_nil))))
    (ms_one (ms_if (m_cmpT (r_eq hu) (m_var (pv 9)) m_int (nm _ (by decide) (by decide))) (ms_one (ms_expr (m_call D__law_with_copy hg hr (by rfl) (m_cons (m_var (pv 0)) (m_cons (m_var (pv 4)) m_nil))))) (ms_one (ms_if (m_cmpT (r_eq hu) (m_var (pv 9)) m_int (nm _ (by decide) (by decide))) (ms_one (ms_expr (m_call D__law_with_loop hg hr (by rfl) (m_cons (m_var (pv 0)) (m_cons (m_var (pv 4)) m_nil))))) (ms_one (ms_expr (m_call D__law_with_round hg hr (by rfl) (m_cons (m_var (pv 0)) (m_cons (m_var (pv 4)) m_nil)))))))))))
    (ms_one (ms_ret (m_tup (m_cons (m_var (pv 3)) (m_cons (m_var (pv 4)) m_nil)))))))))
theorem w__law_drawn (G : Glo mg) (T : At K mg "_law_drawn" s__law_drawn ["_law_bag_here", "_law_most_parties", "_law_most_rounds"]) (D__law_parties : Def P w K mg base "_law_parties" 2 3 (f__law_parties)) (D__law_take : Def P w K mg base "_law_take" 2 1 (f__law_take)) (D__law_in_pairs : Def P w K mg base "_law_in_pairs" 1 5 (f__law_in_pairs)) (D__law_any : Def P w K mg base "_law_any" 3 4 (f__law_any)) (D__law_some : Def P w K mg base "_law_some" 2 2 (f__law_some)) (D__law_grown : Def P w K mg base "_law_grown" 4 5 (f__law_grown)) (D__law_turned : Def P w K mg base "_law_turned" 2 4 (f__law_turned)) (D__law_dealing : Def P w K mg base "_law_dealing" 2 1 (f__law_dealing)) : Def P w K mg base "_law_drawn" 3 6 (f__law_drawn) := by
  refine defT_of (k := 5) T sc__law_drawn rfl rfl fun f cdv A outer s H E hg hr => ?_
  have nd := sc__law_drawn.nd
  have hu := units66 hr
  exact (ms_cons (ms_par (i := 3) (j := 4) rfl nd rfl rfl (by decide) rfl rfl (m_cons (m_call D__law_take hg hr (by rfl) (m_cons (m_var (pv 0)) (m_cons m_int m_nil))) (m_cons (m_call D__law_parties hg hr (by rfl) (m_cons (m_var (pv 0)) (m_cons (m_var (pv 1)) m_nil))) m_nil)) (by rfl))
    (ms_cons (ms_if (m_cmpT (r_eq hu) (m_var (pv 3)) m_int (nm _ (by decide) (by decide))) (ms_cons (ms_set (i := 5) nd rfl (by first | exact Or.inl rfl | exact Or.inr rfl) (m_call D__law_in_pairs hg hr (by rfl) (m_cons (m_var (pv 0)) m_nil)))
    (ms_one (ms_asg (m_if (m_cmpT r_gt (m_var (pv 1)) m_int (nm _ (by decide) (by decide))) (m_var (pv 5)) (m_tup (m_cons (m_var (pv 4)) (m_cons (m_call D__law_any hg hr (by rfl) (m_cons (m_var (pv 0)) (m_cons (m_var (pv 4)) (m_cons (m_var (pv 2)) m_nil)))) m_nil)))) (mg_tup rfl (mgs_cons (mg_name (i := 4) nd rfl (by first | exact Or.inl rfl | exact Or.inr rfl)) (mgs_cons (mg_name (i := 6) nd rfl (by first | exact Or.inl rfl | exact Or.inr rfl)) mgs_nil)))))) (ms_one (ms_if (m_cmpT (r_eq hu) (m_var (pv 3)) m_int (nm _ (by decide) (by decide))) (ms_one (ms_set (i := 6) nd rfl (by first | exact Or.inl rfl | exact Or.inr rfl) (m_call D__law_any hg hr (by rfl) (m_cons (m_var (pv 0)) (m_cons (m_var (pv 4)) (m_cons (m_var (pv 2)) m_nil)))))) (ms_one (ms_set (i := 6) nd rfl (by first | exact Or.inl rfl | exact Or.inr rfl) (m_call D__law_grown hg hr (by rfl) (m_cons (m_var (pv 0)) (m_cons (m_var (pv 4)) (m_cons (m_call D__law_some hg hr (by rfl) (m_cons (m_var (pv 0)) (m_cons (m_new (f_lst (m_cons m_int (m_cons m_int (m_cons m_int (m_cons m_int (m_cons m_int m_nil))))))) m_nil))) (m_cons (m_var (pv 2)) m_nil))))))))))
    (ms_cons (ms_for PassesOwn.never rfl (m_range1 (by rfl) G.z_range (m_cons (m_ix (r_ixD hu) (m_new (f_lst (m_cons m_int (m_cons m_int (m_cons m_int (m_cons m_int (m_cons m_int (m_cons m_int (m_cons m_int (m_cons (m_call D__law_take hg hr (by rfl) (m_cons (m_var (pv 0)) (m_cons m_int m_nil))) m_nil)))))))))) (m_var (pv 3)) (fun _ _ => rfl)) m_nil)) (mg_name (i := 7) nd rfl (by first | exact Or.inl rfl | exact Or.inr rfl)) (ms_one (ms_set (i := 6) nd rfl (by first | exact Or.inl rfl | exact Or.inr rfl) (m_call D__law_turned hg hr (by rfl) (m_cons (m_var (pv 0)) (m_cons (m_var (pv 6)) m_nil))))))
    (ms_one (ms_ret (m_call D__law_dealing hg hr (by rfl) (m_cons (m_var (pv 4)) (m_cons (m_var (pv 6)) m_nil))))))))
theorem w__law_is_looked_at (G : Glo mg) (T : At K mg "_law_is_looked_at" s__law_is_looked_at ["_law_bag_here", "_law_dealing_here", "_law_table_here"]) (D_words_of : Def P w K mg base "words_of" 2 3 (f_words_of)) (D_chooser_of : Def P w K mg base "chooser_of" 2 3 (f_chooser_of)) (D_lot_of : Def P w K mg base "lot_of" 2 3 (f_lot_of)) (D__law_alike : Def P w K mg base "_law_alike" 2 1 (f__law_alike)) (D_wants : Def P w K mg base "wants" 3 4 (f_wants)) (D_nexts_of : Def P w K mg base "nexts_of" 3 3 (f_nexts_of)) (D_next_of : Def P w K mg base "next_of" 4 4 (f_next_of)) : Def P w K mg base "_law_is_looked_at" 3 5 (f__law_is_looked_at) := by
  refine defT_of (k := 4) T sc__law_is_looked_at rfl rfl fun f cdv A outer s H E hg hr => ?_
  have nd := sc__law_is_looked_at.nd
  have hu := units66 hr
  exact (ms_cons (ms_for PassesOwn.never rfl (m_it (m_new (f_callB (c_sorted rfl) (by rfl) G.z_sorted (by decide +kernel) (m_cons (m_var (pv 2)) m_nil)))) (mg_name (i := 3) nd rfl (by first | exact Or.inl rfl | exact Or.inr rfl)) (ms_cons (ms_asg (m_ix (r_ixD hu) (m_var (pv 2)) (m_var (pv 3)) (fun _ _ => rfl)) (mg_tup rfl (mgs_cons (mg_name (i := 4) nd rfl (by first | exact Or.inl rfl | exact Or.inr rfl)) (mgs_cons (mg_name (i := 5) nd rfl (by first | exact Or.inl rfl | exact Or.inr rfl)) (mgs_cons (mg_name (i := 6) nd rfl (by first | exact Or.inl rfl | exact Or.inr rfl)) mgs_nil)))))
    (ms_cons (ms_set (i := 7) nd rfl (by first | exact Or.inl rfl | exact Or.inr rfl) (m_new (f_lst (m_cons (m_call D_lot_of hg hr (by rfl) (m_cons (m_var (pv 1)) (m_cons (m_var (pv 3)) m_nil))) (m_cons (m_call D_chooser_of hg hr (by rfl) (m_cons (m_var (pv 1)) (m_cons (m_var (pv 3)) m_nil))) (m_cons (m_call D_words_of hg hr (by rfl) (m_cons (m_var (pv 1)) (m_cons (m_var (pv 3)) m_nil))) m_nil))))))
    (ms_cons (ms_if (m_notT (m_val (m_call D__law_alike hg hr (by rfl) (m_cons (m_var (pv 7)) (m_cons (m_new (f_lst (m_cons (m_var (pv 4)) (m_cons (m_var (pv 5)) (m_cons (m_callTy c_tuple (by rfl) G.z_tuple (by decide +kernel) (m_cons (m_new (f_callB (c_sorted rfl) (by rfl) G.z_sorted (by decide +kernel) (m_cons (m_var (pv 6)) m_nil))) m_nil)) m_nil))))) m_nil))))) (ms_one (ms_ret m_bl)) ms_nil)
    (ms_cons (ms_for PassesOwn.never rfl (m_it (m_ix (r_ixD hu) (m_var (pv 1)) m_int (fun _ _ => rfl))) (mg_name (i := 8) nd rfl (by first | exact Or.inl rfl | exact Or.inr rfl)) (ms_one (ms_if (m_notT (m_val (m_call D__law_alike hg hr (by rfl) (m_cons (m_call D_wants hg hr (by rfl) (m_cons (m_var (pv 1)) (m_cons (m_var (pv 3)) (m_cons (m_var (pv 8)) m_nil)))) (m_cons (m_cmp (r_inD hu) (m_var (pv 8)) (m_var (pv 4)) (by rfl)) m_nil))))) (ms_one (ms_ret m_bl)) ms_nil)))
    (ms_one (ms_lock (mVar 6) (ms_for PassesOwn.never rfl (m_itK (m_var (pv 6))) (mg_name (i := 9) nd rfl (by first | exact Or.inl rfl | exact Or.inr rfl)) (ms_cons (ms_set (i := 10) nd rfl (by first | exact Or.inl rfl | exact Or.inr rfl) (m_call D_nexts_of hg hr (by rfl) (m_cons (m_var (pv 1)) (m_cons (m_var (pv 3)) (m_cons (m_var (pv 9)) m_nil)))))
    (ms_cons (ms_if (m_notT (m_val (m_call D__law_alike hg hr (by rfl) (m_cons (m_var (pv 10)) (m_cons (m_newD (d_callTy (c_dict rfl) (by rfl) G.z_dict (by decide +kernel) (m_cons (m_new (f_lc (own := [("_law_party", 8)]) rfl nd (m_it (m_var (pv 4))) (blkOk_by (N := ["_law_bag_here", "_law_dealing_here", "_law_table_here", "_law_name", "_law_lot", "_law_chooser", "_law_results", "_law_told", "_law_party", "_law_word", "_law_nexts"]) (sc := defScope s__law_is_looked_at) (by decide +kernel)) (fun _ _ _ _ _ => (mg_name (i := 8) nd rfl (by first | exact Or.inl rfl | exact Or.inr rfl))) (fun _ _ _ _ _ => mts_nil) (fun _ _ _ _ _ => (m_tup (m_cons (m_var (pv 8)) (m_cons (m_ix (r_ixD hu) (m_ix (r_ixD hu) (m_var (pv 6)) (m_var (pv 9)) (fun _ _ => rfl)) (m_var (pv 8)) (fun _ _ => rfl)) m_nil)))))) m_nil))) m_nil))))) (ms_one (ms_ret m_bl)) ms_nil)
    (ms_cons (ms_for PassesOwn.never rfl (m_it (m_var (pv 4))) (mg_name (i := 8) nd rfl (by first | exact Or.inl rfl | exact Or.inr rfl)) (ms_one (ms_if (m_cmpT (r_neX hu) (m_call D_next_of hg hr (by rfl) (m_cons (m_var (pv 1)) (m_cons (m_var (pv 3)) (m_cons (m_var (pv 9)) (m_cons (m_var (pv 8)) m_nil))))) (m_ix (r_ixD hu) (m_ix (r_ixD hu) (m_var (pv 6)) (m_var (pv 9)) (fun _ _ => rfl)) (m_var (pv 8)) (fun _ _ => rfl)) (nm _ (by decide) (by decide))) (ms_one (ms_ret m_bl)) ms_nil)))
    (ms_cons (ms_expr (m_clear (m_var (pv 10))))
    (ms_one (ms_if (m_cmpT (r_neX hu) (m_call D_nexts_of hg hr (by rfl) (m_cons (m_var (pv 1)) (m_cons (m_var (pv 3)) (m_cons (m_var (pv 9)) m_nil)))) (m_ix (r_ixD hu) (m_var (pv 6)) (m_var (pv 9)) (fun _ _ => rfl)) (nm _ (by decide) (by decide))) (ms_one (ms_ret m_bl)) ms_nil))))))))))))))
    (ms_one (ms_ret m_bl)))
theorem fn_law (G : Glo mg) {f : Addr} {fd : FuncData} (F : Fun K "law" "law" s_law f fd) (D__law_bag : Def P w K mg base "_law_bag" 1 1 (f__law_bag)) (D__law_some : Def P w K mg base "_law_some" 2 2 (f__law_some)) (D__law_drawn : Def P w K mg base "_law_drawn" 3 6 (f__law_drawn)) (D__law_table : Def P w K mg base "_law_table" 1 1 (f__law_table)) (D_rounds_of : Def P w K mg base "rounds_of" 1 1 (f_rounds_of)) (D_parties_of : Def P w K mg base "parties_of" 1 1 (f_parties_of)) (D__law_alike : Def P w K mg base "_law_alike" 2 1 (f__law_alike)) (D_rounds_with : Def P w K mg base "rounds_with" 2 1 (f_rounds_with)) (D__law_is_looked_at : Def P w K mg base "_law_is_looked_at" 3 5 (f__law_is_looked_at)) (D_all_deeds : Def P w K mg base "all_deeds" 1 1 (f_all_deeds)) : FnG P w K mg base CX0 7 f fd ["_law_script"] (spM K 1 (f_law)) := by
  refine def_ok (k := 6) F sc_law fun cdv A outer s H E hg hr => ?_
  have nd := sc_law.nd
  have hu := units66 hr
  exact (ms_cons (ms_set (i := 1) nd rfl (by first | exact Or.inl rfl | exact Or.inr rfl) (m_call D__law_bag hg hr (by rfl) (m_cons (m_var (pv 0)) m_nil)))
    (ms_cons (ms_for PassesOwn.never rfl (m_range1 (by rfl) G.z_range (m_cons m_int m_nil)) (mg_name (i := 2) nd rfl (by first | exact Or.inl rfl | exact Or.inr rfl)) (ms_cons (ms_set (i := 3) nd rfl (by first | exact Or.inl rfl | exact Or.inr rfl) (m_call D__law_drawn hg hr (by rfl) (m_cons (m_var (pv 1)) (m_cons (m_call D__law_some hg hr (by rfl) (m_cons (m_var (pv 1)) (m_cons (m_new (f_lst (m_cons m_int (m_cons m_int (m_cons m_int (m_cons m_int m_nil)))))) m_nil))) (m_cons (m_call D__law_some hg hr (by rfl) (m_cons (m_var (pv 1)) (m_cons (m_new (f_lst (m_cons m_int (m_cons m_int (m_cons m_int m_nil))))) m_nil))) m_nil)))))
    (ms_cons (ms_asg (m_tup (m_cons (m_call D__law_table hg hr (by rfl) (m_cons (m_var (pv 3)) m_nil)) (m_cons (m_callB (c_repr hg hu) (by rfl) G.z_repr (by decide +kernel) (m_cons (m_var (pv 3)) m_nil)) m_nil))) (mg_tup rfl (mgs_cons (mg_name (i := 4) nd rfl (by first | exact Or.inl rfl | exact Or.inr rfl)) (mgs_cons (mg_name (i := 5) nd rfl (by first | exact Or.inl rfl | exact Or.inr rfl)) mgs_nil))))
    (ms_cons (ms_if (m_notT (m_val (m_call D__law_alike hg hr (by rfl) (m_cons (m_new (f_lst (m_cons (m_call D_parties_of hg hr (by rfl) (m_cons (m_var (pv 3)) m_nil)) (m_cons (m_call D_rounds_of hg hr (by rfl) (m_cons (m_var (pv 3)) m_nil)) m_nil)))) (m_cons (m_new (f_lst (m_cons (m_ix (r_ixD hu) (m_var (pv 3)) m_int (fun _ _ => rfl)) (m_cons (m_callTy c_tuple (by rfl) G.z_tuple (by decide +kernel) (m_cons (m_new (f_callB (c_sorted rfl) (by rfl) G.z_sorted (by decide +kernel) (m_cons (m_var (pv 4)) m_nil))) m_nil)) m_nil)))) m_nil))))) (ms_one (ms_ret m_bl)) ms_nil)
    (ms_cons (ms_for PassesOwn.never rfl (m_it (m_ix (r_ixD hu) (m_var (pv 3)) m_int (fun _ _ => rfl))) (mg_name (i := 6) nd rfl (by first | exact Or.inl rfl | exact Or.inr rfl)) (ms_cons (ms_set (i := 7) nd rfl (by first | exact Or.inl rfl | exact Or.inr rfl) (m_callTy c_tuple (by rfl) G.z_tuple (by decide +kernel) (m_cons (m_new (f_lc (own := [("_law_name", 8)]) rfl nd (m_it (m_new (f_callB (c_sorted rfl) (by rfl) G.z_sorted (by decide +kernel) (m_cons (m_var (pv 4)) m_nil)))) (blkOk_by (N := ["_law_script", "_law_bag_here", "_law_turn", "_law_dealing_here", "_law_table_here", "_law_shown", "_law_party", "_law_due", "_law_name", "_law_word"]) (sc := defScope s_law) (by decide +kernel)) (fun _ _ _ _ _ => (mg_name (i := 8) nd rfl (by first | exact Or.inl rfl | exact Or.inr rfl))) (fun _ _ _ _ _ => (mts_one (m_cmpT (r_inD hu) (m_var (pv 6)) (m_ix (r_ixD hu) (m_ix (r_ixD hu) (m_var (pv 4)) (m_var (pv 8)) (fun _ _ => rfl)) m_int (fun _ _ => rfl)) (by rfl)))) (fun _ _ _ _ _ => (m_var (pv 8))))) m_nil)))
    (ms_one (ms_if (m_notT (m_val (m_call D__law_alike hg hr (by rfl) (m_cons (m_call D_rounds_with hg hr (by rfl) (m_cons (m_var (pv 3)) (m_cons (m_var (pv 6)) m_nil))) (m_cons (m_var (pv 7)) m_nil))))) (ms_one (ms_ret m_bl)) ms_nil))))
    (ms_cons (ms_setA (i := 7) nd rfl (by first | exact Or.inl rfl | exact Or.inr rfl) (f_lst m_nil))
    (ms_cons (ms_for PassesOwn.never rfl (m_it (m_new (f_callB (c_sorted rfl) (by rfl) G.z_sorted (by decide +kernel) (m_cons (m_var (pv 4)) m_nil)))) (mg_name (i := 8) nd rfl (by first | exact Or.inl rfl | exact Or.inr rfl)) (ms_one (ms_expr (m_mt PySem.F.plainAttrs_list PySem.F.slot_list_extend PySem.F.type_list_extend mt_ext (m_var (pv 7)) (m_cons (m_new (f_lc (own := [("_law_word", 9)]) rfl nd (m_it (m_new (f_callB (c_sorted rfl) (by rfl) G.z_sorted (by decide +kernel) (m_cons (m_ix (r_ixD hu) (m_ix (r_ixD hu) (m_var (pv 4)) (m_var (pv 8)) (fun _ _ => rfl)) m_int (fun _ _ => rfl)) m_nil)))) (blkOk_by (N := ["_law_script", "_law_bag_here", "_law_turn", "_law_dealing_here", "_law_table_here", "_law_shown", "_law_party", "_law_due", "_law_name", "_law_word"]) (sc := defScope s_law) (by decide +kernel)) (fun _ _ _ _ _ => (mg_name (i := 9) nd rfl (by first | exact Or.inl rfl | exact Or.inr rfl))) (fun _ _ _ _ _ => mts_nil) (fun _ _ _ _ _ => (m_tup (m_cons (m_var (pv 8)) (m_cons (m_var (pv 9)) m_nil)))))) m_nil)))))
    (ms_cons (ms_if ((m_orT (m_notT (m_val (m_call D__law_alike hg hr (by rfl) (m_cons (m_call D_all_deeds hg hr (by rfl) (m_cons (m_var (pv 3)) m_nil)) (m_cons (m_callTy c_tuple (by rfl) G.z_tuple (by decide +kernel) (m_cons (m_var (pv 7)) m_nil)) m_nil))))) (m_or1 (m_notT (m_val (m_call D__law_is_looked_at hg hr (by rfl) (m_cons (m_var (pv 1)) (m_cons (m_var (pv 3)) (m_cons (m_var (pv 4)) m_nil))))))))).pt (ms_one (ms_ret m_bl)) ms_nil)
    (ms_one (ms_if (m_cmpT (r_ne hu) (m_callB (c_repr hg hu) (by rfl) G.z_repr (by decide +kernel) (m_cons (m_var (pv 3)) m_nil)) (m_var (pv 5)) (nm _ (by decide) (by decide))) (ms_one (ms_ret m_bl)) ms_nil))))))))))
    (ms_one (ms_ret m_bl))))
end
end K04

/-! Ge0: the mirrors of the defs that draw dealings (printed by gen.py). -/
namespace Ge
open PySem PySem.Spec PyProof.Rows L2 Mi
/-! ### the mirrors -/
noncomputable def b__law_take : MS := (mSeq (mIfS (mTst (mOp oEq (mOp oIxD (mVar 0) (mC (.int 0))) (mC (.int 0)))) (mSeq (mSet 2 (mOp oIxD (mOp oAdd (mCut (mOp oIxD (mVar 0) (mC (.int 3))) (mPart (mOp oIxD (mVar 0) (mC (.int 2)))) mNoPart) (mNew (mLst (mCons (mC (.int 0)) mNil)))) (mC (.int 0))))
    (mSeq (mAugP (oI (fun _ _ => True) fun i j => .int (i + j)) (mVar 0) (mC (.int 2)) (mC (.int 1)))
    (mSeq (mIfS (mTst (mOp oGe (mVar 2) (mOp oPow (mC (.int 10)) (mC (.int 18))))) (mPutD (mVar 2) (mVar 0) (mC (.int 0))) mSkip)
    (mSeq (mSet 3 (mOp oAdd (mOp oAdd (mOp oMul (mOp oIxD (mVar 0) (mC (.int 1))) (mC (.int 48271))) (mOp oMod (mCl oInt (mCons (mVar 2) mNil)) (mC (.int 2147483647)))) (mOp oMul (mC (.int 7919)) (mOp oIxD (mVar 0) (mC (.int 2))))))
    (mPutD (mOp oMod (mCl oInt (mCons (mVar 3) mNil)) (mC (.int 2147483647))) (mVar 0) (mC (.int 1))))))) mSkip)
    (mSeq (mIfS (mTst (mOp oGt (mOp oIxD (mVar 0) (mC (.int 0))) (mC (.int 0)))) (mSeq (mSet 4 (mOp oMod (mCl oInt (mCons (mOp oIxD (mVar 0) (mC (.int 0))) mNil)) (mVar 1)))
    (mSeq (mPutD (mOp oDiv (mCl oInt (mCons (mOp oIxD (mVar 0) (mC (.int 0))) mNil)) (mVar 1)) (mVar 0) (mC (.int 0)))
    (mRet (mVar 4)))) mSkip)
    (mSeq (mSet 5 (mOp oMod (mCl oInt (mCons (mOp oMul (mOp oAdd (mOp oIxD (mVar 0) (mC (.int 1))) (mC (.int 1))) (mC (.int 39373))) mNil)) (mC (.int 1000000007))))
    (mSeq (mSet 6 (mOp oMod (mCl oInt (mCons (mOp oMul (mOp oMod (mCl oInt (mCons (mOp oMul (mVar 5) (mVar 5)) mNil)) (mC (.int 998244353))) (mC (.int 30011))) mNil)) (mC (.int 998244353))))
    (mRet (mOp oMod (mCl oInt (mCons (mOp oDiv (mVar 6) (mC (.int 7))) mNil)) (mVar 1)))))))
noncomputable def f__law_take : FnM := defN 2 7 (b__law_take)
noncomputable def b__law_some : MS := (mRet (mOp oIxD (mVar 1) (mCall0 f__law_take (mCons (mVar 0) (mCons (mCl oLenD (mCons (mVar 1) mNil)) mNil)))))
noncomputable def f__law_some : FnM := defN 2 2 (b__law_some)
noncomputable def b__law_mixed : MS := (mSeq (mSetA 2 (mLst mNil))
    (mSeq (mFor (.nm 3) (mIt (mVar 1)) (mDrop (mMt "list" oInsert (mVar 2) (mCons (mCall0 f__law_take (mCons (mVar 0) (mCons (mOp oAdd (mCl oLenD (mCons (mVar 2) mNil)) (mC (.int 1))) mNil))) (mCons (mVar 3) mNil)))))
    (mRet (mVar 2))))
noncomputable def f__law_mixed : FnM := defT 2 4 (b__law_mixed)
noncomputable def b__law_table : MS := (mSeq (mSet 1 (mNewD mDic0))
    (mSeq (mFor (.tup [(.nm 2), (.nm 3), (.nm 4), (.nm 5)]) (mIt (mOp oIxD (mVar 0) (mC (.int 1)))) (mPutD (mNewA (mLst (mCons (mVar 3) (mCons (mVar 4) (mCons (mNewD (mClD oDict (mCons (mNew (mLc (.tup [(.nm 6), (.nm 7)]) (mIt (mVar 5)) [6, 7] mYes (mTup (mCons (mVar 6) (mCons (mNewD (mClD oDict (mCons (mNew (mClF oListD (mCons (mVar 7) mNil))) mNil))) mNil))))) mNil))) mNil))))) (mVar 1) (mVar 2)))
    (mRet (mVar 1))))
noncomputable def f__law_table : FnM := defN 1 8 (b__law_table)
noncomputable def b__law_dealing : MS := (mSeq (mSetA 2 (mLst mNil))
    (mSeq (mFor (.nm 3) (mIt (mNew (mClF oSorted (mCons (mVar 1) mNil)))) (mSeq (mAsg (.tup [(.nm 4), (.nm 5), (.nm 6)]) (mOp oIxD (mVar 1) (mVar 3)))
    (mSeq (mSet 7 (mNew (mLc (.nm 8) (mIt (mNew (mClF oSorted (mCons (mVar 6) mNil)))) [8] mYes (mTup (mCons (mVar 8) (mCons (mCl oTuple (mCons (mNew (mSortItems (mOp oIxD (mVar 6) (mVar 8)))) mNil)) mNil))))))
    (mDrop (mMt "list" oAppend (mVar 2) (mCons (mTup (mCons (mVar 3) (mCons (mVar 4) (mCons (mVar 5) (mCons (mCl oTuple (mCons (mVar 7) mNil)) mNil))))) mNil))))))
    (mRet (mTup (mCons (mVar 0) (mCons (mCl oTuple (mCons (mVar 2) mNil)) mNil))))))
noncomputable def f__law_dealing : FnM := defT 2 9 (b__law_dealing)
noncomputable def b__law_parties : MS := (mSeq (mSet 2 (mCall0 f__law_some (mCons (mVar 0) (mCons (mNew (mLst (mCons (mNew (mLst (mCons (mC (.str "a")) (mCons (mC (.str "b")) (mCons (mC (.str "c")) (mCons (mC (.str "d")) (mCons (mC (.str "e")) (mCons (mC (.str "f")) mNil)))))))) (mCons (mNew (mLst (mCons (mC (.str "agent")) (mCons (mC (.str "bank")) (mCons (mC (.str "buyer")) (mCons (mC (.str "notary")) (mCons (mC (.str "seller")) (mCons (mC (.str "town")) mNil)))))))) mNil)))) mNil))))
    (mRet (mCl oTuple (mCons (mNew (mClF oSorted (mCons (mCut (mCall0 f__law_mixed (mCons (mVar 0) (mCons (mVar 2) mNil))) mNoPart (mPart (mOp oAdd (mC (.int 1)) (mCall0 f__law_take (mCons (mVar 0) (mCons (mVar 1) mNil)))))) mNil))) mNil))))
noncomputable def f__law_parties : FnM := defN 2 3 (b__law_parties)
noncomputable def b__law_begun : MS := (mSeq (mSet 1 (mNewD (mClD oDict (mCons (mNew (mLc (.nm 2) (mIt (mVar 0)) [2] mYes (mTup (mCons (mVar 2) (mCons (mC (.str "last")) mNil))))) mNil))))
    (mRet (mNewD (mDisp [((mC (.str "first")), (mNewA (mLst (mCons (mVar 0) (mCons (mOp oIxD (mVar 0) (mC (.int 0))) (mCons (mNewD (mDisp [((mC (.str "go")), (mVar 1))])) mNil)))))), ((mC (.str "last")), (mNewA (mLst (mCons (mVar 0) (mCons (mOp oIxD (mVar 0) (mUn oNeg (mC (.int 1)))) (mCons (mNewD mDic0) mNil))))))]))))
noncomputable def f__law_begun : FnM := defN 1 3 (b__law_begun)
noncomputable def b__law_new_name : MS := (mSeq (mSetA 2 (mLst mNil))
    (mSeq (mFor (.nm 3) (mIt (mNew (mLst (mCons (mC (.str "k")) (mCons (mC (.str "b")) (mCons (mC (.str "z")) (mCons (mC (.str "m")) (mCons (mC (.str "g")) mNil)))))))) (mDrop (mMt "list" oExtend (mVar 2) (mCons (mNew (mLc (.nm 5) (mIt (mNew (mLst (mCons (mC (.str "a")) (mCons (mC (.str "o")) (mCons (mC (.str "u")) (mCons (mC (.str "ix")) (mCons (mC (.str "")) mNil)))))))) [5] mYes (mOp oAdd (mVar 3) (mVar 5)))) mNil))))
    (mSeq (mSet 4 (mNew (mLc (.nm 6) (mIt (mVar 2)) [6] (mTst (mOp oNotInD (mVar 6) (mVar 1))) (mVar 6))))
    (mRet (mIf (mTst (mOp oNe (mVar 4) (mNew (mLst mNil)))) (mCall0 f__law_some (mCons (mVar 0) (mCons (mVar 4) mNil))) (mOp oAdd (mOp oMul (mC (.str "n")) (mOp oSub (mOp oAdd (mC (.int 1)) (mCl oLenD (mCons (mVar 1) mNil))) (mCl oLenD (mCons (mVar 2) mNil)))) (mC (.str "q"))))))))
noncomputable def f__law_new_name : FnM := defT 2 7 (b__law_new_name)
noncomputable def b__law_result_of : MS := (mSeq (mSetA 2 (mLst mNil))
    (mSeq (mFor (.nm 3) (mIt (mNew (mClF oSorted (mCons (mVar 1) mNil)))) (mDrop (mMt "list" oExtend (mVar 2) (mCons (mNew (mLc (.nm 4) (mIt (mNew (mClF oSorted (mCons (mOp oIxD (mOp oIxD (mVar 1) (mVar 3)) (mC (.int 2))) mNil)))) [4] mYes (mTup (mCons (mVar 3) (mCons (mVar 4) mNil))))) mNil))))
    (mRet (mCall0 f__law_some (mCons (mVar 0) (mCons (mVar 2) mNil))))))
noncomputable def f__law_result_of : FnM := defT 2 5 (b__law_result_of)
noncomputable def b__law_with_copy : MS := (mSeq (mAsg (.tup [(.nm 2), (.nm 3)]) (mCall0 f__law_result_of (mCons (mVar 0) (mCons (mVar 1) mNil))))
    (mIfS (mTst (mOp oLt (mCl oLenD (mCons (mOp oIxD (mOp oIxD (mVar 1) (mVar 2)) (mC (.int 2))) mNil)) (mC (.int 4)))) (mPutD (mNewD (mClD oDict (mCons (mOp oIxD (mOp oIxD (mOp oIxD (mVar 1) (mVar 2)) (mC (.int 2))) (mVar 3)) mNil))) (mOp oIxD (mOp oIxD (mVar 1) (mVar 2)) (mC (.int 2))) (mCall0 f__law_new_name (mCons (mVar 0) (mCons (mNew (mClF oListD (mCons (mOp oIxD (mOp oIxD (mVar 1) (mVar 2)) (mC (.int 2))) mNil))) mNil)))) mSkip))
noncomputable def f__law_with_copy : FnM := defN 2 4 (b__law_with_copy)
noncomputable def b__law_with_loop : MS := (mSeq (mSet 2 (mOp oIxD (mCall0 f__law_result_of (mCons (mVar 0) (mCons (mVar 1) mNil))) (mC (.int 0))))
    (mIfS (mTst (mOp oLt (mCl oLenD (mCons (mOp oIxD (mOp oIxD (mVar 1) (mVar 2)) (mC (.int 2))) mNil)) (mC (.int 4)))) (mSeq (mSet 3 (mNewD (mClD oDict (mCons (mNew (mLc (.nm 4) (mIt (mOp oIxD (mOp oIxD (mVar 1) (mVar 2)) (mC (.int 0)))) [4] mYes (mTup (mCons (mVar 4) (mCons (mVar 2) mNil))))) mNil))))
    (mPutD (mVar 3) (mOp oIxD (mOp oIxD (mVar 1) (mVar 2)) (mC (.int 2))) (mCall0 f__law_new_name (mCons (mVar 0) (mCons (mNew (mClF oListD (mCons (mOp oIxD (mOp oIxD (mVar 1) (mVar 2)) (mC (.int 2))) mNil))) mNil))))) mSkip))
noncomputable def f__law_with_loop : FnM := defN 2 5 (b__law_with_loop)
noncomputable def b__law_with_round : MS := (mSeq (mAsg (.tup [(.nm 2), (.nm 3)]) (mCall0 f__law_result_of (mCons (mVar 0) (mCons (mVar 1) mNil))))
    (mSeq (mSet 4 (mOp oIxD (mOp oIxD (mVar 1) (mVar 2)) (mC (.int 0))))
    (mSeq (mSet 5 (mCl oTuple (mCons (mNew (mClF oSorted (mCons (mCut (mCall0 f__law_mixed (mCons (mVar 0) (mCons (mNew (mClF oListD (mCons (mVar 4) mNil))) mNil))) mNoPart (mPart (mOp oAdd (mC (.int 1)) (mCall0 f__law_take (mCons (mVar 0) (mCons (mCl oLenD (mCons (mVar 4) mNil)) mNil)))))) mNil))) mNil)))
    (mSeq (mAsg (.tup [(.nm 6), (.nm 7)]) (mTup (mCons (mCall0 f__law_new_name (mCons (mVar 0) (mCons (mNew (mClF oListD (mCons (mVar 1) mNil))) mNil))) (mCons (mOp oIxD (mOp oIxD (mOp oIxD (mVar 1) (mVar 2)) (mC (.int 2))) (mVar 3)) mNil))))
    (mSeq (mSet 8 (mNewD (mClD oDict (mCons (mNew (mLc (.nm 9) (mIt (mVar 5)) [9] mYes (mTup (mCons (mVar 9) (mCons (mOp oIxD (mVar 7) (mVar 9)) mNil))))) mNil))))
    (mSeq (mPutD (mNewA (mLst (mCons (mVar 5) (mCons (mCall0 f__law_some (mCons (mVar 0) (mCons (mVar 5) mNil))) (mCons (mNewD (mDisp [((mCall0 f__law_some (mCons (mVar 0) (mCons (mNew (mLst (mCons (mC (.str "go")) (mCons (mC (.str "yes")) (mCons (mC (.str "no")) mNil))))) mNil))), (mVar 8))])) mNil))))) (mVar 1) (mVar 6))
    (mFor (.nm 9) (mIt (mVar 5)) (mPutD (mVar 6) (mVar 7) (mVar 9)))))))))
noncomputable def f__law_with_round : FnM := defN 2 10 (b__law_with_round)
noncomputable def b__law_with_fold : MS := (mSeq (mAsg (.tup [(.nm 2), (.nm 3)]) (mCall0 f__law_result_of (mCons (mVar 0) (mCons (mVar 1) mNil))))
    (mSeq (mSet 4 (mOp oIxD (mOp oIxD (mOp oIxD (mVar 1) (mVar 2)) (mC (.int 2))) (mVar 3)))
    (mFor (.nm 5) (mIt (mCall0 f__law_mixed (mCons (mVar 0) (mCons (mNew (mClF oSorted (mCons (mVar 1) mNil))) mNil)))) (mSeq (mAsg (.tup [(.nm 6), (.nm 7), (.nm 8)]) (mOp oIxD (mVar 1) (mVar 5)))
    (mIfS (mAndT (mTst (mOp oNe (mVar 5) (mVar 2))) (mAndT (mTst (mOp oEq (mCl oLenD (mCons (mVar 8) mNil)) (mC (.int 1)))) (mTst (mOp oEq (mNew (mLc (.nm 10) (mIt (mVar 6)) [10] (mTst (mOp oNotInD (mVar 10) (mVar 4))) (mVar 10))) (mNew (mLst mNil)))))) (mSeq (mSet 9 (mOp oIxD (mVar 8) (mOp oIxD (mNew (mClF oSorted (mCons (mVar 8) mNil))) (mC (.int 0)))))
    (mIfS (mTst (mOp oEq (mNew (mLc (.nm 10) (mIt (mVar 6)) [10] (mTst (mOp oNe (mOp oIxD (mVar 9) (mVar 10)) (mOp oIxD (mVar 4) (mVar 10)))) (mVar 10))) (mNew (mLst mNil)))) (mSeq (mDrop (mMt "dict" oUpd (mVar 4) (mCons (mNewD (mClD oDict (mCons (mNew (mLc (.nm 10) (mIt (mVar 6)) [10] mYes (mTup (mCons (mVar 10) (mCons (mVar 5) mNil))))) mNil))) mNil)))
    mRetN) mSkip)) mSkip)))))
noncomputable def f__law_with_fold : FnM := defN 2 11 (b__law_with_fold)
noncomputable def b__law_grown : MS := (mSeq (mSet 4 (mCall0 f__law_begun (mCons (mVar 1) mNil)))
    (mSeq (mFor (.nm 5) (mRange1 (mCons (mVar 2) mNil)) (mSeq (mSet 6 (mCall0 f__law_take (mCons (mVar 0) (mCons (mC (.int 8)) mNil))))
    (mIfS (mTst (mOp oLt (mVar 6) (mC (.int 2)))) (mDrop (mCall0 f__law_with_copy (mCons (mVar 0) (mCons (mVar 4) mNil)))) (mIfS (mTst (mOp oEq (mVar 6) (mC (.int 2)))) (mDrop (mCall0 f__law_with_loop (mCons (mVar 0) (mCons (mVar 4) mNil)))) (mIfS (mTst (mOp oEq (mVar 6) (mC (.int 3)))) (mDrop (mCall0 f__law_with_fold (mCons (mVar 0) (mCons (mVar 4) mNil)))) (mIfS (mTst (mOp oLt (mCl oLenD (mCons (mVar 4) mNil)) (mVar 3))) (mDrop (mCall0 f__law_with_round (mCons (mVar 0) (mCons (mVar 4) mNil)))) mSkip))))))
    (mRet (mVar 4))))
noncomputable def f__law_grown : FnM := defN 4 7 (b__law_grown)
noncomputable def b__law_turned : MS := (mSeq (mAsg (.tup [(.nm 2), (.nm 3)]) (mCall0 f__law_result_of (mCons (mVar 0) (mCons (mVar 1) mNil))))
    (mSeq (mSet 4 (mCall0 f__law_some (mCons (mVar 0) (mCons (mOp oIxD (mOp oIxD (mVar 1) (mVar 2)) (mC (.int 0))) mNil))))
    (mSeq (mPutD (mCall0 f__law_some (mCons (mVar 0) (mCons (mNew (mLc (.nm 5) (mIt (mNew (mClF oSorted (mCons (mVar 1) mNil)))) [5] (mTst (mOp oInD (mVar 4) (mOp oIxD (mOp oIxD (mVar 1) (mVar 5)) (mC (.int 0))))) (mVar 5))) mNil))) (mOp oIxD (mOp oIxD (mOp oIxD (mVar 1) (mVar 2)) (mC (.int 2))) (mVar 3)) (mVar 4))
    (mRet (mVar 1)))))
noncomputable def f__law_turned : FnM := defN 2 6 (b__law_turned)
noncomputable def b__law_any : MS := (mSeq (mSet 3 (mCall0 f__law_begun (mCons (mVar 1) mNil)))
    (mSeq (mFor (.nm 4) (mRange1 (mCons (mCall0 f__law_take (mCons (mVar 0) (mCons (mOp oSub (mVar 2) (mC (.int 1))) mNil))) mNil)) (mSeq (mSet 5 (mCl oTuple (mCons (mNew (mClF oSorted (mCons (mCut (mCall0 f__law_mixed (mCons (mVar 0) (mCons (mNew (mClF oListD (mCons (mVar 1) mNil))) mNil))) mNoPart (mPart (mOp oAdd (mC (.int 1)) (mCall0 f__law_take (mCons (mVar 0) (mCons (mCl oLenD (mCons (mVar 1) mNil)) mNil)))))) mNil))) mNil)))
    (mPutD (mNewA (mLst (mCons (mVar 5) (mCons (mCall0 f__law_some (mCons (mVar 0) (mCons (mVar 5) mNil))) (mCons (mNewD mDic0) mNil))))) (mVar 3) (mCall0 f__law_new_name (mCons (mVar 0) (mCons (mNew (mClF oListD (mCons (mVar 3) mNil))) mNil))))))
    (mSeq (mFor (.nm 6) (mIt (mNew (mClF oSorted (mCons (mVar 3) mNil)))) (mSeq (mSet 5 (mOp oIxD (mOp oIxD (mVar 3) (mVar 6)) (mC (.int 0))))
    (mFor (.nm 4) (mRange1 (mCons (mIf (mTst (mOp oEq (mVar 6) (mC (.str "last")))) (mC (.int 0)) (mOp oAdd (mC (.int 1)) (mCall0 f__law_take (mCons (mVar 0) (mCons (mC (.int 2)) mNil))))) mNil)) (mSeq (mSet 7 (mNew (mLc (.nm 12) (mIt (mNew (mClF oSorted (mCons (mVar 3) mNil)))) [12] (mTst (mOp oEq (mNew (mLc (.nm 10) (mIt (mVar 5)) [10] (mTst (mOp oNotInD (mVar 10) (mOp oIxD (mOp oIxD (mVar 3) (mVar 12)) (mC (.int 0))))) (mVar 10))) (mNew (mLst mNil)))) (mVar 12))))
    (mSeq (mAsg (.tup [(.nm 8), (.nm 9)]) (mTup (mCons (mCall0 f__law_some (mCons (mVar 0) (mCons (mVar 7) mNil))) (mCons (mNewD mDic0) mNil))))
    (mSeq (mFor (.nm 10) (mIt (mVar 5)) (mPutD (mCall0 f__law_some (mCons (mVar 0) (mCons (mNew (mLc (.nm 12) (mIt (mNew (mClF oSorted (mCons (mVar 3) mNil)))) [12] (mTst (mOp oInD (mVar 10) (mOp oIxD (mOp oIxD (mVar 3) (mVar 12)) (mC (.int 0))))) (mVar 12))) mNil))) (mVar 9) (mVar 10)))
    (mSeq (mSet 11 (mOp oEq (mCall0 f__law_take (mCons (mVar 0) (mCons (mC (.int 3)) mNil))) (mC (.int 0))))
    (mPutD (mIf (mTst (mVar 11)) (mNewD (mClD oDict (mCons (mNew (mLc (.nm 10) (mIt (mVar 5)) [10] mYes (mTup (mCons (mVar 10) (mCons (mVar 8) mNil))))) mNil))) (mVar 9)) (mOp oIxD (mOp oIxD (mVar 3) (mVar 6)) (mC (.int 2))) (mOp oIxD (mNew (mLst (mCons (mC (.str "go")) (mCons (mC (.str "no")) mNil)))) (mVar 4))))))))))
    (mRet (mVar 3)))))
noncomputable def f__law_any : FnM := defN 3 13 (b__law_any)
noncomputable def b__law_in_pairs : MS := (mSeq (mPar 1 2 (mCons (mCall0 f__law_mixed (mCons (mVar 0) (mCons (mNew (mLst (mCons (mC (.str "a")) (mCons (mC (.str "b")) (mCons (mC (.str "c")) mNil))))) mNil))) (mCons (mCall0 f__law_mixed (mCons (mVar 0) (mCons (mNew (mLst (mCons (mC (.str "k")) (mCons (mC (.str "m")) (mCons (mC (.str "z")) mNil))))) mNil))) mNil)))
    (mSeq (mPar 3 4 (mCons (mTup (mCons (mC (.str "a")) (mCons (mC (.str "b")) (mCons (mC (.str "c")) mNil)))) (mCons (mCall0 f__law_begun (mCons (mTup (mCons (mC (.str "a")) (mCons (mC (.str "b")) (mCons (mC (.str "c")) mNil)))) mNil)) mNil)))
    (mSeq (mFor (.nm 5) (mRange1 (mCons (mC (.int 3)) mNil)) (mSeq (mPar 6 7 (mCons (mCl oTuple (mCons (mNew (mClF oSorted (mCons (mNew (mLst (mCons (mOp oIxD (mVar 1) (mVar 5)) (mCons (mOp oIxD (mVar 1) (mOp oSub (mVar 5) (mC (.int 2)))) mNil)))) mNil))) mNil)) (mCons (mOp oIxD (mVar 2) (mOp oSub (mVar 5) (mC (.int 2)))) mNil)))
    (mSeq (mPutD (mNewA (mLst (mCons (mVar 6) (mCons (mOp oIxD (mVar 6) (mC (.int 0))) (mCons (mNewD (mDisp [((mC (.str "go")), (mNewD (mDisp [((mOp oIxD (mVar 1) (mVar 5)), (mC (.str "last"))), ((mOp oIxD (mVar 1) (mOp oSub (mVar 5) (mC (.int 2)))), (mVar 7))])))])) mNil))))) (mVar 4) (mOp oIxD (mVar 2) (mVar 5)))
    (mPutD (mOp oIxD (mVar 2) (mVar 5)) (mOp oIxD (mOp oIxD (mOp oIxD (mVar 4) (mC (.str "first"))) (mC (.int 2))) (mC (.str "go"))) (mOp oIxD (mVar 1) (mOp oSub (mVar 5) (mC (.int 2))))))))
    (mSeq (mFor (.nm 8) (mRange1 (mCons (mCall0 f__law_take (mCons (mVar 0) (mCons (mC (.int 4)) mNil))) mNil)) (mSeq (mSet 9 (mCall0 f__law_take (mCons (mVar 0) (mCons (mC (.int 3)) mNil))))
    (mIfS (mTst (mOp oEq (mVar 9) (mC (.int 0)))) (mDrop (mCall0 f__law_with_copy (mCons (mVar 0) (mCons (mVar 4) mNil)))) (mIfS (mTst (mOp oEq (mVar 9) (mC (.int 1)))) (mDrop (mCall0 f__law_with_loop (mCons (mVar 0) (mCons (mVar 4) mNil)))) (mDrop (mCall0 f__law_with_round (mCons (mVar 0) (mCons (mVar 4) mNil))))))))
    (mRet (mTup (mCons (mVar 3) (mCons (mVar 4) mNil))))))))
noncomputable def f__law_in_pairs : FnM := defN 1 10 (b__law_in_pairs)
noncomputable def b__law_drawn : MS := (mSeq (mPar 3 4 (mCons (mCall0 f__law_take (mCons (mVar 0) (mCons (mC (.int 8)) mNil))) (mCons (mCall0 f__law_parties (mCons (mVar 0) (mCons (mVar 1) mNil))) mNil)))
    (mSeq (mIfS (mTst (mOp oEq (mVar 3) (mC (.int 7)))) (mSeq (mSet 5 (mCall0 f__law_in_pairs (mCons (mVar 0) mNil)))
    (mAsg (.tup [(.nm 4), (.nm 6)]) (mIf (mTst (mOp oGt (mVar 1) (mC (.int 2)))) (mVar 5) (mTup (mCons (mVar 4) (mCons (mCall0 f__law_any (mCons (mVar 0) (mCons (mVar 4) (mCons (mVar 2) mNil)))) mNil)))))) (mIfS (mTst (mOp oEq (mVar 3) (mC (.int 6)))) (mSet 6 (mCall0 f__law_any (mCons (mVar 0) (mCons (mVar 4) (mCons (mVar 2) mNil))))) (mSet 6 (mCall0 f__law_grown (mCons (mVar 0) (mCons (mVar 4) (mCons (mCall0 f__law_some (mCons (mVar 0) (mCons (mNew (mLst (mCons (mC (.int 12)) (mCons (mC (.int 3)) (mCons (mC (.int 7)) (mCons (mC (.int 20)) (mCons (mC (.int 0)) mNil))))))) mNil))) (mCons (mVar 2) mNil))))))))
    (mSeq (mFor (.nm 7) (mRange1 (mCons (mOp oIxD (mNew (mLst (mCons (mC (.int 0)) (mCons (mC (.int 0)) (mCons (mC (.int 0)) (mCons (mC (.int 1)) (mCons (mC (.int 1)) (mCons (mC (.int 2)) (mCons (mC (.int 0)) (mCons (mCall0 f__law_take (mCons (mVar 0) (mCons (mC (.int 2)) mNil))) mNil)))))))))) (mVar 3)) mNil)) (mSet 6 (mCall0 f__law_turned (mCons (mVar 0) (mCons (mVar 6) mNil)))))
    (mRet (mCall0 f__law_dealing (mCons (mVar 4) (mCons (mVar 6) mNil)))))))
noncomputable def f__law_drawn : FnM := defT 3 8 (b__law_drawn)
end Ge

/-! Ge1: what the defs answer that draw from the bag alone (plain). -/
namespace Ge
open PySem PySem.Spec PyProof.Rows L2 Mi
section
variable {x y z w v : PV} {r xs : List PV} {rest st : Sto} {i : Int}
theorem ixD_r : oIxD (.ref 0) (.int i) (.lst xs :: rest) = atI xs i := rfl
theorem ixD_l : oIxD (.lst xs) (.int i) st = atI xs i := rfl
theorem ixD_t : oIxD (.tup xs) (.int i) st = atI xs i := rfl
theorem putD_0 : oPutD (.ref 0) (.int 0) v (.lst (x :: r) :: rest) = some (.lst (v :: r) :: rest) := put_0
theorem putD_1 : oPutD (.ref 0) (.int 1) v (.lst (x :: y :: r) :: rest) = some (.lst (x :: v :: r) :: rest) := put_1
theorem putD_2 : oPutD (.ref 0) (.int 2) v (.lst (x :: y :: z :: r) :: rest) = some (.lst (x :: y :: v :: r) :: rest) := put_2
theorem lenD_l : oLenD [.lst xs] st = some (.int xs.length) := rfl
theorem lenD_t : oLenD [.tup xs] st = some (.int xs.length) := rfl
theorem it_l : mItOf (.lst xs) st = some ⟨xs, none⟩ := rfl
theorem it_t : mItOf (.tup xs) st = some ⟨xs, none⟩ := rfl
theorem sl {n : Nat} (h : n ≤ 1000) : (n ≤ sizeLine) ↔ True := iff_true_intro (small_line h)
theorem sl' {n : Nat} (h : n < 1000) : (n < sizeLine) ↔ True := iff_true_intro (Nat.lt_of_lt_of_le h (small_line (Nat.le_refl 1000)))
end
noncomputable def bT2 : MS := (mSeq (mIfS (mTst (mOp oGt (mOp oIxD (mVar 0) (mC (.int 0))) (mC (.int 0)))) (mSeq (mSet 4 (mOp oMod (mCl oInt (mCons (mOp oIxD (mVar 0) (mC (.int 0))) mNil)) (mVar 1)))
    (mSeq (mPutD (mOp oDiv (mCl oInt (mCons (mOp oIxD (mVar 0) (mC (.int 0))) mNil)) (mVar 1)) (mVar 0) (mC (.int 0)))
    (mRet (mVar 4)))) mSkip)
    (mSeq (mSet 5 (mOp oMod (mCl oInt (mCons (mOp oMul (mOp oAdd (mOp oIxD (mVar 0) (mC (.int 1))) (mC (.int 1))) (mC (.int 39373))) mNil)) (mC (.int 1000000007))))
    (mSeq (mSet 6 (mOp oMod (mCl oInt (mCons (mOp oMul (mOp oMod (mCl oInt (mCons (mOp oMul (mVar 5) (mVar 5)) mNil)) (mC (.int 998244353))) (mC (.int 30011))) mNil)) (mC (.int 998244353))))
    (mRet (mOp oMod (mCl oInt (mCons (mOp oDiv (mVar 6) (mC (.int 7))) mNil)) (mVar 1))))))
noncomputable def bT1 : MS := (mIfS (mTst (mOp oEq (mOp oIxD (mVar 0) (mC (.int 0))) (mC (.int 0)))) (mSeq (mSet 2 (mOp oIxD (mOp oAdd (mCut (mOp oIxD (mVar 0) (mC (.int 3))) (mPart (mOp oIxD (mVar 0) (mC (.int 2)))) mNoPart) (mNew (mLst (mCons (mC (.int 0)) mNil)))) (mC (.int 0))))
    (mSeq (mAugP (oI (fun _ _ => True) fun i j => .int (i + j)) (mVar 0) (mC (.int 2)) (mC (.int 1)))
    (mSeq (mIfS (mTst (mOp oGe (mVar 2) (mOp oPow (mC (.int 10)) (mC (.int 18))))) (mPutD (mVar 2) (mVar 0) (mC (.int 0))) mSkip)
    (mSeq (mSet 3 (mOp oAdd (mOp oAdd (mOp oMul (mOp oIxD (mVar 0) (mC (.int 1))) (mC (.int 48271))) (mOp oMod (mCl oInt (mCons (mVar 2) mNil)) (mC (.int 2147483647)))) (mOp oMul (mC (.int 7919)) (mOp oIxD (mVar 0) (mC (.int 2))))))
    (mPutD (mOp oMod (mCl oInt (mCons (mVar 3) mNil)) (mC (.int 2147483647))) (mVar 0) (mC (.int 1))))))) mSkip)
theorem e_take : b__law_take = mSeq bT1 bT2 := rfl
theorem take2_ok {rest : Sto} {a b c n : Int} {cells : List Int} {x2 x3 : Option PV} (h0 : 0 < n) (h1 : LogOk n) (ha : 0 ≤ a) (hb : 0 ≤ b) (hb2 : b < 2147483647) (hcs : ∀ x ∈ cells, 0 ≤ x) (hl : cells.length ≤ 63) {N B C : QN} :
    OkS bT2 [some (.ref 0), some (.int n), x2, x3, none, none, none] (.lst [.int a, .int b, .int c, .lst (cells.map .int)] :: rest) N (fun v s => ∃ i B', v = .int i ∧ s = B' :: rest ∧ BagO B' ∧ 0 ≤ i ∧ i < n) B C := by
  have hn : n ≠ 0 := by omega
  simp only [bT2, os_seq, os_skip, os_brk, os_cont, os_retN, os_drop, os_ret, os_retA, os_set, os_setA, os_if, os_asg, os_par, os_aug, os_put, os_augP, os_for, ok_var, ok_c, ok_nil, ok_cons, ok_tup, ok_lst, ok_new, ok_tst, ok_andT, ok_orT, ok_notT, ok_and, ok_or, ok_not, ok_if, ok_op, ok_un, ok_cl, ok_clF, ok_call, ok_mk, ok_noPart, ok_part, ok_cut, ok_mt, ok_chain, ok_it, ok_range1, ok_range2, ok_lc, ok_yes, out_some, out_none, out_add, out_sub, out_neg, out_le, out_gt, out_ge, out_lt, out_eqI, out_neI, out_int, out_abs, out_gcd, List.map_cons, List.map_nil, List.length_cons, List.length_nil, List.replicate, List.cons_append, List.nil_append, List.append_nil, List.getElem?_cons_zero, List.getElem?_cons_succ, List.set_cons_zero, List.set_cons_succ, PV.bl.injEq, PV.int.injEq, PV.str.injEq, exists_eq_left', exists_eq_left, and_true, true_and, if_true, if_false, Bool.false_eq_true, Bool.true_eq_false, decide_eq_true_eq, Nat.sub_self, Nat.reduceAdd, Nat.reduceSub, Nat.reduceLeDiff, List.cons.injEq, ixD_r, ixD_l, atI_0, atI_1, atI_2, atI_3, putD_0, putD_1, putD_2, os_putD, ixn_2, cut_l, out_oI, out_mulC, out_divC, out_modC, out_powC]
  split
  · refine ⟨hn, hn, h1, _, _, rfl, rfl, ⟨_, b, c, cells, rfl, fdiv_pos ha h0, hb, hb2, hcs, hl⟩, (fmod_pos h0).1, (fmod_pos h0).2⟩
  · have m1 := fmod_pos (a := (b + 1) * 39373) (b := 1000000007) (by decide)
    generalize ((b + 1) * 39373).fmod 1000000007 = k1 at m1 ⊢
    have m2 := fmod_pos (a := k1 * k1) (b := 998244353) (by decide)
    generalize (k1 * k1).fmod 998244353 = k2 at m2 ⊢
    refine ⟨mulOk_r (by decide) (by decide), by decide, mulOk_l m1.1 (by omega), by decide, mulOk_l m2.1 (by omega), by decide, by decide, logOk_lt (k := 5) (by decide) (by decide), hn, _, _, rfl, rfl, ⟨a, b, c, cells, rfl, ha, hb, hb2, hcs, hl⟩, (fmod_pos h0).1, (fmod_pos h0).2⟩
theorem firstD_of {ys : List Int} (h : ∀ y ∈ ys, 0 ≤ y) : ∃ v : Int, 0 ≤ v ∧ ∀ st, oIxD (.lst (ys.map .int ++ [.int 0])) (.int 0) st = some (.int v) := by
  cases ys with
  | nil => exact ⟨0, by omega, fun _ => by rw [ixD_l]; exact atI_0⟩
  | cons y ys => exact ⟨y, h y List.mem_cons_self, fun _ => by rw [ixD_l]; exact atI_0⟩
theorem k_take {B : MO} {rest : Sto} {n : Int} (hB : BagO B) (h0 : 0 < n) (h1 : LogOk n) : OkF f__law_take [.ref 0, .int n] (B :: rest) fun v s => ∃ i B', v = .int i ∧ s = B' :: rest ∧ BagO B' ∧ 0 ≤ i ∧ i < n := by
  obtain ⟨a, b, c, cells, rfl, ha, hb, hb2, hcs, hl⟩ := hB
  refine of_defN rfl ?_
  rw [e_take]
  simp only [bT1, os_seq, os_skip, os_brk, os_cont, os_retN, os_drop, os_ret, os_retA, os_set, os_setA, os_if, os_asg, os_par, os_aug, os_put, os_augP, os_for, ok_var, ok_c, ok_nil, ok_cons, ok_tup, ok_lst, ok_new, ok_tst, ok_andT, ok_orT, ok_notT, ok_and, ok_or, ok_not, ok_if, ok_op, ok_un, ok_cl, ok_clF, ok_call, ok_mk, ok_noPart, ok_part, ok_cut, ok_mt, ok_chain, ok_it, ok_range1, ok_range2, ok_lc, ok_yes, out_some, out_none, out_add, out_sub, out_neg, out_le, out_gt, out_ge, out_lt, out_eqI, out_neI, out_int, out_abs, out_gcd, List.map_cons, List.map_nil, List.length_cons, List.length_nil, List.replicate, List.cons_append, List.nil_append, List.append_nil, List.getElem?_cons_zero, List.getElem?_cons_succ, List.set_cons_zero, List.set_cons_succ, PV.bl.injEq, PV.int.injEq, PV.str.injEq, exists_eq_left', exists_eq_left, and_true, true_and, if_true, if_false, Bool.false_eq_true, Bool.true_eq_false, decide_eq_true_eq, Nat.sub_self, Nat.reduceAdd, Nat.reduceSub, Nat.reduceLeDiff, List.cons.injEq, ixD_r, atI_0, atI_1, atI_2, atI_3, ixn_2, put_2, os_putD, cut_l, out_oI, add_l, out_iff1]
  split
  · obtain ⟨ys, e, hm, hy⟩ := cut_map (f := .int) (xs := cells) (lo := some c) (hi := none)
    rw [e]
    obtain ⟨v, hv, ev⟩ := firstD_of fun y h => hcs y (hm y h)
    refine ⟨small_line (by decide), small_line (by rw [List.length_map]; simp; omega), ?_⟩
    rw [ev, out_some]
    simp only [out_powC]
    refine ⟨⟨by decide, by decide, by decide⟩, ?_⟩
    simp only [os_seq, os_skip, os_brk, os_cont, os_retN, os_drop, os_ret, os_retA, os_set, os_setA, os_if, os_asg, os_par, os_aug, os_put, os_augP, os_for, ok_var, ok_c, ok_nil, ok_cons, ok_tup, ok_lst, ok_new, ok_tst, ok_andT, ok_orT, ok_notT, ok_and, ok_or, ok_not, ok_if, ok_op, ok_un, ok_cl, ok_clF, ok_call, ok_mk, ok_noPart, ok_part, ok_cut, ok_mt, ok_chain, ok_it, ok_range1, ok_range2, ok_lc, ok_yes, out_some, out_none, out_add, out_sub, out_neg, out_le, out_gt, out_ge, out_lt, out_eqI, out_neI, out_int, out_abs, out_gcd, List.map_cons, List.map_nil, List.length_cons, List.length_nil, List.replicate, List.cons_append, List.nil_append, List.append_nil, List.getElem?_cons_zero, List.getElem?_cons_succ, List.set_cons_zero, List.set_cons_succ, PV.bl.injEq, PV.int.injEq, PV.str.injEq, exists_eq_left', exists_eq_left, and_true, true_and, if_true, if_false, Bool.false_eq_true, Bool.true_eq_false, decide_eq_true_eq, Nat.sub_self, Nat.reduceAdd, Nat.reduceSub, Nat.reduceLeDiff, List.cons.injEq, ixD_r, atI_0, atI_1, atI_2, putD_0, putD_1, os_putD, out_mulC, out_modC]
    have m1 : ∀ z : Int, 0 ≤ z.fmod 2147483647 ∧ z.fmod 2147483647 < 2147483647 := fun z => fmod_pos (by decide)
    split
    · exact ⟨mulOk_r (by decide) (by decide), by decide, mulOk_l (by decide) (by decide), by decide, take2_ok h0 h1 hv (m1 _).1 (m1 _).2 hcs hl⟩
    · exact ⟨mulOk_r (by decide) (by decide), by decide, mulOk_l (by decide) (by decide), by decide, take2_ok h0 h1 ha (m1 _).1 (m1 _).2 hcs hl⟩
  · exact take2_ok h0 h1 ha hb hb2 hcs hl
/-- the same bag further on, all else as it is -/
theorem some_lst {B : MO} {rest : Sto} {xs : List PV} (hB : BagO B) (h0 : xs ≠ []) (h1 : xs.length < 2 ^ 64) : OkF f__law_some [.ref 0, .lst xs] (B :: rest) fun v s => ∃ B', v ∈ xs ∧ s = B' :: rest ∧ BagO B' := by
  refine of_defN rfl ?_
  have hl : 0 < xs.length := List.length_pos_iff.mpr h0
  simp only [b__law_some, os_seq, os_skip, os_brk, os_cont, os_retN, os_drop, os_ret, os_retA, os_set, os_setA, os_if, os_asg, os_par, os_aug, os_put, os_augP, os_for, ok_var, ok_c, ok_nil, ok_cons, ok_tup, ok_lst, ok_new, ok_tst, ok_andT, ok_orT, ok_notT, ok_and, ok_or, ok_not, ok_if, ok_op, ok_un, ok_cl, ok_clF, ok_call, ok_mk, ok_noPart, ok_part, ok_cut, ok_mt, ok_chain, ok_it, ok_range1, ok_range2, ok_lc, ok_yes, out_some, out_none, out_add, out_sub, out_neg, out_le, out_gt, out_ge, out_lt, out_eqI, out_neI, out_int, out_abs, out_gcd, List.map_cons, List.map_nil, List.length_cons, List.length_nil, List.replicate, List.cons_append, List.nil_append, List.append_nil, List.getElem?_cons_zero, List.getElem?_cons_succ, List.set_cons_zero, List.set_cons_succ, PV.bl.injEq, PV.int.injEq, PV.str.injEq, exists_eq_left', exists_eq_left, and_true, true_and, if_true, if_false, Bool.false_eq_true, Bool.true_eq_false, decide_eq_true_eq, Nat.sub_self, Nat.reduceAdd, Nat.reduceSub, Nat.reduceLeDiff, List.cons.injEq, lenD_l]
  refine (k_take hB (by omega) (logOk_small h1)).imp fun v s h => ?_
  obtain ⟨i, B', rfl, rfl, hB', g0, g1⟩ := h
  obtain ⟨x, hx, e⟩ := atI_mem (xs := xs) g0 g1
  rw [ixD_l, e, out_some]
  exact ⟨B', hx, rfl, hB'⟩
theorem some_tup {B : MO} {rest : Sto} {xs : List PV} (hB : BagO B) (h0 : xs ≠ []) (h1 : xs.length < 2 ^ 64) : OkF f__law_some [.ref 0, .tup xs] (B :: rest) fun v s => ∃ B', v ∈ xs ∧ s = B' :: rest ∧ BagO B' := by
  refine of_defN rfl ?_
  have hl : 0 < xs.length := List.length_pos_iff.mpr h0
  simp only [b__law_some, os_seq, os_skip, os_brk, os_cont, os_retN, os_drop, os_ret, os_retA, os_set, os_setA, os_if, os_asg, os_par, os_aug, os_put, os_augP, os_for, ok_var, ok_c, ok_nil, ok_cons, ok_tup, ok_lst, ok_new, ok_tst, ok_andT, ok_orT, ok_notT, ok_and, ok_or, ok_not, ok_if, ok_op, ok_un, ok_cl, ok_clF, ok_call, ok_mk, ok_noPart, ok_part, ok_cut, ok_mt, ok_chain, ok_it, ok_range1, ok_range2, ok_lc, ok_yes, out_some, out_none, out_add, out_sub, out_neg, out_le, out_gt, out_ge, out_lt, out_eqI, out_neI, out_int, out_abs, out_gcd, List.map_cons, List.map_nil, List.length_cons, List.length_nil, List.replicate, List.cons_append, List.nil_append, List.append_nil, List.getElem?_cons_zero, List.getElem?_cons_succ, List.set_cons_zero, List.set_cons_succ, PV.bl.injEq, PV.int.injEq, PV.str.injEq, exists_eq_left', exists_eq_left, and_true, true_and, if_true, if_false, Bool.false_eq_true, Bool.true_eq_false, decide_eq_true_eq, Nat.sub_self, Nat.reduceAdd, Nat.reduceSub, Nat.reduceLeDiff, List.cons.injEq, lenD_t]
  refine (k_take hB (by omega) (logOk_small h1)).imp fun v s h => ?_
  obtain ⟨i, B', rfl, rfl, hB', g0, g1⟩ := h
  obtain ⟨x, hx, e⟩ := atI_mem (xs := xs) g0 g1
  rw [ixD_t, e, out_some]
  exact ⟨B', hx, rfl, hB'⟩
/-! ### one object more at the end -/
section
variable {B : MO} {rest : Sto} {o : MO} {ys zs : List PV}
theorem get_end : (B :: (rest ++ [o]))[rest.length + 1]? = some o := by simp
theorem rcv_end : rcv "list" (.ref (rest.length + 1)) (B :: (rest ++ [.lst ys])) = true := by
  simp [rcv, asS, asL, get_end]
theorem asL_end : asL (B :: (rest ++ [.lst ys])) (.ref (rest.length + 1)) = some ys := by
  simp [asL, get_end]
theorem set_end {o' : MO} : (B :: (rest ++ [o])).set (rest.length + 1) o' = B :: (rest ++ [o']) := by simp
theorem lenD_end : oLenD [.ref (rest.length + 1)] (B :: (rest ++ [.lst ys])) = some (.int ys.length) := by
  have e : dictOf (B :: (rest ++ [.lst ys])) (.ref (rest.length + 1)) = none := by simp only [dictOf, get_end]
  simp only [oLenD, e, oLen, asQ, asT, asS, asL_end]
theorem ext_end : oExtend (.ref (rest.length + 1)) [.lst zs] (B :: (rest ++ [.lst ys])) = if ys.length + zs.length ≤ sizeLine then some (.non, B :: (rest ++ [.lst (ys ++ zs)])) else none := by
  have h : asL (B :: (rest ++ [.lst ys])) (.lst zs) = some zs := rfl
  simp [oExtend, get_end, h]
theorem app_end {v : PV} : oAppend (.ref (rest.length + 1)) [v] (B :: (rest ++ [.lst ys])) = if ys.length < sizeLine then some (.non, B :: (rest ++ [.lst (ys ++ [v])])) else none := by
  simp [oAppend, get_end]
theorem ins_end {v : PV} {i : Int} : oInsert (.ref (rest.length + 1)) [.int i, v] (B :: (rest ++ [.lst ys])) = if ys.length < sizeLine ∧ 0 ≤ i ∧ i < 2 ^ 63 then some (.non, B :: (rest ++ [.lst (ys.take i.toNat ++ [v] ++ ys.drop i.toNat)])) else none := by
  simp [oInsert, get_end]
theorem it_end : mItOf (.ref (rest.length + 1)) (B :: (rest ++ [.lst ys])) = some ⟨ys, some (.lst (rest.length + 1))⟩ := by
  simp only [mItOf, get_end]
theorem bag_pure (h : BagO B) : B.pure = true := by
  obtain ⟨a, b, c, cells, rfl, _⟩ := h
  have e : ∀ l : List Int, PV.pureL (l.map .int) = true := fun l => by
    induction l with
    | nil => rfl
    | cons x l ih => simp only [List.map_cons, PV.pureL, ih, PV.pure, Bool.and_self]
  simp only [MO.pure, PV.pureL, PV.pure, e, Bool.and_self]
theorem closed_end {B' : MO} {more : Sto} (hB : BagO B') : Closed (B :: rest) (B' :: (rest ++ more)) := by
  intro i hi
  cases i with
  | zero => exact .inr ⟨B', rfl, bag_pure hB⟩
  | succ i =>
    left
    simp only [List.getElem?_cons_succ]
    rw [List.getElem?_append_left (by simpa using hi)]
theorem frz_end (h : PV.pureL ys = true) : frz (rest.length + 1) (B :: (rest ++ [.lst ys])) (.ref (rest.length + 1)) = some (.lst ys) := by
  have : ¬ rest.length + 1 < rest.length + 1 := by omega
  simp only [frz, if_neg this, get_end, h, if_true]
theorem frz_pure {n : Nat} {s : Sto} {v : PV} (h : v.pure = true) : frz n s v = some v := by
  cases v with
  | ref i => simp [PV.pure] at h
  | _ => simp only [frz, h, if_true]
theorem take_end {B' : MO} {more : Sto} : (B' :: (rest ++ more)).take (rest.length + 1) = B' :: rest := by simp
theorem pureL_mem : ∀ {xs : List PV}, PV.pureL xs = true ↔ ∀ x ∈ xs, x.pure = true
  | [] => by simp [PV.pureL]
  | x :: xs => by simp [PV.pureL, pureL_mem (xs := xs)]
end
/-! ### things in a drawn order -/
theorem k_mixed {B : MO} {rest : Sto} {xs : List PV} (hB : BagO B) (hp : PV.pureL xs = true) (hl : xs.length ≤ 100) : OkF f__law_mixed [.ref 0, .lst xs] (B :: rest) fun v s => ∃ ys B', v = .lst ys ∧ ys.Perm xs ∧ s = B' :: rest ∧ BagO B' := by
  refine of_defT (of_defN rfl ?_)
  simp only [b__law_mixed, os_seq, os_skip, os_brk, os_cont, os_retN, os_drop, os_ret, os_retA, os_set, os_setA, os_if, os_asg, os_par, os_aug, os_put, os_augP, os_for, ok_var, ok_c, ok_nil, ok_cons, ok_tup, ok_lst, ok_new, ok_tst, ok_andT, ok_orT, ok_notT, ok_and, ok_or, ok_not, ok_if, ok_op, ok_un, ok_cl, ok_clF, ok_call, ok_mk, ok_noPart, ok_part, ok_cut, ok_mt, ok_chain, ok_it, ok_range1, ok_range2, ok_lc, ok_yes, out_some, out_none, out_add, out_sub, out_neg, out_le, out_gt, out_ge, out_lt, out_eqI, out_neI, out_int, out_abs, out_gcd, List.map_cons, List.map_nil, List.length_cons, List.length_nil, List.replicate, List.cons_append, List.nil_append, List.append_nil, List.getElem?_cons_zero, List.getElem?_cons_succ, List.set_cons_zero, List.set_cons_succ, PV.bl.injEq, PV.int.injEq, PV.str.injEq, exists_eq_left', exists_eq_left, and_true, true_and, if_true, if_false, Bool.false_eq_true, Bool.true_eq_false, decide_eq_true_eq, Nat.sub_self, Nat.reduceAdd, Nat.reduceSub, Nat.reduceLeDiff, List.cons.injEq, it_l, List.cons_append]
  refine ⟨Nat.zero_le _, ?_⟩
  refine for_inv (fun k e s => ∃ B' ys x3, e = [some (.ref 0), some (.lst xs), some (.ref (rest.length + 1)), x3] ∧ s = B' :: (rest ++ [.lst ys]) ∧ BagO B' ∧ ys.Perm (xs.take k)) xs xs 0 _ _ ?_ ?_ ⟨B, [], none, rfl, rfl, hB, by simp⟩
  · rintro j x e s hx ⟨B', ys, x3, rfl, rfl, hB', hy⟩
    have hj : j < xs.length := (List.getElem?_eq_some_iff.mp hx).1
    have hly : ys.length = j := by rw [hy.length_eq, List.length_take]; omega
    simp only [os_seq, os_skip, os_brk, os_cont, os_retN, os_drop, os_ret, os_retA, os_set, os_setA, os_if, os_asg, os_par, os_aug, os_put, os_augP, os_for, ok_var, ok_c, ok_nil, ok_cons, ok_tup, ok_lst, ok_new, ok_tst, ok_andT, ok_orT, ok_notT, ok_and, ok_or, ok_not, ok_if, ok_op, ok_un, ok_cl, ok_clF, ok_call, ok_mk, ok_noPart, ok_part, ok_cut, ok_mt, ok_chain, ok_it, ok_range1, ok_range2, ok_lc, ok_yes, out_some, out_none, out_add, out_sub, out_neg, out_le, out_gt, out_ge, out_lt, out_eqI, out_neI, out_int, out_abs, out_gcd, List.map_cons, List.map_nil, List.length_cons, List.length_nil, List.replicate, List.cons_append, List.nil_append, List.append_nil, List.getElem?_cons_zero, List.getElem?_cons_succ, List.set_cons_zero, List.set_cons_succ, PV.bl.injEq, PV.int.injEq, PV.str.injEq, exists_eq_left', exists_eq_left, and_true, true_and, if_true, if_false, Bool.false_eq_true, Bool.true_eq_false, decide_eq_true_eq, Nat.sub_self, Nat.reduceAdd, Nat.reduceSub, Nat.reduceLeDiff, List.cons.injEq, rcv_end, lenD_end]
    refine (k_take hB' (by omega) (by exact_mod_cast logOk_small (n := ys.length + 1) (by omega))).imp fun v s h => ?_
    obtain ⟨i, B2, rfl, rfl, hB2, g0, g1⟩ := h
    simp only [ins_end, out_iff1, out_some]
    refine ⟨⟨(sl' (by omega)).mpr trivial, g0, by omega⟩, B2, _, rfl, hB2, ?_⟩
    rw [Nat.zero_add] at hy ⊢
    rw [List.take_succ, hx]
    refine List.Perm.trans ?_ (hy.append_right [x])
    have : (ys.take i.toNat ++ [x] ++ ys.drop i.toNat).Perm (ys.take i.toNat ++ ys.drop i.toNat ++ [x]) := by
      rw [List.append_assoc, List.append_assoc]
      exact List.Perm.append_left _ List.perm_append_comm
    rw [List.take_append_drop] at this
    exact this
  · rintro e s ⟨B', ys, x3, rfl, rfl, hB', hy⟩
    simp only [os_seq, os_skip, os_brk, os_cont, os_retN, os_drop, os_ret, os_retA, os_set, os_setA, os_if, os_asg, os_par, os_aug, os_put, os_augP, os_for, ok_var, ok_c, ok_nil, ok_cons, ok_tup, ok_lst, ok_new, ok_tst, ok_andT, ok_orT, ok_notT, ok_and, ok_or, ok_not, ok_if, ok_op, ok_un, ok_cl, ok_clF, ok_call, ok_mk, ok_noPart, ok_part, ok_cut, ok_mt, ok_chain, ok_it, ok_range1, ok_range2, ok_lc, ok_yes, out_some, out_none, out_add, out_sub, out_neg, out_le, out_gt, out_ge, out_lt, out_eqI, out_neI, out_int, out_abs, out_gcd, List.map_cons, List.map_nil, List.length_cons, List.length_nil, List.replicate, List.cons_append, List.nil_append, List.append_nil, List.getElem?_cons_zero, List.getElem?_cons_succ, List.set_cons_zero, List.set_cons_succ, PV.bl.injEq, PV.int.injEq, PV.str.injEq, exists_eq_left', exists_eq_left, and_true, true_and, if_true, if_false, Bool.false_eq_true, Bool.true_eq_false, decide_eq_true_eq, Nat.sub_self, Nat.reduceAdd, Nat.reduceSub, Nat.reduceLeDiff, List.cons.injEq]
    rw [Nat.zero_add, List.take_length] at hy
    have hpy : PV.pureL ys = true := pureL_mem.mpr fun x hx => pureL_mem.mp hp x (hy.mem_iff.mp hx)
    refine ⟨closed_end hB', ?_⟩
    rw [frz_end hpy, out_some]
    exact ⟨ys, B', rfl, hy, take_end, hB'⟩
end Ge

/-! Ge2: names, parties, new names (plain). -/
namespace Ge
open PySem PySem.Spec PyProof.Rows L2 Mi
/-! ### names, rows of them -/
def Nmk (z : Str) : Prop := 1 ≤ z.length ∧ z.length ≤ 8 ∧ ∀ c ∈ z.cps.toList, 97 ≤ c ∧ c ≤ 122
instance (z : Str) : Decidable (Nmk z) := inferInstanceAs (Decidable (_ ∧ _))
theorem Nmk.line {z : Str} (h : Nmk z) : z.length ≤ sizeLine := small_line (by have := h.2.1; omega)
/-- rising, without any twice -/
def Srt (zs : List Str) : Prop := zs.Pairwise fun a b => leS a b = true ∧ a ≠ b
theorem Srt.nodup {zs : List Str} (h : Srt zs) : zs.Nodup := List.Pairwise.imp (fun h => h.2) h
theorem srt_sort {zs : List Str} (h : zs.Nodup) : Srt (sortS zs) := List.Pairwise.and (sortS_pw zs) ((sortS_perm zs).nodup_iff.mpr h)
theorem sort_mem {zs : List Str} {z : Str} : z ∈ sortS zs ↔ z ∈ zs := (sortS_perm zs).mem_iff
theorem sort_len (zs : List Str) : (sortS zs).length = zs.length := (sortS_perm zs).length_eq
theorem srt_eq {ys zs : List Str} (h : Srt ys) (p : ys.Perm zs) : sortS zs = ys := by
  refine List.Perm.eq_of_pairwise (le := fun a b => leS a b = true) (fun a b _ _ h1 h2 => leS_anti h1 h2) (sortS_pw zs) (List.Pairwise.imp (fun h => h.1) h) ((sortS_perm zs).trans p.symm)
def unS : PV → Option Str
  | .str z => some z
  | _ => none
theorem unS_map : ∀ zs : List Str, (zs.map PV.str).filterMap unS = zs
  | [] => rfl
  | z :: zs => by simp only [List.map_cons, List.filterMap_cons, unS, unS_map zs]
theorem perm_strs {ys : List PV} {zs : List Str} (h : ys.Perm (zs.map .str)) : ∃ us : List Str, ys = us.map .str ∧ us.Perm zs := by
  refine ⟨ys.filterMap unS, ?_, by simpa only [unS_map] using h.filterMap unS⟩
  have hy : ∀ y ∈ ys, ∃ z, y = PV.str z := fun y hy => by
    obtain ⟨z, _, e⟩ := List.mem_map.mp (h.mem_iff.mp hy)
    exact ⟨z, e.symm⟩
  clear h
  induction ys with
  | nil => rfl
  | cons y ys ih =>
    obtain ⟨z, rfl⟩ := hy y List.mem_cons_self
    simp only [List.filterMap_cons, unS, List.map_cons]
    rw [← ih fun y h => hy y (List.mem_cons_of_mem _ h)]
theorem pure_strs (zs : List Str) : PV.pureL (zs.map .str) = true := pureL_mem.mpr fun x hx => by
  obtain ⟨z, _, rfl⟩ := List.mem_map.mp hx
  rfl
theorem cutP_hi {xs : List PV} {j : Int} (h : 0 ≤ j) : cutP xs none (some j) = xs.take j.toNat := by
  unfold cutP HT.sIx
  simp only [List.drop_zero, if_neg (show ¬ j < 0 by omega), Nat.sub_zero]
  rw [Nat.min_def]
  split
  · rfl
  · rw [List.take_of_length_le (by omega), List.take_of_length_le (by omega)]
theorem okS_of {zs : List Str} (h : zs.length < 64) (hz : ∀ z ∈ zs, z.length ≤ sizeLine) : okS zs = true := by
  simp only [okS, Bool.and_eq_true, decide_eq_true_eq, List.all_eq_true]
  exact ⟨h, hz⟩
theorem sorted_l {zs : List Str} {st : Sto} (h : zs.length < 64) (hz : ∀ z ∈ zs, z.length ≤ sizeLine) : oSorted [.lst (zs.map .str)] st = some ((sortS zs).map .str) := by
  have e : asS st (.lst (zs.map .str)) = some (zs.map .str) := rfl
  simp only [oSorted, dictOf, e, strsOf_map, okS_of h hz, if_true]
theorem tuple_l {xs : List PV} {st : Sto} : oTuple [.lst xs] st = some (.tup xs) := rfl
theorem cut_l' {xs : List PV} {lo hi : Option Int} {st : Sto} : oCut (.lst xs) lo hi st = some (.lst (cutP xs lo hi)) := rfl
/-- a drawn lot of some names: the defs' way to write it -/
theorem lot_of {B : MO} {rest : Sto} {zs us : List Str} {i : Int} (hn : zs.Nodup) (hu : us.Perm zs) (h0 : zs ≠ []) (h1 : 0 ≤ i) :
    Srt (sortS (us.take (1 + i).toNat)) ∧ sortS (us.take (1 + i).toNat) ≠ [] ∧ (∀ z ∈ sortS (us.take (1 + i).toNat), z ∈ zs) ∧ (sortS (us.take (1 + i).toNat)).length ≤ (1 + i).toNat := by
  refine ⟨srt_sort ((List.take_sublist _ _).nodup (hu.nodup_iff.mpr hn)), fun e => ?_, fun z hz => hu.mem_iff.mp (List.mem_of_mem_take (sort_mem.mp hz)), by rw [sort_len, List.length_take]; omega⟩
  have := congrArg List.length e
  have hl := hu.length_eq
  have hp := List.length_pos_iff.mpr h0
  rw [sort_len, List.length_take, List.length_nil] at this
  omega
def namesA : List Str := ["a", "b", "c", "d", "e", "f"]
def namesB : List Str := ["agent", "bank", "buyer", "notary", "seller", "town"]
/-- rows of parties -/
structure Pts (ps : List Str) : Prop where
  srt : Srt ps
  ne : ps ≠ []
  len : ps.length ≤ 6
  nm : ∀ p ∈ ps, Nmk p
theorem k_parties {B : MO} {rest : Sto} {m : Int} (hB : BagO B) (h0 : 0 < m) (h1 : m ≤ 6) : OkF f__law_parties [.ref 0, .int m] (B :: rest) fun v s => ∃ ps B', v = .tup (ps.map .str) ∧ Pts ps ∧ ps.length ≤ m.toNat ∧ s = B' :: rest ∧ BagO B' := by
  refine of_defN rfl ?_
  simp only [b__law_parties, os_seq, os_skip, os_brk, os_cont, os_retN, os_drop, os_ret, os_retA, os_set, os_setA, os_if, os_asg, os_par, os_aug, os_put, os_augP, os_for, ok_var, ok_c, ok_nil, ok_cons, ok_tup, ok_lst, ok_new, ok_tst, ok_andT, ok_orT, ok_notT, ok_and, ok_or, ok_not, ok_if, ok_op, ok_un, ok_cl, ok_clF, ok_call, ok_mk, ok_noPart, ok_part, ok_cut, ok_mt, ok_chain, ok_it, ok_range1, ok_range2, ok_lc, ok_yes, out_some, out_none, out_add, out_sub, out_neg, out_le, out_gt, out_ge, out_lt, out_eqI, out_neI, out_int, out_abs, out_gcd, List.map_cons, List.map_nil, List.length_cons, List.length_nil, List.replicate, List.cons_append, List.nil_append, List.append_nil, List.getElem?_cons_zero, List.getElem?_cons_succ, List.set_cons_zero, List.set_cons_succ, PV.bl.injEq, PV.int.injEq, PV.str.injEq, exists_eq_left', exists_eq_left, and_true, true_and, if_true, if_false, Bool.false_eq_true, Bool.true_eq_false, decide_eq_true_eq, Nat.sub_self, Nat.reduceAdd, Nat.reduceSub, Nat.reduceLeDiff, List.cons.injEq, sl (show 6 ≤ 1000 by decide), sl (show 2 ≤ 1000 by decide)]
  refine (some_lst hB (by simp) (by simp)).imp fun v s h => ?_
  obtain ⟨B1, hv, rfl, hB1⟩ := h
  have hv' : ∃ zs : List Str, v = .lst (zs.map .str) ∧ zs.Nodup ∧ zs.length = 6 ∧ ∀ z ∈ zs, Nmk z := by
    simp only [List.mem_cons, List.not_mem_nil, or_false] at hv
    rcases hv with rfl | rfl
    · exact ⟨namesA, rfl, by decide +kernel, rfl, by decide +kernel⟩
    · exact ⟨namesB, rfl, by decide +kernel, rfl, by decide +kernel⟩
  obtain ⟨zs, rfl, hn, hl, hk⟩ := hv'
  refine (k_mixed hB1 (pure_strs zs) (by simp; omega)).imp fun v s h => ?_
  obtain ⟨ys, B2, rfl, hy, rfl, hB2⟩ := h
  obtain ⟨us, rfl, hu⟩ := perm_strs hy
  refine (k_take hB2 h0 (logOk_lt (k := 5) (by omega) (by decide))).imp fun v s h => ?_
  obtain ⟨i, B3, rfl, rfl, hB3, g0, g1⟩ := h
  simp only [os_seq, os_skip, os_brk, os_cont, os_retN, os_drop, os_ret, os_retA, os_set, os_setA, os_if, os_asg, os_par, os_aug, os_put, os_augP, os_for, ok_var, ok_c, ok_nil, ok_cons, ok_tup, ok_lst, ok_new, ok_tst, ok_andT, ok_orT, ok_notT, ok_and, ok_or, ok_not, ok_if, ok_op, ok_un, ok_cl, ok_clF, ok_call, ok_mk, ok_noPart, ok_part, ok_cut, ok_mt, ok_chain, ok_it, ok_range1, ok_range2, ok_lc, ok_yes, out_some, out_none, out_add, out_sub, out_neg, out_le, out_gt, out_ge, out_lt, out_eqI, out_neI, out_int, out_abs, out_gcd, List.map_cons, List.map_nil, List.length_cons, List.length_nil, List.replicate, List.cons_append, List.nil_append, List.append_nil, List.getElem?_cons_zero, List.getElem?_cons_succ, List.set_cons_zero, List.set_cons_succ, PV.bl.injEq, PV.int.injEq, PV.str.injEq, exists_eq_left', exists_eq_left, and_true, true_and, if_true, if_false, Bool.false_eq_true, Bool.true_eq_false, decide_eq_true_eq, Nat.sub_self, Nat.reduceAdd, Nat.reduceSub, Nat.reduceLeDiff, List.cons.injEq, cut_l', out_some]
  rw [cutP_hi (by omega), ← List.map_take]
  have hle : (us.take (1 + i).toNat).length ≤ 6 := by rw [List.length_take, hu.length_eq, hl]; omega
  rw [sorted_l (by omega) fun z hz => (hk z (hu.mem_iff.mp (List.mem_of_mem_take hz))).line, out_some, tuple_l, out_some]
  obtain ⟨a1, a2, a3, a4⟩ := lot_of (B := B) (rest := rest) hn hu (fun e => by rw [e] at hl; simp at hl) g0
  refine ⟨_, B3, rfl, ⟨a1, a2, by rw [sort_len]; exact hle, fun p hp => hk p (a3 p hp)⟩, by omega, rfl, hB3⟩
/-! ### new names -/
def sylA : List Str := ["k", "b", "z", "m", "g"]
def sylB : List Str := ["a", "o", "u", "ix", ""]
def names25 : List Str := sylA.flatMap fun a => sylB.map (a ++ ·)
theorem names_nodup : names25.Nodup := by decide +kernel
theorem names_nm : ∀ z ∈ names25, Nmk z := by decide +kernel
theorem names_ne : ∀ z ∈ names25, z ≠ "first" ∧ z ≠ "last" := by decide +kernel
theorem dataPL_strs : ∀ zs : List Str, dataPL (zs.map .str) = some (zs.map .str)
  | [] => rfl
  | z :: zs => by simp only [List.map_cons, dataPL, dataP, dataPL_strs zs]
theorem eqv_str {a b : Str} : PyData.eqv (.str a) (.str b) = decide (a = b) := by
  simp only [PyData.eqv]
  by_cases h : a = b <;> simp [h]
theorem any_str {zs : List Str} {a : Str} : ((zs.map PyData.str).any fun z => PyData.eqv z (.str a)) = decide (a ∈ zs) := by
  rw [List.any_map]
  induction zs with
  | nil => rfl
  | cons z zs ih =>
    rw [List.any_cons, ih]
    simp only [Function.comp, eqv_str]
    by_cases h : z = a
    · simp [h]
    · have hz : (a = z) = False := eq_false fun e => h e.symm
      simp [h, hz]
theorem inB_l {zs : List Str} {a : Str} {st : Sto} : oInB (.str a) (.lst (zs.map .str)) st = some (decide (a ∈ zs)) := by
  have e1 : dataV st (.str a) = some (.str a) := rfl
  have e2 : dataV st (.lst (zs.map .str)) = some (.list (zs.map .str)) := by
    show (dataPL _).map _ = _
    rw [dataPL_strs]; rfl
  have e3 : deep64 (.str a) = true := rfl
  simp only [oInB, e1, e2, e3, if_true, any_str]
theorem inB_t {zs : List Str} {a : Str} {st : Sto} : oInB (.str a) (.tup (zs.map .str)) st = some (decide (a ∈ zs)) := by
  have e1 : dataV st (.str a) = some (.str a) := rfl
  have e2 : dataV st (.tup (zs.map .str)) = some (.tuple (zs.map .str)) := by
    show (dataPL _).map _ = _
    rw [dataPL_strs]; rfl
  have e3 : deep64 (.str a) = true := rfl
  simp only [oInB, e1, e2, e3, if_true, any_str]
theorem in_l {zs : List Str} {a : Str} {st : Sto} : oInD (.str a) (.lst (zs.map .str)) st = some (.bl (decide (a ∈ zs))) := by
  show (oInB _ _ _).map _ = _
  rw [inB_l]; rfl
theorem in_t {zs : List Str} {a : Str} {st : Sto} : oInD (.str a) (.tup (zs.map .str)) st = some (.bl (decide (a ∈ zs))) := by
  show (oInB _ _ _).map _ = _
  rw [inB_t]; rfl
theorem notin_l {zs : List Str} {a : Str} {st : Sto} : oNotInD (.str a) (.lst (zs.map .str)) st = some (.bl (!decide (a ∈ zs))) := by
  show (oInB _ _ _).map _ = _
  rw [inB_l]; rfl
theorem notin_t {zs : List Str} {a : Str} {st : Sto} : oNotInD (.str a) (.tup (zs.map .str)) st = some (.bl (!decide (a ∈ zs))) := by
  show (oInB _ _ _).map _ = _
  rw [inB_t]; rfl
theorem eqB_nil {xs : List PV} {st : Sto} : oEqB (.lst xs) (.lst []) st = some (decide (xs = [])) := by
  cases xs with
  | nil => rfl
  | cons x xs =>
    have e : unlike st (.lst (x :: xs)) (.lst []) = true := by simp [unlike, asS, asL]
    simp [oEqB, e]
theorem eq_nil {xs : List PV} {st : Sto} : oEq (.lst xs) (.lst []) st = some (.bl (decide (xs = []))) := by
  unfold oEq; rw [eqB_nil]; rfl
theorem ne_nil {xs : List PV} {st : Sto} : oNe (.lst xs) (.lst []) st = some (.bl (!decide (xs = []))) := by
  unfold oNe; rw [eqB_nil]; rfl
theorem eqB_str {a b : Str} {st : Sto} : oEqB (.str a) (.str b) st = some (decide (a = b)) := by
  simp [oEqB, unlike, asS, asL, dataV, dataP, deep64, PyData.depth, eqv_str]
theorem eq_str {a b : Str} {st : Sto} : oEq (.str a) (.str b) st = some (.bl (decide (a = b))) := by
  unfold oEq; rw [eqB_str]; rfl
theorem ne_str {a b : Str} {st : Sto} : oNe (.str a) (.str b) st = some (.bl (!decide (a = b))) := by
  unfold oNe; rw [eqB_str]; rfl
theorem add_str {a b : Str} {st : Sto} : oAdd (.str a) (.str b) st = if a.length + b.length ≤ sizeLine then some (.str (a ++ b)) else none := rfl
theorem free_ne {ks : List Str} (h : ks.length ≤ 24) : (names25.filter fun z => !decide (z ∈ ks)) ≠ [] := by
  intro e
  have : names25.length ≤ ks.length := nodup_len names_nodup fun z hz => by
    by_cases g : z ∈ ks
    · exact g
    · exfalso
      have hm : z ∈ names25.filter fun z => !decide (z ∈ ks) := List.mem_filter.mpr ⟨hz, by simp [g]⟩
      rw [e] at hm
      simp at hm
  have h25 : names25.length = 25 := by decide +kernel
  omega
theorem k_new_name {B : MO} {rest : Sto} {ks : List Str} (hB : BagO B) (hl : ks.length ≤ 24) : OkF f__law_new_name [.ref 0, .lst (ks.map .str)] (B :: rest) fun v s => ∃ z B', v = .str z ∧ z ∈ names25 ∧ z ∉ ks ∧ s = B' :: rest ∧ BagO B' := by
  refine of_defT (of_defN rfl ?_)
  simp only [b__law_new_name, os_seq, os_skip, os_brk, os_cont, os_retN, os_drop, os_ret, os_retA, os_set, os_setA, os_if, os_asg, os_par, os_aug, os_put, os_augP, os_for, ok_var, ok_c, ok_nil, ok_cons, ok_tup, ok_lst, ok_new, ok_tst, ok_andT, ok_orT, ok_notT, ok_and, ok_or, ok_not, ok_if, ok_op, ok_un, ok_cl, ok_clF, ok_call, ok_mk, ok_noPart, ok_part, ok_cut, ok_mt, ok_chain, ok_it, ok_range1, ok_range2, ok_lc, ok_yes, out_some, out_none, out_add, out_sub, out_neg, out_le, out_gt, out_ge, out_lt, out_eqI, out_neI, out_int, out_abs, out_gcd, List.map_cons, List.map_nil, List.length_cons, List.length_nil, List.replicate, List.cons_append, List.nil_append, List.append_nil, List.getElem?_cons_zero, List.getElem?_cons_succ, List.set_cons_zero, List.set_cons_succ, PV.bl.injEq, PV.int.injEq, PV.str.injEq, exists_eq_left', exists_eq_left, and_true, true_and, if_true, if_false, Bool.false_eq_true, Bool.true_eq_false, decide_eq_true_eq, Nat.sub_self, Nat.reduceAdd, Nat.reduceSub, Nat.reduceLeDiff, List.cons.injEq, it_l, List.cons_append, sl (show 5 ≤ 1000 by decide)]
  refine ⟨Nat.zero_le _, ?_⟩
  refine for_inv (fun k e s => ∃ x3, e = [some (.ref 0), some (.lst (ks.map .str)), some (.ref (rest.length + 1)), x3, none, none, none] ∧ s = B :: (rest ++ [.lst (((sylA.take k).flatMap fun a => sylB.map (a ++ ·)).map .str)])) (sylA.map .str) (sylA.map .str) 0 _ _ ?_ ?_ ⟨none, rfl, rfl⟩
  · rintro j x e s hx ⟨x3, rfl, rfl⟩
    rw [List.getElem?_map, Option.map_eq_some_iff] at hx
    obtain ⟨a, ha, rfl⟩ := hx
    rw [Nat.zero_add] at *
    simp only [os_seq, os_skip, os_brk, os_cont, os_retN, os_drop, os_ret, os_retA, os_set, os_setA, os_if, os_asg, os_par, os_aug, os_put, os_augP, os_for, ok_var, ok_c, ok_nil, ok_cons, ok_tup, ok_lst, ok_new, ok_tst, ok_andT, ok_orT, ok_notT, ok_and, ok_or, ok_not, ok_if, ok_op, ok_un, ok_cl, ok_clF, ok_call, ok_mk, ok_noPart, ok_part, ok_cut, ok_mt, ok_chain, ok_it, ok_range1, ok_range2, ok_lc, ok_yes, out_some, out_none, out_add, out_sub, out_neg, out_le, out_gt, out_ge, out_lt, out_eqI, out_neI, out_int, out_abs, out_gcd, List.map_cons, List.map_nil, List.length_cons, List.length_nil, List.replicate, List.cons_append, List.nil_append, List.append_nil, List.getElem?_cons_zero, List.getElem?_cons_succ, List.set_cons_zero, List.set_cons_succ, PV.bl.injEq, PV.int.injEq, PV.str.injEq, exists_eq_left', exists_eq_left, and_true, true_and, if_true, if_false, Bool.false_eq_true, Bool.true_eq_false, decide_eq_true_eq, Nat.sub_self, Nat.reduceAdd, Nat.reduceSub, Nat.reduceLeDiff, List.cons.injEq, rcv_end, wipeM, it_l, sl (show 5 ≤ 1000 by decide)]
    have hc : ∀ st, compL (.nm 5) ⟨sylB.map .str, none⟩ mYes (mOp oAdd (mVar 3) (mVar 5)) (sylB.map .str) [some (.ref 0), some (.lst (ks.map .str)), some (.ref (rest.length + 1)), some (.str a), none, none, none] st = some (((sylB.map (a ++ ·)).map .str), st) := fun st => by
      have := comp_map (i := 5) (c := mYes) (el := mOp oAdd (mVar 3) (mVar 5)) (env := [some (.ref 0), some (.lst (ks.map .str)), some (.ref (rest.length + 1)), some (.str a), none, none, none]) (st := st) (p := fun _ => true) (g := fun x => match x with | .str b => .str (a ++ b) | x => x) (sylB.map .str) (sylB.map .str) fun x hx => ⟨rfl, fun _ => by
        obtain ⟨b, hb, rfl⟩ := List.mem_map.mp hx
        have hlen : a.length + b.length ≤ sizeLine := small_line (by
          have h1 : ∀ a ∈ sylA, a.length ≤ 2 := by decide +kernel
          have h2 : ∀ b ∈ sylB, b.length ≤ 2 := by decide +kernel
          have := h1 a (List.mem_of_getElem? ha)
          have := h2 b hb
          omega)
        show ((oAdd (.str a) (.str b) st).map fun z => Res.ok z st) = _
        rw [add_str, if_pos hlen]
        rfl⟩
      rw [this]
      have hf : (sylB.map PV.str).filter (fun _ => true) = sylB.map .str := by simp
      rw [hf, List.map_map, List.map_map]
      rfl
    have e5 : ([PV.str "a", PV.str "o", PV.str "u", PV.str "ix", PV.str ""] : List PV) = sylB.map .str := rfl
    rw [e5, hc, out_some]
    have hlt : ((sylA.take j).flatMap fun a => sylB.map (a ++ ·)).length ≤ 25 := by
      rw [List.length_flatMap]
      have : ∀ l : List Str, ((l.map fun a => (sylB.map (a ++ ·)).length)).sum = 5 * l.length := fun l => by
        induction l with
        | nil => rfl
        | cons x l ih =>
          rw [List.map_cons, List.sum_cons, ih, List.length_map, List.length_cons]
          show 5 + _ = _
          omega
      rw [this, List.length_take]
      show 5 * min j 5 ≤ 25
      omega
    simp only [ext_end, out_iff1, out_some]
    refine ⟨small_line (by rw [List.length_map, List.length_map, List.length_map]; have : sylB.length = 5 := rfl; omega), ?_⟩
    rw [List.take_succ, ha, ← List.map_append]
    simp
  · rintro e s ⟨x3, rfl, rfl⟩
    have hT : (List.flatMap (fun a => sylB.map (a ++ ·)) (sylA.take (0 + (sylA.map PV.str).length))) = names25 := rfl
    rw [hT]
    simp only [os_seq, os_skip, os_brk, os_cont, os_retN, os_drop, os_ret, os_retA, os_set, os_setA, os_if, os_asg, os_par, os_aug, os_put, os_augP, os_for, ok_var, ok_c, ok_nil, ok_cons, ok_tup, ok_lst, ok_new, ok_tst, ok_andT, ok_orT, ok_notT, ok_and, ok_or, ok_not, ok_if, ok_op, ok_un, ok_cl, ok_clF, ok_call, ok_mk, ok_noPart, ok_part, ok_cut, ok_mt, ok_chain, ok_it, ok_range1, ok_range2, ok_lc, ok_yes, out_some, out_none, out_add, out_sub, out_neg, out_le, out_gt, out_ge, out_lt, out_eqI, out_neI, out_int, out_abs, out_gcd, List.map_cons, List.map_nil, List.length_cons, List.length_nil, List.replicate, List.cons_append, List.nil_append, List.append_nil, List.getElem?_cons_zero, List.getElem?_cons_succ, List.set_cons_zero, List.set_cons_succ, PV.bl.injEq, PV.int.injEq, PV.str.injEq, exists_eq_left', exists_eq_left, and_true, true_and, if_true, if_false, Bool.false_eq_true, Bool.true_eq_false, decide_eq_true_eq, Nat.sub_self, Nat.reduceAdd, Nat.reduceSub, Nat.reduceLeDiff, List.cons.injEq, wipeM, it_end]
    rw [comp_strs (p := fun z => !decide (z ∈ ks)) (g := .str) (chk_lst get_end) names25 fun z _ => ⟨ok_eq (by simp only [os_seq, os_skip, os_brk, os_cont, os_retN, os_drop, os_ret, os_retA, os_set, os_setA, os_if, os_asg, os_par, os_aug, os_put, os_augP, os_for, ok_var, ok_c, ok_nil, ok_cons, ok_tup, ok_lst, ok_new, ok_tst, ok_andT, ok_orT, ok_notT, ok_and, ok_or, ok_not, ok_if, ok_op, ok_un, ok_cl, ok_clF, ok_call, ok_mk, ok_noPart, ok_part, ok_cut, ok_mt, ok_chain, ok_it, ok_range1, ok_range2, ok_lc, ok_yes, out_some, out_none, out_add, out_sub, out_neg, out_le, out_gt, out_ge, out_lt, out_eqI, out_neI, out_int, out_abs, out_gcd, List.map_cons, List.map_nil, List.length_cons, List.length_nil, List.replicate, List.cons_append, List.nil_append, List.append_nil, List.getElem?_cons_zero, List.getElem?_cons_succ, List.set_cons_zero, List.set_cons_succ, PV.bl.injEq, PV.int.injEq, PV.str.injEq, exists_eq_left', exists_eq_left, and_true, true_and, if_true, if_false, Bool.false_eq_true, Bool.true_eq_false, decide_eq_true_eq, Nat.sub_self, Nat.reduceAdd, Nat.reduceSub, Nat.reduceLeDiff, List.cons.injEq, notin_l]), fun _ => ok_eq (by simp only [os_seq, os_skip, os_brk, os_cont, os_retN, os_drop, os_ret, os_retA, os_set, os_setA, os_if, os_asg, os_par, os_aug, os_put, os_augP, os_for, ok_var, ok_c, ok_nil, ok_cons, ok_tup, ok_lst, ok_new, ok_tst, ok_andT, ok_orT, ok_notT, ok_and, ok_or, ok_not, ok_if, ok_op, ok_un, ok_cl, ok_clF, ok_call, ok_mk, ok_noPart, ok_part, ok_cut, ok_mt, ok_chain, ok_it, ok_range1, ok_range2, ok_lc, ok_yes, out_some, out_none, out_add, out_sub, out_neg, out_le, out_gt, out_ge, out_lt, out_eqI, out_neI, out_int, out_abs, out_gcd, List.map_cons, List.map_nil, List.length_cons, List.length_nil, List.replicate, List.cons_append, List.nil_append, List.append_nil, List.getElem?_cons_zero, List.getElem?_cons_succ, List.set_cons_zero, List.set_cons_succ, PV.bl.injEq, PV.int.injEq, PV.str.injEq, exists_eq_left', exists_eq_left, and_true, true_and, if_true, if_false, Bool.false_eq_true, Bool.true_eq_false, decide_eq_true_eq, Nat.sub_self, Nat.reduceAdd, Nat.reduceSub, Nat.reduceLeDiff, List.cons.injEq])⟩, out_some]
    have hfr : ((names25.filter fun z => !decide (z ∈ ks)).map PV.str = []) = False := eq_false fun e => free_ne hl (List.map_eq_nil_iff.mp e)
    simp only [ne_nil, out_some, hfr, decide_false, Bool.not_false, if_true]
    refine ⟨Nat.zero_le _, true, rfl, ?_⟩
    simp only [if_true]
    refine (some_lst hB (fun e => free_ne hl (List.map_eq_nil_iff.mp e)) ?_).imp fun v s h => ?_
    · rw [List.length_map]
      have : (names25.filter fun z => !decide (z ∈ ks)).length ≤ 25 := List.length_filter_le _ _
      omega
    obtain ⟨B', hv, rfl, hB'⟩ := h
    obtain ⟨z, hz, rfl⟩ := List.mem_map.mp hv
    rw [List.mem_filter] at hz
    refine ⟨closed_end hB', ?_⟩
    rw [frz_pure rfl, out_some]
    exact ⟨z, B', rfl, hz.1, by simpa using hz.2, take_end, hB'⟩
end Ge

/-! Ge3: the store of a table of rounds, kind by kind (plain). -/
namespace Ge
open PySem PySem.Spec PyProof.Rows L2 Mi
/-- kinds of objects: the bag; what is none of ours; the table; a round's row, its results, the nexts of a result, nexts being filled -/
inductive Ty where
  | bag | oth | tab | row (z c : Str) (d : Nat) | res (z : Str) | nex (z : Str) | fil (z : Str)
  deriving DecidableEq
def Ty.solid : Ty → Bool
  | .fil _ => false
  | _ => true
/-- which lot a round has; which kind an object is -/
structure Wo where
  Γ : Str → Option (List Str)
  Θ : List Ty
def Wo.push (w : Wo) (t : Ty) : Wo := ⟨w.Γ, w.Θ ++ [t]⟩
def Wo.add (w : Wo) (z : Str) (lot : List Str) : Wo := ⟨fun x => if x = z then some lot else w.Γ x, w.Θ⟩
/-- a round in which a party is wanted -/
def Tgt (w : Wo) (n p : Str) : Prop := ∃ lot, w.Γ n = some lot ∧ p ∈ lot
def ObjOk (w : Wo) : Ty → MO → Prop
  | .bag, o => BagO o
  | .oth, _ => True
  | .tab, o => ∃ es : List (Str × Nat), o = .dic (mapD .ref es) ∧ (es.map (·.1)).Nodup ∧ es.length ≤ 40 ∧ ∀ e ∈ es, (∃ lot, w.Γ e.1 = some lot) ∧ ∃ c d, w.Θ[e.2]? = some (.row e.1 c d)
  | .row z c d, o => ∃ lot, w.Γ z = some lot ∧ o = .lst [.tup (lot.map .str), .str c, .ref d] ∧ c ∈ lot ∧ w.Θ[d]? = some (.res z)
  | .res z, o => ∃ es : List (Str × Nat), o = .dic (mapD .ref es) ∧ (es.map (·.1)).Nodup ∧ es.length ≤ 4 ∧ (∀ e ∈ es, Nmk e.1 ∧ w.Θ[e.2]? = some (.nex z)) ∧ (z = "last" → es = [])
  | .nex z, o => ∃ lot ps, w.Γ z = some lot ∧ o = .dic (mapD .str ps) ∧ (ps.map (·.1)).Perm lot ∧ ∀ e ∈ ps, Tgt w e.2 e.1
  | .fil z, o => ∃ ps, o = .dic (mapD .str ps) ∧ (ps.map (·.1)).Nodup ∧ ∀ e ∈ ps, Tgt w e.2 e.1
structure GOk (w : Wo) (ps : List Str) : Prop where
  pts : Pts ps
  lot : ∀ z lot, w.Γ z = some lot → Nmk z ∧ Srt lot ∧ lot ≠ [] ∧ ∀ p ∈ lot, p ∈ ps
  fst : w.Γ "first" = some ps
  lst : w.Γ "last" = some ps
structure Ok (w : Wo) (ps : List Str) (st : Sto) : Prop where
  g : GOk w ps
  len : w.Θ.length = st.length
  obj : ∀ (i : Nat) (t : Ty) (o : MO), w.Θ[i]? = some t → st[i]? = some o → ObjOk w t o
  bag : w.Θ[0]? = some .bag
/-- the table t has the row l for the round z -/
def EntR (st : Sto) (t : Nat) (z : Str) (l : Nat) : Prop := ∃ es : List (Str × Nat), st[t]? = some (.dic (mapD .ref es)) ∧ getA es z = some l
def HasK (st : Sto) (d : Nat) (x : Str) : Prop := ∃ es : List (Str × Nat), st[d]? = some (.dic (mapD .ref es)) ∧ x ∈ es.map (·.1)
structure Ext (w : Wo) (st : Sto) (w' : Wo) (st' : Sto) : Prop where
  gam : ∀ z lot, w.Γ z = some lot → w'.Γ z = some lot
  ty : ∀ (i : Nat) (t : Ty), w.Θ[i]? = some t → t.solid = true → w'.Θ[i]? = some t
  tab : ∀ t z l, w.Θ[t]? = some .tab → EntR st t z l → EntR st' t z l
  res : ∀ d x z, w.Θ[d]? = some (.res z) → HasK st d x → HasK st' d x
  oth : ∀ (i : Nat), w.Θ[i]? = some .oth → st'[i]? = st[i]?
theorem Ext.rfl' {w : Wo} {st : Sto} : Ext w st w st := ⟨fun _ _ h => h, fun _ _ h _ => h, fun _ _ _ _ h => h, fun _ _ _ _ h => h, fun _ _ => rfl⟩
theorem Ext.trans {w w1 w2 : Wo} {st s1 s2 : Sto} (a : Ext w st w1 s1) (b : Ext w1 s1 w2 s2) : Ext w st w2 s2 :=
  ⟨fun z l h => b.gam z l (a.gam z l h), fun i t h k => b.ty i t (a.ty i t h k) k, fun t z l h e => b.tab t z l (a.ty _ _ h rfl) (a.tab t z l h e),
   fun d x z h e => b.res d x z (a.ty _ _ h rfl) (a.res d x z h e), fun i h => (b.oth i (a.ty _ _ h rfl)).trans (a.oth i h)⟩
theorem Tgt.ext {w w' : Wo} (g : ∀ z lot, w.Γ z = some lot → w'.Γ z = some lot) {n p : Str} (h : Tgt w n p) : Tgt w' n p :=
  let ⟨lot, h1, h2⟩ := h
  ⟨lot, g _ _ h1, h2⟩
theorem ObjOk.mono {w w' : Wo} (g : ∀ z lot, w.Γ z = some lot → w'.Γ z = some lot) (ty : ∀ (i : Nat) (t : Ty), w.Θ[i]? = some t → t.solid = true → w'.Θ[i]? = some t) : ∀ {t : Ty} {o : MO}, ObjOk w t o → ObjOk w' t o := by
  intro t o h
  cases t with
  | bag => exact h
  | oth => exact h
  | tab =>
    obtain ⟨es, h1, h2, h3, h4⟩ := h
    refine ⟨es, h1, h2, h3, fun e he => ?_⟩
    obtain ⟨⟨lot, a⟩, c, d, b⟩ := h4 e he
    exact ⟨⟨lot, g _ _ a⟩, c, d, ty _ _ b rfl⟩
  | row z c d =>
    obtain ⟨lot, h1, h2, h3, h4⟩ := h
    exact ⟨lot, g _ _ h1, h2, h3, ty _ _ h4 rfl⟩
  | res z =>
    obtain ⟨es, h1, h2, h3, h4, h5⟩ := h
    exact ⟨es, h1, h2, h3, fun e he => ⟨(h4 e he).1, ty _ _ (h4 e he).2 rfl⟩, h5⟩
  | nex z =>
    obtain ⟨lot, ps, h1, h2, h3, h4⟩ := h
    exact ⟨lot, ps, g _ _ h1, h2, h3, fun e he => (h4 e he).ext g⟩
  | fil z =>
    obtain ⟨ps, h2, h3, h4⟩ := h
    exact ⟨ps, h2, h3, fun e he => (h4 e he).ext g⟩
section
variable {w : Wo} {ps : List Str} {st : Sto} {B : MO} {rest : Sto}
theorem get_push {α : Type} {l : List α} {x : α} {i : Nat} {y : α} (h : l[i]? = some y) : (l ++ [x])[i]? = some y := by
  obtain ⟨h1, h2⟩ := List.getElem?_eq_some_iff.mp h
  rw [List.getElem?_append_left h1]
  exact h
theorem get_last {α : Type} {l : List α} {x : α} : (l ++ [x])[l.length]? = some x := by simp
theorem push_inv {α : Type} {l : List α} {x : α} {i : Nat} {y : α} (h : (l ++ [x])[i]? = some y) : l[i]? = some y ∨ (i = l.length ∧ y = x) := by
  by_cases hi : i < l.length
  · rw [List.getElem?_append_left hi] at h; exact .inl h
  · rw [List.getElem?_append_right (by omega)] at h
    by_cases h0 : i - l.length = 0
    · rw [h0] at h
      simp at h
      exact .inr ⟨by omega, h.symm⟩
    · obtain ⟨h1, _⟩ := List.getElem?_eq_some_iff.mp h
      simp at h1
      omega
theorem Ok.bagAt (h : Ok w ps st) : ∃ B rest, st = B :: rest ∧ BagO B := by
  cases st with
  | nil =>
    have := h.bag
    rw [List.eq_nil_of_length_eq_zero h.len] at this
    simp at this
  | cons B rest => exact ⟨B, rest, rfl, h.obj 0 .bag B h.bag rfl⟩
theorem Ok.get (h : Ok w ps st) {i : Nat} {t : Ty} (e : w.Θ[i]? = some t) : ∃ o, st[i]? = some o ∧ ObjOk w t o := by
  obtain ⟨h1, _⟩ := List.getElem?_eq_some_iff.mp e
  rw [h.len] at h1
  exact ⟨st[i], List.getElem?_eq_getElem h1, h.obj i t _ e (List.getElem?_eq_getElem h1)⟩
/-- an object more -/
theorem Ok.push (h : Ok w ps st) {t : Ty} {o : MO} (ho : ObjOk (w.push t) t o) : Ok (w.push t) ps (st ++ [o]) := by
  refine ⟨⟨h.g.pts, h.g.lot, h.g.fst, h.g.lst⟩, by simp [Wo.push, h.len], fun i t' o' e1 e2 => ?_, get_push h.bag⟩
  rcases push_inv e2 with e2' | ⟨hi, rfl⟩
  · rcases push_inv e1 with e1' | ⟨hi, _⟩
    · exact (h.obj i t' o' e1' e2').mono (w := w) (w' := w.push t) (fun _ _ g => g) fun _ _ g _ => get_push g
    · rw [hi, h.len] at e2'
      simp at e2'
  · have e3 : w.push t = ⟨w.Γ, w.Θ ++ [t]⟩ := rfl
    have : (w.Θ ++ [t])[i]? = some t := by rw [hi, ← h.len]; exact get_last
    rw [show (w.push t).Θ = w.Θ ++ [t] from rfl, this] at e1
    cases e1
    exact ho
theorem Ext.push (h : Ok w ps st) {t : Ty} {o : MO} : Ext w st (w.push t) (st ++ [o]) := by
  refine ⟨fun _ _ g => g, fun _ _ g _ => get_push g, fun t z l _ e => ?_, fun d x z _ e => ?_, fun i e => ?_⟩
  · obtain ⟨es, a, b⟩ := e
    exact ⟨es, get_push a, b⟩
  · obtain ⟨es, a, b⟩ := e
    exact ⟨es, get_push a, b⟩
  · obtain ⟨h1, _⟩ := List.getElem?_eq_some_iff.mp e
    rw [h.len] at h1
    exact List.getElem?_append_left h1
/-- an object anew, of its kind -/
theorem Ok.set (h : Ok w ps st) {i : Nat} {t : Ty} {o : MO} (e : w.Θ[i]? = some t) (ho : ObjOk w t o) : Ok w ps (st.set i o) := by
  refine ⟨h.g, by rw [List.length_set]; exact h.len, fun j t' o' e1 e2 => ?_, h.bag⟩
  by_cases hi : i = j
  · subst hi
    rw [e] at e1; cases e1
    obtain ⟨h1, _⟩ := List.getElem?_eq_some_iff.mp e
    rw [h.len] at h1
    rw [List.getElem?_set_self h1] at e2
    cases e2
    exact ho
  · rw [List.getElem?_set_ne hi] at e2
    exact h.obj j t' o' e1 e2
theorem Ext.set (h : Ok w ps st) {i : Nat} {t : Ty} {o : MO} (e : w.Θ[i]? = some t) (ho : t ≠ .oth) (ht : t = .tab → ∀ z l, EntR st i z l → EntR (st.set i o) i z l) (hr : ∀ z, t = .res z → ∀ x, HasK st i x → HasK (st.set i o) i x) : Ext w st w (st.set i o) := by
  refine ⟨fun _ _ g => g, fun _ _ g _ => g, fun j z l k e1 => ?_, fun j x z k e1 => ?_, fun j k => ?_⟩
  · by_cases hi : i = j
    · subst hi
      rw [e] at k; cases k
      exact ht rfl z l e1
    · obtain ⟨es, a, b⟩ := e1
      exact ⟨es, by rw [List.getElem?_set_ne hi]; exact a, b⟩
  · by_cases hi : i = j
    · subst hi
      rw [e] at k; cases k
      exact hr z rfl x e1
    · obtain ⟨es, a, b⟩ := e1
      exact ⟨es, by rw [List.getElem?_set_ne hi]; exact a, b⟩
  · rw [List.getElem?_set_ne fun hi => by subst hi; rw [e] at k; cases k; exact ho rfl]
/-- the bag further on -/
theorem Ok.bg (h : Ok w ps (B :: rest)) {B' : MO} (hB : BagO B') : Ok w ps (B' :: rest) := h.set (i := 0) (o := B') h.bag hB
theorem Ext.bg (h : Ok w ps (B :: rest)) {B' : MO} : Ext w (B :: rest) w (B' :: rest) := Ext.set (i := 0) (o := B') h h.bag (by decide) (fun e => by cases e) fun _ e => by cases e
/-- a round more -/
theorem Ok.add (h : Ok w ps st) {z : Str} {lot : List Str} (hn : w.Γ z = none) (hz : Nmk z) (h1 : Srt lot) (h2 : lot ≠ []) (h3 : ∀ p ∈ lot, p ∈ ps) : Ok (w.add z lot) ps st ∧ Ext w st (w.add z lot) st := by
  have g : ∀ x l, w.Γ x = some l → (w.add z lot).Γ x = some l := fun x l e => by
    show (if x = z then some lot else w.Γ x) = _
    rw [if_neg fun k => by rw [k, hn] at e; cases e]
    exact e
  refine ⟨⟨⟨h.g.pts, fun x l e => ?_, g _ _ h.g.fst, g _ _ h.g.lst⟩, h.len, fun i t o e1 e2 => (h.obj i t o e1 e2).mono g fun _ _ k _ => k, h.bag⟩, g, fun _ _ k _ => k, fun _ _ _ _ k => k, fun _ _ _ _ k => k, fun _ _ => rfl⟩
  have e : (if x = z then some lot else w.Γ x) = some l := e
  split at e
  · rename_i k
    cases e
    subst k
    exact ⟨hz, h1, h2, h3⟩
  · exact h.g.lot x l e
theorem Wo.add_self {z : Str} {lot : List Str} : (w.add z lot).Γ z = some lot := if_pos rfl
/-- nexts that are filled -/
theorem Ok.full (h : Ok w ps st) {i : Nat} {z : Str} {o : MO} (e : w.Θ[i]? = some (.fil z)) (es : st[i]? = some o) (ho : ObjOk w (.nex z) o) : Ok ⟨w.Γ, w.Θ.set i (.nex z)⟩ ps st ∧ Ext w st ⟨w.Γ, w.Θ.set i (.nex z)⟩ st := by
  obtain ⟨hl, _⟩ := List.getElem?_eq_some_iff.mp e
  have ty : ∀ (j : Nat) (t : Ty), w.Θ[j]? = some t → t.solid = true → (w.Θ.set i (.nex z))[j]? = some t := fun j t k s => by
    rw [List.getElem?_set_ne fun hi => by subst hi; rw [e] at k; cases k; cases s]
    exact k
  refine ⟨⟨⟨h.g.pts, h.g.lot, h.g.fst, h.g.lst⟩, by rw [List.length_set]; exact h.len, fun j t o' e1 e2 => ?_, ty _ _ h.bag rfl⟩, fun _ _ k => k, ty, fun _ _ _ _ k => k, fun _ _ _ _ k => k, fun _ _ => rfl⟩
  by_cases hi : i = j
  · subst hi
    have e1 : (w.Θ.set i (.nex z))[i]? = some t := e1
    rw [List.getElem?_set_self hl] at e1
    cases e1
    rw [es] at e2; cases e2
    exact ho.mono (w := w) (w' := ⟨w.Γ, w.Θ.set i (.nex z)⟩) (fun _ _ k => k) ty
  · have e1 : (w.Θ.set i (.nex z))[j]? = some t := e1
    rw [List.getElem?_set_ne hi] at e1
    exact (h.obj j t o' e1 e2).mono (w := w) (w' := ⟨w.Γ, w.Θ.set i (.nex z)⟩) (fun _ _ k => k) ty
/-! ### reading -/
theorem ixD_ref {r : Nat} {β : Type} {f : β → PV} {es : List (Str × β)} {z : Str} (e : st[r]? = some (.dic (mapD f es))) : oIxD (.ref r) (.str z) st = (getA es z).map f := by
  simp only [oIxD, dictOf, e, Mi.keyOf, valP_mapD]
theorem tab_ix (h : Ok w ps st) {t l : Nat} {z : Str} (ht : w.Θ[t]? = some .tab) (e : EntR st t z l) : oIxD (.ref t) (.str z) st = some (.ref l) ∧ ∃ c d, w.Θ[l]? = some (.row z c d) := by
  obtain ⟨es, e1, e2⟩ := e
  refine ⟨by rw [ixD_ref e1, e2]; rfl, ?_⟩
  obtain ⟨o, g1, es', g2, g3, g4, g5⟩ := h.get ht
  rw [e1] at g1
  cases g1
  rw [MO.dic.injEq] at g2
  have : es = es' := by
    have inj : Function.Injective (fun e : Str × Nat => ((PV.str e.1, PV.ref e.2) : PV × PV)) := fun a b e => by
      cases a; cases b; simp at e; simp [e]
    exact (List.map_inj_right inj).mp g2
  subst this
  obtain ⟨_, c, d, k⟩ := g5 _ (getA_mem e2)
  exact ⟨c, d, k⟩
theorem row_at (h : Ok w ps st) {l d : Nat} {z c : Str} (e : w.Θ[l]? = some (.row z c d)) : ∃ lot, w.Γ z = some lot ∧ st[l]? = some (.lst [.tup (lot.map .str), .str c, .ref d]) ∧ c ∈ lot ∧ w.Θ[d]? = some (.res z) := by
  obtain ⟨o, g1, lot, g2, rfl, g4, g5⟩ := h.get e
  exact ⟨lot, g2, g1, g4, g5⟩
theorem row_ix {l : Nat} {x y u : PV} (e : st[l]? = some (.lst [x, y, u])) : oIxD (.ref l) (.int 0) st = some x ∧ oIxD (.ref l) (.int 1) st = some y ∧ oIxD (.ref l) (.int 2) st = some u ∧ unpO (.ref l) st = some [x, y, u] := by
  have e1 : dictOf st (.ref l) = none := by simp only [dictOf, e]
  have e2 : asQ st (.ref l) = some [x, y, u] := by simp only [asQ, asT, asS, asL, e]
  refine ⟨?_, ?_, ?_, by simp only [unpO, e]⟩
  all_goals simp only [oIxD, e1, oIx, e2]
  all_goals rfl
theorem mapD_ref_inj {es es' : List (Str × Nat)} (h : mapD PV.ref es = mapD PV.ref es') : es = es' := by
  have inj : Function.Injective (fun e : Str × Nat => ((PV.str e.1, PV.ref e.2) : PV × PV)) := fun a b e => by
    cases a; cases b; simp at e; simp [e]
  exact (List.map_inj_right inj).mp h
theorem mapD_str_inj {es es' : List (Str × Str)} (h : mapD PV.str es = mapD PV.str es') : es = es' := by
  have inj : Function.Injective (fun e : Str × Str => ((PV.str e.1, PV.str e.2) : PV × PV)) := fun a b e => by
    cases a; cases b; simp at e; simp [e]
  exact (List.map_inj_right inj).mp h
/-- the table's rows, as they stand -/
theorem tab_at (h : Ok w ps st) {t : Nat} (ht : w.Θ[t]? = some .tab) : ∃ es : List (Str × Nat), st[t]? = some (.dic (mapD .ref es)) ∧ (es.map (·.1)).Nodup ∧ es.length ≤ 40 ∧ (∀ e ∈ es, (∃ lot, w.Γ e.1 = some lot) ∧ ∃ c d, w.Θ[e.2]? = some (.row e.1 c d)) ∧ ∀ z, z ∈ es.map (·.1) ↔ ∃ l, EntR st t z l := by
  obtain ⟨o, g1, es, rfl, g3, g4, g5⟩ := h.get ht
  refine ⟨es, g1, g3, g4, g5, fun z => ⟨fun hz => ?_, fun ⟨l, es', e1, e2⟩ => ?_⟩⟩
  · obtain ⟨l, e, _⟩ := getA_some hz
    exact ⟨l, es, g1, e⟩
  · rw [g1] at e1
    cases mapD_ref_inj (MO.dic.inj (Option.some.inj e1))
    exact List.mem_map.mpr ⟨_, getA_mem e2, rfl⟩
theorem res_at (h : Ok w ps st) {d : Nat} {z : Str} (hd : w.Θ[d]? = some (.res z)) : ∃ es : List (Str × Nat), st[d]? = some (.dic (mapD .ref es)) ∧ (es.map (·.1)).Nodup ∧ es.length ≤ 4 ∧ (∀ e ∈ es, Nmk e.1 ∧ w.Θ[e.2]? = some (.nex z)) ∧ (z = "last" → es = []) ∧ ∀ x, x ∈ es.map (·.1) ↔ HasK st d x := by
  obtain ⟨o, g1, es, rfl, g3, g4, g5, g6⟩ := h.get hd
  refine ⟨es, g1, g3, g4, g5, g6, fun z => ⟨fun hz => ⟨es, g1, hz⟩, fun ⟨es', e1, e2⟩ => ?_⟩⟩
  rw [g1] at e1
  cases mapD_ref_inj (MO.dic.inj (Option.some.inj e1))
  exact e2
theorem res_ix (h : Ok w ps st) {d : Nat} {z x : Str} (hd : w.Θ[d]? = some (.res z)) (hx : HasK st d x) : ∃ n, oIxD (.ref d) (.str x) st = some (.ref n) ∧ w.Θ[n]? = some (.nex z) := by
  obtain ⟨es, g1, g3, g4, g5, g6, g7⟩ := res_at h hd
  obtain ⟨n, e1, e2⟩ := getA_some ((g7 x).mpr hx)
  exact ⟨n, by rw [ixD_ref g1, e1]; rfl, (g5 _ e2).2⟩
theorem nex_at (h : Ok w ps st) {n : Nat} {z : Str} (hn : w.Θ[n]? = some (.nex z)) : ∃ lot qs, w.Γ z = some lot ∧ st[n]? = some (.dic (mapD .str qs)) ∧ (qs.map (·.1)).Perm lot ∧ ∀ e ∈ qs, Tgt w e.2 e.1 := by
  obtain ⟨o, g1, lot, qs, g2, rfl, g4, g5⟩ := h.get hn
  exact ⟨lot, qs, g2, g1, g4, g5⟩
theorem nex_ix (h : Ok w ps st) {n : Nat} {z p : Str} {lot : List Str} (hn : w.Θ[n]? = some (.nex z)) (hl : w.Γ z = some lot) (hp : p ∈ lot) : ∃ y, oIxD (.ref n) (.str p) st = some (.str y) ∧ Tgt w y p := by
  obtain ⟨lot', qs, g1, g2, g3, g4⟩ := nex_at h hn
  rw [hl] at g1; cases g1
  obtain ⟨y, e1, e2⟩ := getA_some (g3.mem_iff.mpr hp)
  exact ⟨y, by rw [ixD_ref g2, e1]; rfl, g4 _ e2⟩
theorem lenD_ref {r : Nat} {β : Type} {f : β → PV} {es : List (Str × β)} (e : st[r]? = some (.dic (mapD f es))) : oLenD [.ref r] st = some (.int es.length) := by
  simp only [oLenD, dictOf, e, mapD_len]
theorem sorted_ref {r : Nat} {β : Type} {f : β → PV} {es : List (Str × β)} (e : st[r]? = some (.dic (mapD f es))) (h : es.length < 64) (hz : ∀ z ∈ es.map (·.1), z.length ≤ sizeLine) : oSorted [.ref r] st = some ((sortS (es.map (·.1))).map .str) := by
  simp only [oSorted, dictOf, e, strs_mapD, okS_of (by rw [List.length_map]; exact h) hz, if_true]
theorem list_ref {r : Nat} {β : Type} {f : β → PV} {es : List (Str × β)} (e : st[r]? = some (.dic (mapD f es))) (hz : ∀ z ∈ es.map (·.1), z.length ≤ sizeLine) : oListD [.ref r] st = some ((es.map (·.1)).map .str) := by
  have h1 : ((mapD f es).all fun p => keyOk p.1) = true := by
    rw [List.all_eq_true]
    intro p hp
    obtain ⟨e, he, rfl⟩ := List.mem_map.mp hp
    simp only [keyOk, decide_eq_true_eq]
    exact hz _ (List.mem_map.mpr ⟨e, he, rfl⟩)
  simp only [oListD, dictOf, e, h1, if_true]
  congr 1
  simp only [mapD, List.map_map]
  rfl
theorem nm_line (h : Ok w ps st) {z : Str} {lot : List Str} (e : w.Γ z = some lot) : z.length ≤ sizeLine := (h.g.lot z lot e).1.line
/-- sorted(table) -/
theorem tab_sorted (h : Ok w ps st) {t : Nat} (ht : w.Θ[t]? = some .tab) : ∃ zs : List Str, oSorted [.ref t] st = some (zs.map .str) ∧ Srt zs ∧ zs.length ≤ 40 ∧ ∀ z, z ∈ zs ↔ ∃ l, EntR st t z l := by
  obtain ⟨es, g1, g2, g3, g4, g5⟩ := tab_at h ht
  refine ⟨sortS (es.map (·.1)), sorted_ref g1 (by omega) fun z hz => ?_, srt_sort g2, by rw [sort_len, List.length_map]; exact g3, fun z => sort_mem.trans (g5 z)⟩
  obtain ⟨e, he, rfl⟩ := List.mem_map.mp hz
  obtain ⟨⟨lot, k⟩, _⟩ := g4 e he
  exact nm_line h k
theorem tab_list (h : Ok w ps st) {t : Nat} (ht : w.Θ[t]? = some .tab) : ∃ zs : List Str, oListD [.ref t] st = some (zs.map .str) ∧ oLenD [.ref t] st = some (.int zs.length) ∧ zs.length ≤ 40 ∧ ∀ z, z ∈ zs ↔ ∃ l, EntR st t z l := by
  obtain ⟨es, g1, g2, g3, g4, g5⟩ := tab_at h ht
  refine ⟨es.map (·.1), list_ref g1 fun z hz => ?_, by rw [lenD_ref g1, List.length_map], by rw [List.length_map]; exact g3, g5⟩
  obtain ⟨e, he, rfl⟩ := List.mem_map.mp hz
  obtain ⟨⟨lot, k⟩, _⟩ := g4 e he
  exact nm_line h k
theorem res_sorted (h : Ok w ps st) {d : Nat} {z : Str} (hd : w.Θ[d]? = some (.res z)) : ∃ xs : List Str, oSorted [.ref d] st = some (xs.map .str) ∧ Srt xs ∧ xs.length ≤ 4 ∧ (z = "last" → xs = []) ∧ (∀ x ∈ xs, Nmk x) ∧ ∀ x, x ∈ xs ↔ HasK st d x := by
  obtain ⟨es, g1, g2, g3, g4, g5, g6⟩ := res_at h hd
  have hn : ∀ x ∈ es.map (·.1), Nmk x := fun x hx => by
    obtain ⟨e, he, rfl⟩ := List.mem_map.mp hx
    exact (g4 e he).1
  exact ⟨sortS (es.map (·.1)), sorted_ref g1 (by omega) fun x hx => (hn x hx).line, srt_sort g2, by rw [sort_len, List.length_map]; exact g3, fun e => by rw [g5 e]; exact List.eq_nil_of_length_eq_zero (sort_len []), fun x hx => hn x (sort_mem.mp hx), fun x => sort_mem.trans (g6 x)⟩
theorem res_list (h : Ok w ps st) {d : Nat} {z : Str} (hd : w.Θ[d]? = some (.res z)) : ∃ xs : List Str, oListD [.ref d] st = some (xs.map .str) ∧ oLenD [.ref d] st = some (.int xs.length) ∧ xs.length ≤ 4 ∧ ∀ x, x ∈ xs ↔ HasK st d x := by
  obtain ⟨es, g1, g2, g3, g4, g5, g6⟩ := res_at h hd
  refine ⟨es.map (·.1), list_ref g1 fun x hx => ?_, by rw [lenD_ref g1, List.length_map], by rw [List.length_map]; exact g3, g6⟩
  obtain ⟨e, he, rfl⟩ := List.mem_map.mp hx
  exact (g4 e he).1.line
/-! ### writing -/
theorem putD_ref {r : Nat} {β : Type} {f : β → PV} {es : List (Str × β)} {z : Str} {y : β} (e : st[r]? = some (.dic (mapD f es))) (h : es.length < 1000) : oPutD (.ref r) (.str z) (f y) st = some (st.set r (.dic (mapD f (putA es z y)))) := by
  simp only [oPutD, Mi.keyOf, e, mapD_len, if_pos ((sl' h).mpr trivial), putP_mapD]
/-- table[z] = a new row -/
theorem tab_put (h : Ok w ps st) {t l d : Nat} {z c : Str} {lot : List Str} (ht : w.Θ[t]? = some .tab) (hl : w.Θ[l]? = some (.row z c d)) (hz : w.Γ z = some lot) {zs : List Str} (hlen : zs.length < 40) (hks : ∀ x, x ∈ zs ↔ ∃ l, EntR st t x l) (hzs : oLenD [.ref t] st = some (.int zs.length)) (hnew : z ∉ zs) :
    ∃ st', oPutD (.ref t) (.str z) (.ref l) st = some st' ∧ Ok w ps st' ∧ Ext w st w st' ∧ EntR st' t z l ∧ oLenD [.ref t] st' = some (.int (zs.length + 1 : Nat)) ∧ (∀ x l', EntR st' t x l' → x = z ∨ EntR st t x l') ∧ ∀ i, i ≠ t → st'[i]? = st[i]? := by
  obtain ⟨es, g1, g2, g3, g4, g5⟩ := tab_at h ht
  have hne : z ∉ es.map (·.1) := fun k => hnew ((hks z).mpr ((g5 z).mp k))
  have hel : es.length = zs.length := by
    rw [lenD_ref g1] at hzs
    have := PV.int.inj (Option.some.inj hzs)
    omega
  obtain ⟨hlt, _⟩ := List.getElem?_eq_some_iff.mp g1
  have ho : ObjOk w .tab (.dic (mapD .ref (putA es z l))) := by
    refine ⟨putA es z l, rfl, putA_nodup g2, by have := putA_len (es := es) (z := z) (y := l); omega, fun e he => ?_⟩
    rcases putA_mem he with rfl | ⟨he, _⟩
    · exact ⟨⟨lot, hz⟩, c, d, hl⟩
    · exact g4 e he
  have hat : (st.set t (.dic (mapD .ref (putA es z l))))[t]? = some (.dic (mapD .ref (putA es z l))) := List.getElem?_set_self hlt
  refine ⟨st.set t (.dic (mapD .ref (putA es z l))), putD_ref g1 (by omega), h.set ht ho, Ext.set h ht (by decide) (fun _ x l' e => ?_) fun _ e => (by cases e), ?_, ?_, fun x l' e => ?_, fun i hi => List.getElem?_set_ne fun k => hi k.symm⟩
  · obtain ⟨es', a, b⟩ := e
    rw [g1] at a
    cases mapD_ref_inj (MO.dic.inj (Option.some.inj a))
    refine ⟨putA es z l, hat, ?_⟩
    rw [putA_new hne]
    exact getA_append b
  · exact ⟨_, hat, getA_self⟩
  · rw [lenD_ref hat, putA_new hne]
    simp [hel]
  · obtain ⟨es', a, b⟩ := e
    rw [hat] at a
    cases mapD_ref_inj (MO.dic.inj (Option.some.inj a))
    rcases putA_mem (getA_mem b) with k | ⟨k, _⟩
    · cases k; exact .inl rfl
    · right
      obtain ⟨y, e1, e2⟩ := getA_some (List.mem_map.mpr ⟨_, k, rfl⟩)
      refine ⟨es, g1, ?_⟩
      rw [putA_new hne] at b
      have := getA_append (more := [(z, l)]) e1
      rw [this] at b
      rw [e1, Option.some.inj b]
/-- results[x] = nexts -/
theorem res_put (h : Ok w ps st) {d n : Nat} {z x : Str} (hd : w.Θ[d]? = some (.res z)) (hn : w.Θ[n]? = some (.nex z)) (hx : Nmk x) (hz : z ≠ "last") (hlen : HasK st d x ∨ ∃ xs : List Str, oLenD [.ref d] st = some (.int xs.length) ∧ xs.length < 4) :
    ∃ st', oPutD (.ref d) (.str x) (.ref n) st = some st' ∧ Ok w ps st' ∧ Ext w st w st' ∧ HasK st' d x ∧ ∀ i, i ≠ d → st'[i]? = st[i]? := by
  obtain ⟨es, g1, g2, g3, g4, g5, g6⟩ := res_at h hd
  obtain ⟨hlt, _⟩ := List.getElem?_eq_some_iff.mp g1
  have hat : (st.set d (.dic (mapD .ref (putA es x n))))[d]? = some (.dic (mapD .ref (putA es x n))) := List.getElem?_set_self hlt
  have ho : ObjOk w (.res z) (.dic (mapD .ref (putA es x n))) := by
    refine ⟨putA es x n, rfl, putA_nodup g2, ?_, fun e he => ?_, fun e => absurd e hz⟩
    · rcases hlen with k | ⟨xs, k1, k2⟩
      · have : ((putA es x n).map (·.1)).length = (es.map (·.1)).length := by rw [putA_keys, if_pos ((g6 x).mpr k)]
        rw [List.length_map, List.length_map] at this
        omega
      · rw [lenD_ref g1] at k1
        have := PV.int.inj (Option.some.inj k1)
        have := putA_len (es := es) (z := x) (y := n)
        omega
    · rcases putA_mem he with rfl | ⟨he, _⟩
      · exact ⟨hx, hn⟩
      · exact g4 e he
  have hk : ∀ y, HasK st d y → HasK (st.set d (.dic (mapD .ref (putA es x n)))) d y := fun y hy => by
    refine ⟨_, hat, ?_⟩
    rw [putA_keys]
    have := (g6 y).mpr hy
    split
    · exact this
    · exact List.mem_append_left _ this
  refine ⟨st.set d (.dic (mapD .ref (putA es x n))), putD_ref g1 (by omega), h.set hd ho, Ext.set h hd (by simp) (fun e => by cases e) (fun _ _ y hy => hk y hy), ⟨_, hat, ?_⟩, fun i hi => List.getElem?_set_ne fun k => hi k.symm⟩
  rw [putA_keys]
  split
  · assumption
  · simp
/-- nexts[p] = y, p in the lot -/
theorem nex_put (h : Ok w ps st) {n : Nat} {z p y : Str} {lot : List Str} (hn : w.Θ[n]? = some (.nex z)) (hl : w.Γ z = some lot) (hp : p ∈ lot) (hy : Tgt w y p) :
    ∃ st', oPutD (.ref n) (.str p) (.str y) st = some st' ∧ Ok w ps st' ∧ Ext w st w st' ∧ ∀ i, i ≠ n → st'[i]? = st[i]? := by
  obtain ⟨lot', qs, g1, g2, g3, g4⟩ := nex_at h hn
  rw [hl] at g1; cases g1
  have hk : p ∈ qs.map (·.1) := g3.mem_iff.mpr hp
  have hlen : qs.length < 1000 := by
    have h1 := g3.length_eq
    rw [List.length_map] at h1
    have h2 := nodup_len (h.g.lot z lot hl).2.1.nodup (h.g.lot z lot hl).2.2.2
    have h3 := h.g.pts.len
    omega
  refine ⟨st.set n (.dic (mapD .str (putA qs p y))), putD_ref g2 hlen, h.set hn ⟨lot, _, hl, rfl, ?_, fun e he => ?_⟩, Ext.set h hn (by simp) (fun e => by cases e) (fun _ e => by cases e), fun i hi => List.getElem?_set_ne fun k => hi k.symm⟩
  · rw [putA_keys, if_pos hk]; exact g3
  · rcases putA_mem he with rfl | ⟨he, _⟩
    · exact hy
    · exact g4 e he
end
end Ge

/-! Ge4: a drawn result; a result twice; a loop back (plain). -/
namespace Ge
open PySem PySem.Spec PyProof.Rows L2 Mi
def Done (w : Wo) (st : Sto) (t : Nat) : Prop := ∀ z lot, w.Γ z = some lot → ∃ l, EntR st t z l
def Full (w : Wo) (st : Sto) (t : Nat) : Prop := ∀ z l c d, EntR st t z l → w.Θ[l]? = some (.row z c d) → z ≠ "last" → ∃ x, HasK st d x
def Nk (st : Sto) (t n : Nat) : Prop := oLenD [.ref t] st = some (.int (n : Nat))
/-- no row more in the table -/
def Old (st s : Sto) (t : Nat) : Prop := ∀ z l, EntR s t z l → EntR st t z l
/-- a table that is whole -/
structure Tb (w : Wo) (ps : List Str) (st : Sto) (t n : Nat) : Prop where
  ok : Ok w ps st
  tab : w.Θ[t]? = some .tab
  done : Done w st t
  full : Full w st t
  nk : Nk st t n
theorem Full.ext {w w' : Wo} {st s : Sto} {ps : List Str} {t : Nat} (h : Ok w ps st) (ht : w.Θ[t]? = some .tab) (hf : Full w st t) (x : Ext w st w' s) (ho : Old st s t) : Full w' s t := by
  intro z l c d e hl hz
  have e0 := ho z l e
  obtain ⟨_, c', d', hl'⟩ := tab_ix h ht e0
  have := x.ty _ _ hl' rfl
  rw [hl] at this
  cases this
  obtain ⟨lot, _, _, _, hd⟩ := row_at h hl'
  obtain ⟨y, hy⟩ := hf z l c d e0 hl' hz
  exact ⟨y, x.res d y z hd hy⟩
theorem Nk.unique {st : Sto} {t n m : Nat} (h : Nk st t n) (k : Nk st t m) : n = m := by
  unfold Nk at h k
  rw [h] at k
  have := PV.int.inj (Option.some.inj k)
  omega
theorem Nk.eq {st s : Sto} {t n : Nat} (h : Nk st t n) (e : s[t]? = st[t]?) : Nk s t n := by
  unfold Nk at *
  rw [← h]
  simp only [oLenD, dictOf, e, oLen, asQ, asT, asS, asL]
theorem EntR.eq {st s : Sto} {t l : Nat} {z : Str} (h : EntR st t z l) (e : s[t]? = st[t]?) : EntR s t z l := by
  obtain ⟨es, a, b⟩ := h
  exact ⟨es, e.trans a, b⟩
theorem Old.of_eq {st s : Sto} {t : Nat} (e : s[t]? = st[t]?) : Old st s t := fun z l h => h.eq e.symm
/-- what is left as it is by a step that keeps the table's rows -/
theorem Tb.step {w w' : Wo} {ps : List Str} {st s : Sto} {t n : Nat} (h : Tb w ps st t n) (x : Ext w st w' s) (ok : Ok w' ps s) (e : s[t]? = st[t]?) (g : w'.Γ = w.Γ) : Tb w' ps s t n := by
  refine ⟨ok, x.ty _ _ h.tab rfl, fun z lot k => ?_, h.full.ext h.ok h.tab x (.of_eq e), h.nk.eq e⟩
  rw [g] at k
  obtain ⟨l, hl⟩ := h.done z lot k
  exact ⟨l, hl.eq e⟩
section
variable {w : Wo} {ps : List Str} {st : Sto} {B : MO} {rest : Sto} {t n : Nat}
theorem tab_ne0 (h : Ok w ps st) {i : Nat} {ty : Ty} (ht : w.Θ[i]? = some ty) (hb : ty ≠ .bag) : i ≠ 0 := fun e => by
  subst e
  rw [h.bag] at ht
  cases ht
  exact hb rfl
theorem cons_get {B' : MO} {i : Nat} (h : i ≠ 0) : (B' :: rest)[i]? = (B :: rest)[i]? := by
  cases i with
  | zero => exact absurd rfl h
  | succ i => rfl
theorem Tb.bg (h : Tb w ps (B :: rest) t n) {B' : MO} (hB : BagO B') : Tb w ps (B' :: rest) t n :=
  h.step (Ext.bg h.ok) (h.ok.bg hB) (cons_get (tab_ne0 h.ok h.tab (by decide))) rfl
theorem Tb.push (h : Tb w ps st t n) {ty : Ty} {o : MO} (ho : ObjOk (w.push ty) ty o) : Tb (w.push ty) ps (st ++ [o]) t n :=
  h.step (Ext.push h.ok) (h.ok.push ho) (by
    obtain ⟨h1, _⟩ := List.getElem?_eq_some_iff.mp h.tab
    rw [h.ok.len] at h1
    exact List.getElem?_append_left h1) rfl
theorem ixD_end {rows : List PV} {i : Int} : oIxD (.ref (rest.length + 1)) (.int i) (B :: (rest ++ [.lst rows])) = atI rows i := by
  have e1 : dictOf (B :: (rest ++ [.lst rows])) (.ref (rest.length + 1)) = none := by simp only [dictOf, get_end]
  have e2 : asQ (B :: (rest ++ [.lst rows])) (.ref (rest.length + 1)) = some rows := by simp only [asQ, asT, asS, asL, get_end]
  simp only [oIxD, e1, oIx, e2]
theorem some_end {rows : List PV} (hB : BagO B) (h0 : rows ≠ []) (h1 : rows.length < 2 ^ 64) : OkF f__law_some [.ref 0, .ref (rest.length + 1)] (B :: (rest ++ [.lst rows])) fun v s => ∃ B', v ∈ rows ∧ s = B' :: (rest ++ [.lst rows]) ∧ BagO B' := by
  refine of_defN rfl ?_
  have hl : 0 < rows.length := List.length_pos_iff.mpr h0
  simp only [b__law_some, os_seq, os_skip, os_brk, os_cont, os_retN, os_drop, os_ret, os_retA, os_set, os_setA, os_if, os_asg, os_par, os_aug, os_put, os_augP, os_for, ok_var, ok_c, ok_nil, ok_cons, ok_tup, ok_lst, ok_new, ok_tst, ok_andT, ok_orT, ok_notT, ok_and, ok_or, ok_not, ok_if, ok_op, ok_un, ok_cl, ok_clF, ok_call, ok_mk, ok_noPart, ok_part, ok_cut, ok_mt, ok_chain, ok_it, ok_range1, ok_range2, ok_lc, ok_yes, out_some, out_none, out_add, out_sub, out_neg, out_le, out_gt, out_ge, out_lt, out_eqI, out_neI, out_int, out_abs, out_gcd, List.map_cons, List.map_nil, List.length_cons, List.length_nil, List.replicate, List.cons_append, List.nil_append, List.append_nil, List.getElem?_cons_zero, List.getElem?_cons_succ, List.set_cons_zero, List.set_cons_succ, PV.bl.injEq, PV.int.injEq, PV.str.injEq, exists_eq_left', exists_eq_left, and_true, true_and, if_true, if_false, Bool.false_eq_true, Bool.true_eq_false, decide_eq_true_eq, Nat.sub_self, Nat.reduceAdd, Nat.reduceSub, Nat.reduceLeDiff, List.cons.injEq, lenD_end]
  refine (k_take hB (by omega) (logOk_small h1)).imp fun v s h => ?_
  obtain ⟨i, B', rfl, rfl, hB', g0, g1⟩ := h
  obtain ⟨x, hx, e⟩ := atI_mem (xs := rows) g0 g1
  rw [ixD_end, e, out_some]
  exact ⟨B', hx, rfl, hB'⟩
/-- the loop of result_of: what is in rows -/
def IvRes (w : Wo) (ps : List Str) (B : MO) (rest : Sto) (t : Nat) (zs : List Str) (k : Nat) (e : MEnv) (s : Sto) : Prop :=
  ∃ rows x3, e = [some (.ref 0), some (.ref t), some (.ref (rest.length + 1)), x3, none] ∧ s = B :: (rest ++ [.lst rows]) ∧ rows.length ≤ 4 * k ∧
    (∀ y ∈ rows, ∃ z x l c d, y = .tup [.str z, .str x] ∧ EntR (B :: rest) t z l ∧ w.Θ[l]? = some (.row z c d) ∧ HasK (B :: rest) d x ∧ z ≠ "last") ∧
    (∀ z ∈ zs.take k, z ≠ "last" → rows ≠ [])
theorem k_result (h : Tb w ps (B :: rest) t n) : OkF f__law_result_of [.ref 0, .ref t] (B :: rest) fun v s => ∃ z x l c d B', v = .tup [.str z, .str x] ∧ EntR (B :: rest) t z l ∧ w.Θ[l]? = some (.row z c d) ∧ HasK (B :: rest) d x ∧ z ≠ "last" ∧ s = B' :: rest ∧ BagO B' := by
  have hB : BagO B := by
    obtain ⟨_, _, e, hB⟩ := h.ok.bagAt
    cases e; exact hB
  refine of_defT (of_defN rfl ?_)
  simp only [b__law_result_of, os_seq, os_skip, os_brk, os_cont, os_retN, os_drop, os_ret, os_retA, os_set, os_setA, os_if, os_asg, os_par, os_aug, os_put, os_augP, os_for, ok_var, ok_c, ok_nil, ok_cons, ok_tup, ok_lst, ok_new, ok_tst, ok_andT, ok_orT, ok_notT, ok_and, ok_or, ok_not, ok_if, ok_op, ok_un, ok_cl, ok_clF, ok_call, ok_mk, ok_noPart, ok_part, ok_cut, ok_mt, ok_chain, ok_it, ok_range1, ok_range2, ok_lc, ok_yes, out_some, out_none, out_add, out_sub, out_neg, out_le, out_gt, out_ge, out_lt, out_eqI, out_neI, out_int, out_abs, out_gcd, List.map_cons, List.map_nil, List.length_cons, List.length_nil, List.replicate, List.cons_append, List.nil_append, List.append_nil, List.getElem?_cons_zero, List.getElem?_cons_succ, List.set_cons_zero, List.set_cons_succ, PV.bl.injEq, PV.int.injEq, PV.str.injEq, exists_eq_left', exists_eq_left, and_true, true_and, if_true, if_false, Bool.false_eq_true, Bool.true_eq_false, decide_eq_true_eq, Nat.sub_self, Nat.reduceAdd, Nat.reduceSub, Nat.reduceLeDiff, List.cons.injEq, List.cons_append]
  refine ⟨Nat.zero_le _, ?_⟩
  have hp : ∀ rows, Tb (w.push .oth) ps (B :: (rest ++ [.lst rows])) t n := fun rows => h.push (o := .lst rows) trivial
  obtain ⟨zs, e1, e2, e3, e4⟩ := tab_sorted (hp []).ok (hp []).tab
  rw [e1, out_some]
  simp only [it_l, out_some]
  have e5 : ∀ z, z ∈ zs → ∃ l, EntR (B :: rest) t z l := fun z hz => by
    obtain ⟨l, hl⟩ := (e4 z).mp hz
    refine ⟨l, hl.eq ?_⟩
    obtain ⟨h1, _⟩ := List.getElem?_eq_some_iff.mp h.tab
    rw [h.ok.len] at h1
    exact (List.getElem?_append_left (l₂ := [.lst []]) h1).symm
  refine for_inv (IvRes w ps B rest t zs) (zs.map .str) (zs.map .str) 0 _ _ ?_ ?_ ⟨[], none, rfl, rfl, Nat.zero_le _, fun y hy => (by cases hy), fun z hz => (by simp at hz)⟩
  · rintro j x e s hx ⟨rows, x3, rfl, rfl, i1, i2, i3⟩
    rw [List.getElem?_map, Option.map_eq_some_iff] at hx
    obtain ⟨z, hz, rfl⟩ := hx
    rw [Nat.zero_add] at *
    obtain ⟨l, hl⟩ := e5 z (List.mem_of_getElem? hz)
    obtain ⟨_, c, d, hr⟩ := tab_ix h.ok h.tab hl
    have hP := hp rows
    have X : Ext w (B :: rest) (w.push .oth) (B :: (rest ++ [.lst rows])) := Ext.push h.ok
    obtain ⟨a1, _⟩ := tab_ix hP.ok hP.tab (X.tab _ _ _ h.tab hl)
    obtain ⟨lot, b1, b2, b3, b4⟩ := row_at hP.ok (X.ty _ _ hr rfl)
    obtain ⟨_, _, a2, _⟩ := row_ix b2
    obtain ⟨xs, c1, c2, c3, c4, c5, c6⟩ := res_sorted hP.ok b4
    simp only [os_seq, os_skip, os_brk, os_cont, os_retN, os_drop, os_ret, os_retA, os_set, os_setA, os_if, os_asg, os_par, os_aug, os_put, os_augP, os_for, ok_var, ok_c, ok_nil, ok_cons, ok_tup, ok_lst, ok_new, ok_tst, ok_andT, ok_orT, ok_notT, ok_and, ok_or, ok_not, ok_if, ok_op, ok_un, ok_cl, ok_clF, ok_call, ok_mk, ok_noPart, ok_part, ok_cut, ok_mt, ok_chain, ok_it, ok_range1, ok_range2, ok_lc, ok_yes, out_some, out_none, out_add, out_sub, out_neg, out_le, out_gt, out_ge, out_lt, out_eqI, out_neI, out_int, out_abs, out_gcd, List.map_cons, List.map_nil, List.length_cons, List.length_nil, List.replicate, List.cons_append, List.nil_append, List.append_nil, List.getElem?_cons_zero, List.getElem?_cons_succ, List.set_cons_zero, List.set_cons_succ, PV.bl.injEq, PV.int.injEq, PV.str.injEq, exists_eq_left', exists_eq_left, and_true, true_and, if_true, if_false, Bool.false_eq_true, Bool.true_eq_false, decide_eq_true_eq, Nat.sub_self, Nat.reduceAdd, Nat.reduceSub, Nat.reduceLeDiff, List.cons.injEq, rcv_end, a1, a2, c1, it_l, wipeM]
    rw [comp_strs (p := fun _ => true) (g := fun x => .tup [.str z, .str x]) chk_none xs fun x _ => ⟨rfl, fun _ => ok_eq (by simp only [os_seq, os_skip, os_brk, os_cont, os_retN, os_drop, os_ret, os_retA, os_set, os_setA, os_if, os_asg, os_par, os_aug, os_put, os_augP, os_for, ok_var, ok_c, ok_nil, ok_cons, ok_tup, ok_lst, ok_new, ok_tst, ok_andT, ok_orT, ok_notT, ok_and, ok_or, ok_not, ok_if, ok_op, ok_un, ok_cl, ok_clF, ok_call, ok_mk, ok_noPart, ok_part, ok_cut, ok_mt, ok_chain, ok_it, ok_range1, ok_range2, ok_lc, ok_yes, out_some, out_none, out_add, out_sub, out_neg, out_le, out_gt, out_ge, out_lt, out_eqI, out_neI, out_int, out_abs, out_gcd, List.map_cons, List.map_nil, List.length_cons, List.length_nil, List.replicate, List.cons_append, List.nil_append, List.append_nil, List.getElem?_cons_zero, List.getElem?_cons_succ, List.set_cons_zero, List.set_cons_succ, PV.bl.injEq, PV.int.injEq, PV.str.injEq, exists_eq_left', exists_eq_left, and_true, true_and, if_true, if_false, Bool.false_eq_true, Bool.true_eq_false, decide_eq_true_eq, Nat.sub_self, Nat.reduceAdd, Nat.reduceSub, Nat.reduceLeDiff, List.cons.injEq, sl (show 2 ≤ 1000 by decide)])⟩, out_some]
    have hf : xs.filter (fun _ => true) = xs := by simp
    have hlt : zs.length ≤ 40 := e3
    have hj : j < zs.length := (List.getElem?_eq_some_iff.mp hz).1
    simp only [ext_end, hf, out_iff1, out_some, List.length_map]
    refine ⟨small_line (by omega), rows ++ xs.map fun x => .tup [.str z, .str x], some (.str z), rfl, rfl, by rw [List.length_append, List.length_map]; omega, fun y hy => ?_, fun z' hz' hne => ?_⟩
    · rcases List.mem_append.mp hy with hy | hy
      · exact i2 y hy
      · obtain ⟨x, hx, rfl⟩ := List.mem_map.mp hy
        refine ⟨z, x, l, c, d, rfl, hl, hr, ?_, fun k => ?_⟩
        · obtain ⟨lot', _, _, _, hd⟩ := row_at h.ok hr
          obtain ⟨es, q1, q2⟩ := (c6 x).mp hx
          refine ⟨es, ?_, q2⟩
          rw [← q1]
          obtain ⟨h1, _⟩ := List.getElem?_eq_some_iff.mp hd
          rw [h.ok.len] at h1
          exact (List.getElem?_append_left (l₂ := [.lst rows]) h1).symm
        · rw [c4 k] at hx; cases hx
    · rw [List.take_succ, hz] at hz'
      rcases List.mem_append.mp hz' with hz' | hz'
      · exact fun k => i3 z' hz' hne (List.append_eq_nil_iff.mp k).1
      · simp only [Option.toList_some, List.mem_singleton] at hz'
        subst hz'
        intro k
        obtain ⟨x, hx⟩ := h.full _ l c d hl hr hne
        obtain ⟨lot', _, _, _, hd⟩ := row_at h.ok hr
        have hx' : x ∈ xs := (c6 x).mpr (X.res _ _ _ hd hx)
        have := (List.append_eq_nil_iff.mp k).2
        rw [List.map_eq_nil_iff] at this
        rw [this] at hx'
        cases hx'
  · rintro e s ⟨rows, x3, rfl, rfl, i1, i2, i3⟩
    rw [Nat.zero_add, List.length_map] at *
    have hne : rows ≠ [] := by
      obtain ⟨l, hl⟩ := h.done _ _ h.ok.g.fst
      refine i3 "first" ?_ (by decide +kernel)
      rw [List.take_length]
      exact (e4 _).mpr ⟨l, (Ext.push (o := .lst []) (t := .oth) h.ok).tab _ _ _ h.tab hl⟩
    simp only [os_seq, os_skip, os_brk, os_cont, os_retN, os_drop, os_ret, os_retA, os_set, os_setA, os_if, os_asg, os_par, os_aug, os_put, os_augP, os_for, ok_var, ok_c, ok_nil, ok_cons, ok_tup, ok_lst, ok_new, ok_tst, ok_andT, ok_orT, ok_notT, ok_and, ok_or, ok_not, ok_if, ok_op, ok_un, ok_cl, ok_clF, ok_call, ok_mk, ok_noPart, ok_part, ok_cut, ok_mt, ok_chain, ok_it, ok_range1, ok_range2, ok_lc, ok_yes, out_some, out_none, out_add, out_sub, out_neg, out_le, out_gt, out_ge, out_lt, out_eqI, out_neI, out_int, out_abs, out_gcd, List.map_cons, List.map_nil, List.length_cons, List.length_nil, List.replicate, List.cons_append, List.nil_append, List.append_nil, List.getElem?_cons_zero, List.getElem?_cons_succ, List.set_cons_zero, List.set_cons_succ, PV.bl.injEq, PV.int.injEq, PV.str.injEq, exists_eq_left', exists_eq_left, and_true, true_and, if_true, if_false, Bool.false_eq_true, Bool.true_eq_false, decide_eq_true_eq, Nat.sub_self, Nat.reduceAdd, Nat.reduceSub, Nat.reduceLeDiff, List.cons.injEq]
    refine (some_end hB hne (by omega)).imp fun v s h => ?_
    obtain ⟨B', hv, rfl, hB'⟩ := h
    obtain ⟨z, x, l, c, d, rfl, k1, k2, k3, k4⟩ := i2 v hv
    refine ⟨closed_end hB', ?_⟩
    rw [frz_pure rfl, out_some]
    exact ⟨z, x, l, c, d, B', rfl, k1, k2, k3, k4, take_end, hB'⟩
/-- what with_copy and the like begin with -/
theorem at_result (h : Tb w ps (B :: rest) t n) {B' : MO} (hB' : BagO B') {z x c : Str} {l d : Nat} (k1 : EntR (B :: rest) t z l) (k2 : w.Θ[l]? = some (.row z c d)) (k3 : HasK (B :: rest) d x) :
    Tb w ps (B' :: rest) t n ∧ EntR (B' :: rest) t z l ∧ HasK (B' :: rest) d x ∧ ∃ lot n', w.Γ z = some lot ∧ (B' :: rest)[l]? = some (.lst [.tup (lot.map .str), .str c, .ref d]) ∧ w.Θ[d]? = some (.res z) ∧
      oIxD (.ref t) (.str z) (B' :: rest) = some (.ref l) ∧ oIxD (.ref l) (.int 0) (B' :: rest) = some (.tup (lot.map .str)) ∧ oIxD (.ref l) (.int 2) (B' :: rest) = some (.ref d) ∧ oIxD (.ref d) (.str x) (B' :: rest) = some (.ref n') ∧ w.Θ[n']? = some (.nex z) := by
  have h' := h.bg hB'
  have X : Ext w (B :: rest) w (B' :: rest) := Ext.bg h.ok
  have e1 := X.tab _ _ _ h.tab k1
  obtain ⟨lot, a1, a2, a3, a4⟩ := row_at h'.ok k2
  have e2 := X.res _ _ _ a4 k3
  obtain ⟨n', b1, b2⟩ := res_ix h'.ok a4 e2
  exact ⟨h', e1, e2, lot, n', a1, a2, a4, (tab_ix h'.ok h'.tab e1).1, (row_ix a2).1, (row_ix a2).2.2.1, b1, b2⟩
theorem un2 {x y : PV} {st : Sto} : unpO (.tup [x, y]) st = some [x, y] := rfl
end
end Ge

/-! Ge5: a result twice; a loop back (plain). -/
namespace Ge
open PySem PySem.Spec PyProof.Rows L2 Mi
section
variable {w : Wo} {ps : List Str} {st : Sto} {B : MO} {rest : Sto} {t n : Nat}
/-- what the table's row for z reads -/
theorem rd (h : Tb w ps st t n) {z c : Str} {l d : Nat} (k1 : EntR st t z l) (k2 : w.Θ[l]? = some (.row z c d)) : ∃ lot, w.Γ z = some lot ∧ c ∈ lot ∧ w.Θ[d]? = some (.res z) ∧
    oIxD (.ref t) (.str z) st = some (.ref l) ∧ oIxD (.ref l) (.int 0) st = some (.tup (lot.map .str)) ∧ oIxD (.ref l) (.int 2) st = some (.ref d) ∧ unpO (.ref l) st = some [.tup (lot.map .str), .str c, .ref d] := by
  obtain ⟨lot, a1, a2, a3, a4⟩ := row_at h.ok k2
  exact ⟨lot, a1, a3, a4, (tab_ix h.ok h.tab k1).1, (row_ix a2).1, (row_ix a2).2.2.1, (row_ix a2).2.2.2⟩
theorem push_at (h : Ok w ps (B :: rest)) {ty : Ty} : (w.push ty).Θ[rest.length + 1]? = some ty := by
  have e : w.Θ.length = rest.length + 1 := h.len
  rw [← e]
  exact get_last
theorem lot_len (h : Ok w ps st) {z : Str} {lot : List Str} (e : w.Γ z = some lot) : lot.length ≤ 6 := by
  have h2 := nodup_len (h.g.lot z lot e).2.1.nodup (h.g.lot z lot e).2.2.2
  have h3 := h.g.pts.len
  omega
theorem dict_ref {r : Nat} {β : Type} {f : β → PV} {es : List (Str × β)} (e : st[r]? = some (.dic (mapD f es))) : oDict [.ref r] st = some (mapD f es) := by
  simp only [oDict, dictOf, e]
theorem dict_pairs {β : Type} {f : β → PV} {es : List (Str × β)} (h : (es.map (·.1)).Nodup) : oDict [.lst (es.map fun e => PV.tup [.str e.1, f e.2])] st = some (mapD f es) := by
  have e : asS st (.lst (es.map fun e => PV.tup [.str e.1, f e.2])) = some (es.map fun e => PV.tup [.str e.1, f e.2]) := rfl
  simp only [oDict, dictOf, e, pairsOf_map, Option.map_some]
  have := mergeP_mapD f es []
  rw [mergeA_new (by simpa using h)] at this
  simpa [mapD] using this
theorem tg2 {i j : Nat} {x y : PV} {env : MEnv} : tgSet (.tup [.nm i, .nm j]) (.tup [x, y]) st env = some ((env.set i (some x)).set j (some y)) := rfl
theorem tg3 {i j k : Nat} {x y u v : PV} {env : MEnv} (e : unpO v st = some [x, y, u]) : tgSet (.tup [.nm i, .nm j, .nm k]) v st env = some (((env.set i (some x)).set j (some y)).set k (some u)) := by
  simp only [tgSet, e, tgSets]
/-- a step with the table: it stays whole -/
def Stp (w : Wo) (ps : List Str) (st : Sto) (t n : Nat) (s : Sto) : Prop := ∃ w', Tb w' ps s t n ∧ Ext w st w' s
theorem get_old (h : Ok w ps st) {i : Nat} {ty : Ty} (e : w.Θ[i]? = some ty) {o : MO} : (st ++ [o])[i]? = st[i]? := by
  obtain ⟨h1, _⟩ := List.getElem?_eq_some_iff.mp e
  rw [h.len] at h1
  exact List.getElem?_append_left h1
theorem ne_of_ty {i j : Nat} {a b : Ty} (h1 : w.Θ[i]? = some a) (h2 : w.Θ[j]? = some b) (h : a ≠ b) : i ≠ j := fun e => by
  subst e
  rw [h1] at h2
  cases h2
  exact h rfl
/-- results[new] = nexts, the nexts at the end of the store -/
theorem put_new (h : Tb w ps st t n) {d m : Nat} {z x : Str} (hd : w.Θ[d]? = some (.res z)) (hm : w.Θ[m]? = some (.nex z)) (hx : Nmk x) (hz : z ≠ "last") (hlen : HasK st d x ∨ ∃ xs : List Str, oLenD [.ref d] st = some (.int xs.length) ∧ xs.length < 4) :
    ∃ st', oPutD (.ref d) (.str x) (.ref m) st = some st' ∧ Tb w ps st' t n ∧ Ext w st w st' ∧ HasK st' d x := by
  obtain ⟨st', e, ok, X, k, g⟩ := res_put h.ok hd hm hx hz hlen
  exact ⟨st', e, h.step X ok (g t (ne_of_ty h.tab hd (by simp))) rfl, X, k⟩
theorem k_copy (h : Tb w ps (B :: rest) t n) : OkF f__law_with_copy [.ref 0, .ref t] (B :: rest) fun _ s => Stp w ps (B :: rest) t n s := by
  refine of_defN rfl ?_
  simp only [b__law_with_copy, os_seq, os_skip, os_brk, os_cont, os_retN, os_drop, os_ret, os_retA, os_set, os_setA, os_if, os_asg, os_par, os_aug, os_put, os_augP, os_for, ok_var, ok_c, ok_nil, ok_cons, ok_tup, ok_lst, ok_new, ok_tst, ok_andT, ok_orT, ok_notT, ok_and, ok_or, ok_not, ok_if, ok_op, ok_un, ok_cl, ok_clF, ok_call, ok_mk, ok_noPart, ok_part, ok_cut, ok_mt, ok_chain, ok_it, ok_range1, ok_range2, ok_lc, ok_yes, out_some, out_none, out_add, out_sub, out_neg, out_le, out_gt, out_ge, out_lt, out_eqI, out_neI, out_int, out_abs, out_gcd, List.map_cons, List.map_nil, List.length_cons, List.length_nil, List.replicate, List.cons_append, List.nil_append, List.append_nil, List.getElem?_cons_zero, List.getElem?_cons_succ, List.set_cons_zero, List.set_cons_succ, PV.bl.injEq, PV.int.injEq, PV.str.injEq, exists_eq_left', exists_eq_left, and_true, true_and, if_true, if_false, Bool.false_eq_true, Bool.true_eq_false, decide_eq_true_eq, Nat.sub_self, Nat.reduceAdd, Nat.reduceSub, Nat.reduceLeDiff, List.cons.injEq]
  refine (k_result h).imp fun v s q => ?_
  obtain ⟨z, x, l, c, d, B1, rfl, k1, k2, k3, k4, rfl, hB1⟩ := q
  have X1 : Ext w (B :: rest) w (B1 :: rest) := Ext.bg h.ok
  have h1 := h.bg hB1
  have k1 := X1.tab _ _ _ h.tab k1
  obtain ⟨lot, a1, a2, a3, a4, a5, a6, a7⟩ := rd h1 k1 k2
  have k3 := X1.res _ _ _ a3 k3
  obtain ⟨xs, b1, b2, b3, b4⟩ := res_list h1.ok a3
  simp only [os_seq, os_skip, os_brk, os_cont, os_retN, os_drop, os_ret, os_retA, os_set, os_setA, os_if, os_asg, os_par, os_aug, os_put, os_augP, os_for, ok_var, ok_c, ok_nil, ok_cons, ok_tup, ok_lst, ok_new, ok_tst, ok_andT, ok_orT, ok_notT, ok_and, ok_or, ok_not, ok_if, ok_op, ok_un, ok_cl, ok_clF, ok_call, ok_mk, ok_noPart, ok_part, ok_cut, ok_mt, ok_chain, ok_it, ok_range1, ok_range2, ok_lc, ok_yes, out_some, out_none, out_add, out_sub, out_neg, out_le, out_gt, out_ge, out_lt, out_eqI, out_neI, out_int, out_abs, out_gcd, List.map_cons, List.map_nil, List.length_cons, List.length_nil, List.replicate, List.cons_append, List.nil_append, List.append_nil, List.getElem?_cons_zero, List.getElem?_cons_succ, List.set_cons_zero, List.set_cons_succ, PV.bl.injEq, PV.int.injEq, PV.str.injEq, exists_eq_left', exists_eq_left, and_true, true_and, if_true, if_false, Bool.false_eq_true, Bool.true_eq_false, decide_eq_true_eq, Nat.sub_self, Nat.reduceAdd, Nat.reduceSub, Nat.reduceLeDiff, List.cons.injEq, tg2, a4, a6, b2]
  split
  · rename_i hlt
    obtain ⟨m, c1, c2⟩ := res_ix h1.ok a3 k3
    obtain ⟨lot', qs, d1, d2, d3, d4⟩ := nex_at h1.ok c2
    rw [a1] at d1; cases d1
    simp only [os_putD, ok_newD, ok_clD, os_seq, os_skip, os_brk, os_cont, os_retN, os_drop, os_ret, os_retA, os_set, os_setA, os_if, os_asg, os_par, os_aug, os_put, os_augP, os_for, ok_var, ok_c, ok_nil, ok_cons, ok_tup, ok_lst, ok_new, ok_tst, ok_andT, ok_orT, ok_notT, ok_and, ok_or, ok_not, ok_if, ok_op, ok_un, ok_cl, ok_clF, ok_call, ok_mk, ok_noPart, ok_part, ok_cut, ok_mt, ok_chain, ok_it, ok_range1, ok_range2, ok_lc, ok_yes, out_some, out_none, out_add, out_sub, out_neg, out_le, out_gt, out_ge, out_lt, out_eqI, out_neI, out_int, out_abs, out_gcd, List.map_cons, List.map_nil, List.length_cons, List.length_nil, List.replicate, List.cons_append, List.nil_append, List.append_nil, List.getElem?_cons_zero, List.getElem?_cons_succ, List.set_cons_zero, List.set_cons_succ, PV.bl.injEq, PV.int.injEq, PV.str.injEq, exists_eq_left', exists_eq_left, and_true, true_and, if_true, if_false, Bool.false_eq_true, Bool.true_eq_false, decide_eq_true_eq, Nat.sub_self, Nat.reduceAdd, Nat.reduceSub, Nat.reduceLeDiff, List.cons.injEq, a4, a6, c1, dict_ref d2, List.cons_append]
    have ho : ObjOk (w.push (.nex z)) (.nex z) (.dic (mapD .str qs)) := ⟨lot, qs, a1, rfl, d3, d4⟩
    have h2 : Tb (w.push (.nex z)) ps (B1 :: (rest ++ [.dic (mapD .str qs)])) t n := h1.push ho
    have X2 : Ext w (B1 :: rest) (w.push (.nex z)) (B1 :: (rest ++ [.dic (mapD .str qs)])) := Ext.push h1.ok
    have k1 := X2.tab _ _ _ h1.tab k1
    have k2 := X2.ty _ _ k2 rfl
    obtain ⟨_, _, _, a3, a4, a5, a6, a7⟩ := rd h2 k1 k2
    obtain ⟨xs', e1, e2, e3, e4⟩ := res_list h2.ok a3
    have hxs : xs'.length = xs.length := by
      have : Nk (B1 :: (rest ++ [.dic (mapD .str qs)])) d xs.length := Nk.eq (st := B1 :: rest) b2 (get_old h1.ok (by assumption : w.Θ[d]? = some (.res z)))
      exact Nk.unique e2 this
    simp only [a4, a6, e1, out_some]
    refine (k_new_name hB1 (by omega)).imp fun v s q => ?_
    obtain ⟨y, B2, rfl, y1, y2, rfl, hB2⟩ := q
    have h3 := h2.bg hB2
    have X3 : Ext (w.push (.nex z)) (B1 :: (rest ++ [.dic (mapD .str qs)])) (w.push (.nex z)) (B2 :: (rest ++ [.dic (mapD .str qs)])) := Ext.bg h2.ok
    have e2n : Nk (B1 :: (rest ++ [.dic (mapD .str qs)])) d xs'.length := e2
    have e2' : Nk (B2 :: (rest ++ [.dic (mapD .str qs)])) d xs'.length := e2n.eq (cons_get (tab_ne0 h2.ok a3 (by simp)))
    have hlt' : xs'.length < 4 := by
      have : (xs.length : Int) < 4 := hlt
      omega
    obtain ⟨s', f1, f2, f3, _⟩ := put_new h3 a3 (push_at h1.ok) (names_nm y y1) k4 (.inr ⟨xs', e2', hlt'⟩)
    rw [f1, out_some]
    exact ⟨_, f2, X1.trans (X2.trans (X3.trans f3))⟩
  · exact ⟨w, h1, X1⟩
theorem dict_fun {β : Type} {f : β → PV} {g : Str → β} {lot : List Str} (h : lot.Nodup) : oDict [.lst (lot.map fun p => PV.tup [.str p, f (g p)])] st = some (mapD f (lot.map fun p => (p, g p))) := by
  have e : (lot.map fun p => PV.tup [.str p, f (g p)]) = (lot.map fun p => (p, g p)).map fun e => PV.tup [.str e.1, f e.2] := by
    rw [List.map_map]; rfl
  have e2 : (lot.map fun p => (p, g p)).map (·.1) = lot := by
    rw [List.map_map]
    exact List.map_id' _
  rw [e]
  exact dict_pairs (by rw [e2]; exact h)
theorem keys_fun {β : Type} {g : Str → β} {lot : List Str} : (lot.map fun p => (p, g p)).map (·.1) = lot := by
  rw [List.map_map]
  exact List.map_id' _
theorem filt {α : Type} {xs : List α} : xs.filter (fun _ => true) = xs := by simp
theorem k_loop (h : Tb w ps (B :: rest) t n) : OkF f__law_with_loop [.ref 0, .ref t] (B :: rest) fun _ s => Stp w ps (B :: rest) t n s := by
  refine of_defN rfl ?_
  simp only [b__law_with_loop, os_seq, os_skip, os_brk, os_cont, os_retN, os_drop, os_ret, os_retA, os_set, os_setA, os_if, os_asg, os_par, os_aug, os_put, os_augP, os_for, ok_var, ok_c, ok_nil, ok_cons, ok_tup, ok_lst, ok_new, ok_tst, ok_andT, ok_orT, ok_notT, ok_and, ok_or, ok_not, ok_if, ok_op, ok_un, ok_cl, ok_clF, ok_call, ok_mk, ok_noPart, ok_part, ok_cut, ok_mt, ok_chain, ok_it, ok_range1, ok_range2, ok_lc, ok_yes, out_some, out_none, out_add, out_sub, out_neg, out_le, out_gt, out_ge, out_lt, out_eqI, out_neI, out_int, out_abs, out_gcd, List.map_cons, List.map_nil, List.length_cons, List.length_nil, List.replicate, List.cons_append, List.nil_append, List.append_nil, List.getElem?_cons_zero, List.getElem?_cons_succ, List.set_cons_zero, List.set_cons_succ, PV.bl.injEq, PV.int.injEq, PV.str.injEq, exists_eq_left', exists_eq_left, and_true, true_and, if_true, if_false, Bool.false_eq_true, Bool.true_eq_false, decide_eq_true_eq, Nat.sub_self, Nat.reduceAdd, Nat.reduceSub, Nat.reduceLeDiff, List.cons.injEq]
  refine (k_result h).imp fun v s q => ?_
  obtain ⟨z, x, l, c, d, B1, rfl, k1, k2, k3, k4, rfl, hB1⟩ := q
  have X1 : Ext w (B :: rest) w (B1 :: rest) := Ext.bg h.ok
  have h1 := h.bg hB1
  have k1 := X1.tab _ _ _ h.tab k1
  obtain ⟨lot, a1, a2, a3, a4, a5, a6, a7⟩ := rd h1 k1 k2
  obtain ⟨xs, b1, b2, b3, b4⟩ := res_list h1.ok a3
  simp only [os_seq, os_skip, os_brk, os_cont, os_retN, os_drop, os_ret, os_retA, os_set, os_setA, os_if, os_asg, os_par, os_aug, os_put, os_augP, os_for, ok_var, ok_c, ok_nil, ok_cons, ok_tup, ok_lst, ok_new, ok_tst, ok_andT, ok_orT, ok_notT, ok_and, ok_or, ok_not, ok_if, ok_op, ok_un, ok_cl, ok_clF, ok_call, ok_mk, ok_noPart, ok_part, ok_cut, ok_mt, ok_chain, ok_it, ok_range1, ok_range2, ok_lc, ok_yes, out_some, out_none, out_add, out_sub, out_neg, out_le, out_gt, out_ge, out_lt, out_eqI, out_neI, out_int, out_abs, out_gcd, List.map_cons, List.map_nil, List.length_cons, List.length_nil, List.replicate, List.cons_append, List.nil_append, List.append_nil, List.getElem?_cons_zero, List.getElem?_cons_succ, List.set_cons_zero, List.set_cons_succ, PV.bl.injEq, PV.int.injEq, PV.str.injEq, exists_eq_left', exists_eq_left, and_true, true_and, if_true, if_false, Bool.false_eq_true, Bool.true_eq_false, decide_eq_true_eq, Nat.sub_self, Nat.reduceAdd, Nat.reduceSub, Nat.reduceLeDiff, List.cons.injEq, ixD_t, atI_0, a4, a6, b2]
  split
  · rename_i hlt
    have hl6 := lot_len h1.ok a1
    simp only [os_putD, ok_newD, ok_clD, os_seq, os_skip, os_brk, os_cont, os_retN, os_drop, os_ret, os_retA, os_set, os_setA, os_if, os_asg, os_par, os_aug, os_put, os_augP, os_for, ok_var, ok_c, ok_nil, ok_cons, ok_tup, ok_lst, ok_new, ok_tst, ok_andT, ok_orT, ok_notT, ok_and, ok_or, ok_not, ok_if, ok_op, ok_un, ok_cl, ok_clF, ok_call, ok_mk, ok_noPart, ok_part, ok_cut, ok_mt, ok_chain, ok_it, ok_range1, ok_range2, ok_lc, ok_yes, out_some, out_none, out_add, out_sub, out_neg, out_le, out_gt, out_ge, out_lt, out_eqI, out_neI, out_int, out_abs, out_gcd, List.map_cons, List.map_nil, List.length_cons, List.length_nil, List.replicate, List.cons_append, List.nil_append, List.append_nil, List.getElem?_cons_zero, List.getElem?_cons_succ, List.set_cons_zero, List.set_cons_succ, PV.bl.injEq, PV.int.injEq, PV.str.injEq, exists_eq_left', exists_eq_left, and_true, true_and, if_true, if_false, Bool.false_eq_true, Bool.true_eq_false, decide_eq_true_eq, Nat.sub_self, Nat.reduceAdd, Nat.reduceSub, Nat.reduceLeDiff, List.cons.injEq, a4, a5, it_t, wipeM]
    rw [comp_strs (p := fun _ => true) (g := fun p => .tup [.str p, .str z]) chk_none lot fun x _ => ⟨rfl, fun _ => ok_eq (by simp only [os_seq, os_skip, os_brk, os_cont, os_retN, os_drop, os_ret, os_retA, os_set, os_setA, os_if, os_asg, os_par, os_aug, os_put, os_augP, os_for, ok_var, ok_c, ok_nil, ok_cons, ok_tup, ok_lst, ok_new, ok_tst, ok_andT, ok_orT, ok_notT, ok_and, ok_or, ok_not, ok_if, ok_op, ok_un, ok_cl, ok_clF, ok_call, ok_mk, ok_noPart, ok_part, ok_cut, ok_mt, ok_chain, ok_it, ok_range1, ok_range2, ok_lc, ok_yes, out_some, out_none, out_add, out_sub, out_neg, out_le, out_gt, out_ge, out_lt, out_eqI, out_neI, out_int, out_abs, out_gcd, List.map_cons, List.map_nil, List.length_cons, List.length_nil, List.replicate, List.cons_append, List.nil_append, List.append_nil, List.getElem?_cons_zero, List.getElem?_cons_succ, List.set_cons_zero, List.set_cons_succ, PV.bl.injEq, PV.int.injEq, PV.str.injEq, exists_eq_left', exists_eq_left, and_true, true_and, if_true, if_false, Bool.false_eq_true, Bool.true_eq_false, decide_eq_true_eq, Nat.sub_self, Nat.reduceAdd, Nat.reduceSub, Nat.reduceLeDiff, List.cons.injEq, sl (show 2 ≤ 1000 by decide)])⟩, out_some]
    simp only [filt]
    rw [dict_fun (f := PV.str) (g := fun _ => z) (h1.ok.g.lot z lot a1).2.1.nodup, out_some]
    have ho : ObjOk (w.push (.nex z)) (.nex z) (.dic (mapD .str (lot.map fun p => (p, z)))) := by
      refine ⟨lot, _, a1, rfl, by rw [keys_fun], fun e he => ?_⟩
      obtain ⟨p, hp, rfl⟩ := List.mem_map.mp he
      exact ⟨lot, a1, hp⟩
    generalize hq : MO.dic (mapD PV.str (lot.map fun p => (p, z))) = o at ho ⊢
    have h2 : Tb (w.push (.nex z)) ps (B1 :: (rest ++ [o])) t n := h1.push ho
    have X2 : Ext w (B1 :: rest) (w.push (.nex z)) (B1 :: (rest ++ [o])) := Ext.push h1.ok
    have k1 := X2.tab _ _ _ h1.tab k1
    have k2 := X2.ty _ _ k2 rfl
    obtain ⟨_, _, _, a3', a4', a5', a6', a7'⟩ := rd h2 k1 k2
    obtain ⟨xs', e1, e2, e3, e4⟩ := res_list h2.ok a3'
    have hxs : xs'.length = xs.length := by
      have : Nk (B1 :: (rest ++ [o])) d xs.length := Nk.eq (st := B1 :: rest) b2 (get_old h1.ok a3)
      exact Nk.unique e2 this
    simp only [List.cons_append, List.length_cons, a4', a6', e1, out_some]
    refine (k_new_name hB1 (by omega)).imp fun v s q => ?_
    obtain ⟨y, B2, rfl, y1, y2, rfl, hB2⟩ := q
    have h3 := h2.bg hB2
    have X3 : Ext (w.push (.nex z)) (B1 :: (rest ++ [o])) (w.push (.nex z)) (B2 :: (rest ++ [o])) := Ext.bg h2.ok
    have e2n : Nk (B1 :: (rest ++ [o])) d xs'.length := e2
    have e2' : Nk (B2 :: (rest ++ [o])) d xs'.length := e2n.eq (cons_get (tab_ne0 h2.ok a3' (by simp)))
    have hlt' : xs'.length < 4 := by
      have : (xs.length : Int) < 4 := hlt
      omega
    obtain ⟨s', f1, f2, f3, _⟩ := put_new h3 a3' (push_at h1.ok) (names_nm y y1) k4 (.inr ⟨xs', e2', hlt'⟩)
    rw [f1, out_some]
    exact ⟨_, f2, X1.trans (X2.trans (X3.trans f3))⟩
  · exact ⟨w, h1, X1⟩
end
end Ge

/-! Ge6: a round more (plain). -/
namespace Ge
open PySem PySem.Spec PyProof.Rows L2 Mi
section
variable {w : Wo} {ps : List Str} {st : Sto} {B : MO} {rest : Sto} {t n : Nat}
theorem list_t {xs : List PV} : oListD [.tup xs] st = some xs := rfl
theorem strs_at {zs : List Str} {v : PV} (h : v ∈ zs.map PV.str) : ∃ z, v = .str z ∧ z ∈ zs := by
  obtain ⟨z, hz, rfl⟩ := List.mem_map.mp h
  exact ⟨z, rfl, hz⟩
theorem keyed1 {z : Str} {y : PV} : keyed [(.str z, y)] = true := rfl
theorem merge1 {z : Str} {r : Nat} : mergeP [] [(.str z, .ref r)] = mapD .ref [(z, r)] := rfl
/-- the loop that leads the parties to the new round -/
def IvRound (w : Wo) (ps : List Str) (s0 : Sto) (t : Nat) (env : List (Option PV)) (k : Nat) (e : MEnv) (s : Sto) : Prop :=
  ∃ x9, e = env ++ [x9] ∧ Ok w ps s ∧ Ext w s0 w s ∧ s[t]? = s0[t]?
/-- a new row in the table: it is whole again -/
theorem Tb.more (h : Tb w ps st t n) {w' : Wo} {s s1 : Sto} {y c : Str} {l d : Nat} (X : Ext w st w' s) (gam : ∀ z lot, w'.Γ z = some lot → z = y ∨ w.Γ z = some lot) (ht : s[t]? = st[t]?)
    (hl : w'.Θ[l]? = some (.row y c d)) (hd : y = "last" ∨ ∃ x, HasK s1 d x) (ok : Ok w' ps s1) (X1 : Ext w' s w' s1) (e : EntR s1 t y l) (hn : Nk s1 t (n + 1)) (ho : ∀ x l', EntR s1 t x l' → x = y ∨ EntR s t x l') : Tb w' ps s1 t (n + 1) := by
  refine ⟨ok, X.ty _ _ h.tab rfl, fun z lot k => ?_, fun z l' c' d' e' hl' hz => ?_, hn⟩
  · rcases gam z lot k with rfl | k
    · exact ⟨l, e⟩
    · obtain ⟨l', hl'⟩ := h.done z lot k
      exact ⟨l', X1.tab _ _ _ (X.ty _ _ h.tab rfl) (X.tab _ _ _ h.tab hl')⟩
  · rcases ho z l' e' with rfl | e0
    · obtain ⟨es, a, b⟩ := e
      obtain ⟨es', a', b'⟩ := e'
      rw [a] at a'
      cases mapD_ref_inj (MO.dic.inj (Option.some.inj a'))
      rw [b] at b'
      cases b'
      rw [hl] at hl'
      cases hl'
      rcases hd with k | k
      · exact absurd k hz
      · exact k
    · have e1 := e0.eq (s := st) ht.symm
      obtain ⟨_, c2, d2, k2⟩ := tab_ix h.ok h.tab e1
      have := X.ty _ _ k2 rfl
      rw [hl'] at this
      cases this
      obtain ⟨x, hx⟩ := h.full z l' c' d' e1 k2 hz
      obtain ⟨_, _, _, _, k3⟩ := row_at h.ok k2
      exact ⟨x, X1.res _ _ _ (X.ty _ _ k3 rfl) (X.res _ _ _ k3 hx)⟩
theorem k_round (h : Tb w ps (B :: rest) t n) (hn : n < 25) : OkF f__law_with_round [.ref 0, .ref t] (B :: rest) fun _ s => Stp w ps (B :: rest) t (n + 1) s := by
  refine of_defN rfl ?_
  simp only [b__law_with_round, os_seq, os_skip, os_brk, os_cont, os_retN, os_drop, os_ret, os_retA, os_set, os_setA, os_if, os_asg, os_par, os_aug, os_put, os_augP, os_for, ok_var, ok_c, ok_nil, ok_cons, ok_tup, ok_lst, ok_new, ok_tst, ok_andT, ok_orT, ok_notT, ok_and, ok_or, ok_not, ok_if, ok_op, ok_un, ok_cl, ok_clF, ok_call, ok_mk, ok_noPart, ok_part, ok_cut, ok_mt, ok_chain, ok_it, ok_range1, ok_range2, ok_lc, ok_yes, out_some, out_none, out_add, out_sub, out_neg, out_le, out_gt, out_ge, out_lt, out_eqI, out_neI, out_int, out_abs, out_gcd, List.map_cons, List.map_nil, List.length_cons, List.length_nil, List.replicate, List.cons_append, List.nil_append, List.append_nil, List.getElem?_cons_zero, List.getElem?_cons_succ, List.set_cons_zero, List.set_cons_succ, PV.bl.injEq, PV.int.injEq, PV.str.injEq, exists_eq_left', exists_eq_left, and_true, true_and, if_true, if_false, Bool.false_eq_true, Bool.true_eq_false, decide_eq_true_eq, Nat.sub_self, Nat.reduceAdd, Nat.reduceSub, Nat.reduceLeDiff, List.cons.injEq]
  refine (k_result h).imp fun v s q => ?_
  obtain ⟨z, x, l, c, d, B1, rfl, k1, k2, k3, k4, rfl, hB1⟩ := q
  have X1 : Ext w (B :: rest) w (B1 :: rest) := Ext.bg h.ok
  have h1 := h.bg hB1
  have k1 := X1.tab _ _ _ h.tab k1
  obtain ⟨lot, a1, a2, a3, a4, a5, a6, a7⟩ := rd h1 k1 k2
  have k3 := X1.res _ _ _ a3 k3
  have hl6 := lot_len h1.ok a1
  have hlot := h1.ok.g.lot z lot a1
  simp only [os_seq, os_skip, os_brk, os_cont, os_retN, os_drop, os_ret, os_retA, os_set, os_setA, os_if, os_asg, os_par, os_aug, os_put, os_augP, os_for, ok_var, ok_c, ok_nil, ok_cons, ok_tup, ok_lst, ok_new, ok_tst, ok_andT, ok_orT, ok_notT, ok_and, ok_or, ok_not, ok_if, ok_op, ok_un, ok_cl, ok_clF, ok_call, ok_mk, ok_noPart, ok_part, ok_cut, ok_mt, ok_chain, ok_it, ok_range1, ok_range2, ok_lc, ok_yes, out_some, out_none, out_add, out_sub, out_neg, out_le, out_gt, out_ge, out_lt, out_eqI, out_neI, out_int, out_abs, out_gcd, List.map_cons, List.map_nil, List.length_cons, List.length_nil, List.replicate, List.cons_append, List.nil_append, List.append_nil, List.getElem?_cons_zero, List.getElem?_cons_succ, List.set_cons_zero, List.set_cons_succ, PV.bl.injEq, PV.int.injEq, PV.str.injEq, exists_eq_left', exists_eq_left, and_true, true_and, if_true, if_false, Bool.false_eq_true, Bool.true_eq_false, decide_eq_true_eq, Nat.sub_self, Nat.reduceAdd, Nat.reduceSub, Nat.reduceLeDiff, List.cons.injEq, tg2, a4, a5, list_t]
  refine (k_mixed hB1 (pure_strs lot) (by rw [List.length_map]; omega)).imp fun v s q => ?_
  obtain ⟨ys, B2, rfl, hy, rfl, hB2⟩ := q
  obtain ⟨us, rfl, hu⟩ := perm_strs hy
  have hlen0 : 0 < lot.length := List.length_pos_iff.mpr hlot.2.2.1
  simp only [lenD_t, out_some, List.length_map]
  refine (k_take hB2 (by omega) (logOk_small (by omega))).imp fun v s q => ?_
  obtain ⟨i, B3, rfl, rfl, hB3, g0, g1⟩ := q
  have X3 : Ext w (B1 :: rest) w (B3 :: rest) := Ext.bg h1.ok
  have h3 := h1.bg hB3
  have k1 := X3.tab _ _ _ h1.tab k1
  obtain ⟨_, _, _, _, a4, a5, a6, _⟩ := rd h3 k1 k2
  have k3 := X3.res _ _ _ a3 k3
  obtain ⟨m, c1, c2⟩ := res_ix h3.ok a3 k3
  obtain ⟨zs, t1, t2, t3, t4⟩ := tab_list h3.ok h3.tab
  have hzs : zs.length = n := Nk.unique t2 h3.nk
  obtain ⟨s1, s2, s3, s4⟩ := lot_of (B := B) (rest := rest) hlot.2.1.nodup hu hlot.2.2.1 g0
  have hle : (us.take (1 + i).toNat).length ≤ 6 := by rw [List.length_take, hu.length_eq]; omega
  simp only [os_seq, os_skip, os_brk, os_cont, os_retN, os_drop, os_ret, os_retA, os_set, os_setA, os_if, os_asg, os_par, os_aug, os_put, os_augP, os_for, ok_var, ok_c, ok_nil, ok_cons, ok_tup, ok_lst, ok_new, ok_tst, ok_andT, ok_orT, ok_notT, ok_and, ok_or, ok_not, ok_if, ok_op, ok_un, ok_cl, ok_clF, ok_call, ok_mk, ok_noPart, ok_part, ok_cut, ok_mt, ok_chain, ok_it, ok_range1, ok_range2, ok_lc, ok_yes, out_some, out_none, out_add, out_sub, out_neg, out_le, out_gt, out_ge, out_lt, out_eqI, out_neI, out_int, out_abs, out_gcd, List.map_cons, List.map_nil, List.length_cons, List.length_nil, List.replicate, List.cons_append, List.nil_append, List.append_nil, List.getElem?_cons_zero, List.getElem?_cons_succ, List.set_cons_zero, List.set_cons_succ, PV.bl.injEq, PV.int.injEq, PV.str.injEq, exists_eq_left', exists_eq_left, and_true, true_and, if_true, if_false, Bool.false_eq_true, Bool.true_eq_false, decide_eq_true_eq, Nat.sub_self, Nat.reduceAdd, Nat.reduceSub, Nat.reduceLeDiff, List.cons.injEq, cut_l', cutP_hi (show (0 : Int) ≤ 1 + i by omega), ← List.map_take]
  rw [sorted_l (by omega) fun z' hz' => ?_]
  rotate_left
  · exact (h1.ok.g.pts.nm _ (hlot.2.2.2 z' (hu.mem_iff.mp (List.mem_of_mem_take hz')))).line
  generalize sortS (us.take (1 + i).toNat) = sub at s1 s2 s3 s4 ⊢
  have hsub6 : sub.length ≤ 6 := by
    have := nodup_len s1.nodup s3
    omega
  simp only [os_seq, os_skip, os_brk, os_cont, os_retN, os_drop, os_ret, os_retA, os_set, os_setA, os_if, os_asg, os_par, os_aug, os_put, os_augP, os_for, ok_var, ok_c, ok_nil, ok_cons, ok_tup, ok_lst, ok_new, ok_tst, ok_andT, ok_orT, ok_notT, ok_and, ok_or, ok_not, ok_if, ok_op, ok_un, ok_cl, ok_clF, ok_call, ok_mk, ok_noPart, ok_part, ok_cut, ok_mt, ok_chain, ok_it, ok_range1, ok_range2, ok_lc, ok_yes, out_some, out_none, out_add, out_sub, out_neg, out_le, out_gt, out_ge, out_lt, out_eqI, out_neI, out_int, out_abs, out_gcd, List.map_cons, List.map_nil, List.length_cons, List.length_nil, List.replicate, List.cons_append, List.nil_append, List.append_nil, List.getElem?_cons_zero, List.getElem?_cons_succ, List.set_cons_zero, List.set_cons_succ, PV.bl.injEq, PV.int.injEq, PV.str.injEq, exists_eq_left', exists_eq_left, and_true, true_and, if_true, if_false, Bool.false_eq_true, Bool.true_eq_false, decide_eq_true_eq, Nat.sub_self, Nat.reduceAdd, Nat.reduceSub, Nat.reduceLeDiff, List.cons.injEq, tuple_l, t1]
  refine (k_new_name hB3 (by omega)).imp fun v s q => ?_
  obtain ⟨y, B4, rfl, y1, y2, rfl, hB4⟩ := q
  have X4 : Ext w (B3 :: rest) w (B4 :: rest) := Ext.bg h3.ok
  have h4 := h3.bg hB4
  have k1 := X4.tab _ _ _ h3.tab k1
  obtain ⟨_, _, _, _, a4, a5, a6, _⟩ := rd h4 k1 k2
  have k3 := X4.res _ _ _ a3 k3
  obtain ⟨m, c1, c2⟩ := res_ix h4.ok a3 k3
  obtain ⟨lot', qs, d1, d2, d3, d4⟩ := nex_at h4.ok c2
  rw [a1] at d1; cases d1
  have hval : ∀ p ∈ sub, ∃ v, getA qs p = some v ∧ Tgt w v p := fun p hp => by
    obtain ⟨v, e1, e2⟩ := getA_some (d3.mem_iff.mpr (s3 p hp))
    exact ⟨v, e1, d4 _ e2⟩
  simp only [os_seq, os_skip, os_brk, os_cont, os_retN, os_drop, os_ret, os_retA, os_set, os_setA, os_if, os_asg, os_par, os_aug, os_put, os_augP, os_for, ok_var, ok_c, ok_nil, ok_cons, ok_tup, ok_lst, ok_new, ok_tst, ok_andT, ok_orT, ok_notT, ok_and, ok_or, ok_not, ok_if, ok_op, ok_un, ok_cl, ok_clF, ok_call, ok_mk, ok_noPart, ok_part, ok_cut, ok_mt, ok_chain, ok_it, ok_range1, ok_range2, ok_lc, ok_yes, out_some, out_none, out_add, out_sub, out_neg, out_le, out_gt, out_ge, out_lt, out_eqI, out_neI, out_int, out_abs, out_gcd, List.map_cons, List.map_nil, List.length_cons, List.length_nil, List.replicate, List.cons_append, List.nil_append, List.append_nil, List.getElem?_cons_zero, List.getElem?_cons_succ, List.set_cons_zero, List.set_cons_succ, PV.bl.injEq, PV.int.injEq, PV.str.injEq, exists_eq_left', exists_eq_left, and_true, true_and, if_true, if_false, Bool.false_eq_true, Bool.true_eq_false, decide_eq_true_eq, Nat.sub_self, Nat.reduceAdd, Nat.reduceSub, Nat.reduceLeDiff, List.cons.injEq, a4, a6, c1, sl (show 2 ≤ 1000 by decide), tg2, ok_newD, ok_clD, it_t, wipeM]
  rw [comp_strs (p := fun _ => true) (g := fun p => .tup [.str p, .str ((getA qs p).getD "")]) chk_none sub fun p hp => ⟨rfl, fun _ => ok_eq (by
    obtain ⟨v, e1, _⟩ := hval p hp
    simp only [os_seq, os_skip, os_brk, os_cont, os_retN, os_drop, os_ret, os_retA, os_set, os_setA, os_if, os_asg, os_par, os_aug, os_put, os_augP, os_for, ok_var, ok_c, ok_nil, ok_cons, ok_tup, ok_lst, ok_new, ok_tst, ok_andT, ok_orT, ok_notT, ok_and, ok_or, ok_not, ok_if, ok_op, ok_un, ok_cl, ok_clF, ok_call, ok_mk, ok_noPart, ok_part, ok_cut, ok_mt, ok_chain, ok_it, ok_range1, ok_range2, ok_lc, ok_yes, out_some, out_none, out_add, out_sub, out_neg, out_le, out_gt, out_ge, out_lt, out_eqI, out_neI, out_int, out_abs, out_gcd, List.map_cons, List.map_nil, List.length_cons, List.length_nil, List.replicate, List.cons_append, List.nil_append, List.append_nil, List.getElem?_cons_zero, List.getElem?_cons_succ, List.set_cons_zero, List.set_cons_succ, PV.bl.injEq, PV.int.injEq, PV.str.injEq, exists_eq_left', exists_eq_left, and_true, true_and, if_true, if_false, Bool.false_eq_true, Bool.true_eq_false, decide_eq_true_eq, Nat.sub_self, Nat.reduceAdd, Nat.reduceSub, Nat.reduceLeDiff, List.cons.injEq, ixD_ref d2, e1, Option.map_some, Option.getD_some, sl (show 2 ≤ 1000 by decide)])⟩, out_some]
  simp only [filt]
  rw [dict_fun (f := PV.str) (g := fun p => (getA qs p).getD "") s1.nodup, out_some]
  have hnone : w.Γ y = none := by
    cases e : w.Γ y with
    | none => rfl
    | some lt =>
      obtain ⟨l', hl'⟩ := h3.done y lt e
      exact absurd ((t4 y).mpr ⟨l', hl'⟩) y2
  obtain ⟨okA, XA⟩ := h4.ok.add hnone (names_nm y y1) s1 s2 fun p hp => hlot.2.2.2 p (s3 p hp)
  have hself : (w.add y sub).Γ y = some sub := Wo.add_self
  have ho1 : ObjOk ((w.add y sub).push (.nex y)) (.nex y) (.dic (mapD .str (sub.map fun p => (p, (getA qs p).getD "")))) := by
    refine ⟨sub, _, hself, rfl, by rw [keys_fun], fun e he => ?_⟩
    obtain ⟨p, hp, rfl⟩ := List.mem_map.mp he
    obtain ⟨v, e1, e2⟩ := hval p hp
    show Tgt _ ((getA qs p).getD "") p
    rw [e1]
    exact e2.ext XA.gam
  generalize hq : MO.dic (mapD PV.str (sub.map fun p => (p, (getA qs p).getD ""))) = o1 at ho1 ⊢
  have ok1 := okA.push ho1
  have XB : Ext (w.add y sub) (B4 :: rest) ((w.add y sub).push (.nex y)) (B4 :: (rest ++ [o1])) := Ext.push okA
  simp only [List.cons_append, List.length_cons, os_putD, ok_newA, os_seq, os_skip, os_brk, os_cont, os_retN, os_drop, os_ret, os_retA, os_set, os_setA, os_if, os_asg, os_par, os_aug, os_put, os_augP, os_for, ok_var, ok_c, ok_nil, ok_cons, ok_tup, ok_lst, ok_new, ok_tst, ok_andT, ok_orT, ok_notT, ok_and, ok_or, ok_not, ok_if, ok_op, ok_un, ok_cl, ok_clF, ok_call, ok_mk, ok_noPart, ok_part, ok_cut, ok_mt, ok_chain, ok_it, ok_range1, ok_range2, ok_lc, ok_yes, out_some, out_none, out_add, out_sub, out_neg, out_le, out_gt, out_ge, out_lt, out_eqI, out_neI, out_int, out_abs, out_gcd, List.map_cons, List.map_nil, List.length_cons, List.length_nil, List.replicate, List.cons_append, List.nil_append, List.append_nil, List.getElem?_cons_zero, List.getElem?_cons_succ, List.set_cons_zero, List.set_cons_succ, PV.bl.injEq, PV.int.injEq, PV.str.injEq, exists_eq_left', exists_eq_left, and_true, true_and, if_true, if_false, Bool.false_eq_true, Bool.true_eq_false, decide_eq_true_eq, Nat.sub_self, Nat.reduceAdd, Nat.reduceSub, Nat.reduceLeDiff, List.cons.injEq]
  refine (some_tup hB4 (fun e => s2 (List.map_eq_nil_iff.mp e)) (by rw [List.length_map]; omega)).imp fun v s q => ?_
  obtain ⟨B5, hv, rfl, hB5⟩ := q
  obtain ⟨c', rfl, hc'⟩ := strs_at hv
  simp only [ok_newD, ok_disp, ok_pairs1, ok_pairs0, os_seq, os_skip, os_brk, os_cont, os_retN, os_drop, os_ret, os_retA, os_set, os_setA, os_if, os_asg, os_par, os_aug, os_put, os_augP, os_for, ok_var, ok_c, ok_nil, ok_cons, ok_tup, ok_lst, ok_new, ok_tst, ok_andT, ok_orT, ok_notT, ok_and, ok_or, ok_not, ok_if, ok_op, ok_un, ok_cl, ok_clF, ok_call, ok_mk, ok_noPart, ok_part, ok_cut, ok_mt, ok_chain, ok_it, ok_range1, ok_range2, ok_lc, ok_yes, out_some, out_none, out_add, out_sub, out_neg, out_le, out_gt, out_ge, out_lt, out_eqI, out_neI, out_int, out_abs, out_gcd, List.map_cons, List.map_nil, List.length_cons, List.length_nil, List.replicate, List.cons_append, List.nil_append, List.append_nil, List.getElem?_cons_zero, List.getElem?_cons_succ, List.set_cons_zero, List.set_cons_succ, PV.bl.injEq, PV.int.injEq, PV.str.injEq, exists_eq_left', exists_eq_left, and_true, true_and, if_true, if_false, Bool.false_eq_true, Bool.true_eq_false, decide_eq_true_eq, Nat.sub_self, Nat.reduceAdd, Nat.reduceSub, Nat.reduceLeDiff, List.cons.injEq, sl (show 3 ≤ 1000 by decide)]
  refine (some_lst hB5 (by simp) (by simp)).imp fun v s q => ?_
  obtain ⟨B6, hv, rfl, hB6⟩ := q
  obtain ⟨wd, rfl, hwd⟩ : ∃ wd, v = .str wd ∧ Nmk wd := by
    simp only [List.mem_cons, List.not_mem_nil, or_false] at hv
    rcases hv with rfl | rfl | rfl
    · exact ⟨_, rfl, by decide +kernel⟩
    · exact ⟨_, rfl, by decide +kernel⟩
    · exact ⟨_, rfl, by decide +kernel⟩
  have okB : Ok ((w.add y sub).push (.nex y)) ps (B6 :: (rest ++ [o1])) := ok1.bg hB6
  have XB' : Ext ((w.add y sub).push (.nex y)) (B4 :: (rest ++ [o1])) ((w.add y sub).push (.nex y)) (B6 :: (rest ++ [o1])) := Ext.bg ok1
  have r1 : ((w.add y sub).push (.nex y)).Θ[rest.length + 1]? = some (.nex y) := push_at okA
  have hself2 : ((w.add y sub).push (.nex y)).Γ y = some sub := hself
  have gam2 : ∀ z lot, ((w.add y sub).push (.nex y)).Γ z = some lot → z = y ∨ w.Γ z = some lot := fun z lot e => by
    have e : (if z = y then some sub else w.Γ z) = some lot := e
    by_cases hz : z = y
    · exact .inl hz
    · rw [if_neg hz] at e; exact .inr e
  generalize (w.add y sub).push (.nex y) = w2 at ok1 XB okB XB' r1 hself2 gam2
  generalize hs6 : B6 :: (rest ++ [o1]) = s6 at okB XB' ⊢
  have ht6 : s6[t]? = (B4 :: rest)[t]? := by
    rw [← hs6, cons_get (B := B4) (tab_ne0 h4.ok h4.tab (by decide))]
    exact get_old (o := o1) h4.ok h4.tab
  have X6 : Ext w (B4 :: rest) w2 s6 := XA.trans (XB.trans XB')
  have tab6 := X6.ty _ _ h4.tab rfl
  rw [merge1]
  have ho2 : ObjOk (w2.push (.res y)) (.res y) (.dic (mapD .ref [(wd, rest.length + 1)])) := by
    refine ⟨[(wd, rest.length + 1)], rfl, by simp, by simp, fun e he => ?_, fun e => absurd e (names_ne y y1).2⟩
    simp only [List.mem_cons, List.not_mem_nil, or_false] at he
    subst he
    exact ⟨hwd, get_push r1⟩
  have hk2 : HasK (s6 ++ [.dic (mapD .ref [(wd, rest.length + 1)])]) s6.length wd := ⟨_, get_last, by simp⟩
  generalize MO.dic (mapD PV.ref [(wd, rest.length + 1)]) = o2 at ho2 hk2 ⊢
  have ok7 := okB.push ho2
  have X7 : Ext w2 s6 (w2.push (.res y)) (s6 ++ [o2]) := Ext.push okB
  have r2 : (w2.push (.res y)).Θ[s6.length]? = some (.res y) := by
    rw [← okB.len]; exact get_last
  have hself3 : (w2.push (.res y)).Γ y = some sub := hself2
  have gam3 : ∀ z lot, (w2.push (.res y)).Γ z = some lot → z = y ∨ w.Γ z = some lot := gam2
  have ht7 : (s6 ++ [o2])[t]? = (B4 :: rest)[t]? := (get_old okB tab6).trans ht6
  generalize w2.push (.res y) = w3 at ok7 X7 r2 hself3 gam3
  generalize hs7 : s6 ++ [o2] = s7 at ok7 X7 ht7 hk2 ⊢
  have tab7 := X7.ty _ _ tab6 rfl
  have ho3 : ObjOk (w3.push (.row y c' s6.length)) (.row y c' s6.length) (.lst [.tup (sub.map .str), .str c', .ref s6.length]) := ⟨sub, hself3, rfl, hc', get_push r2⟩
  generalize hl3 : MO.lst [.tup (sub.map .str), .str c', .ref s6.length] = o3 at ho3 ⊢
  have ok8 := ok7.push ho3
  have X8 : Ext w3 s7 (w3.push (.row y c' s6.length)) (s7 ++ [o3]) := Ext.push ok7
  have r3 : (w3.push (.row y c' s6.length)).Θ[s7.length]? = some (.row y c' s6.length) := by
    rw [← ok7.len]; exact get_last
  have hself4 : (w3.push (.row y c' s6.length)).Γ y = some sub := hself3
  have gam4 : ∀ z lot, (w3.push (.row y c' s6.length)).Γ z = some lot → z = y ∨ w.Γ z = some lot := gam3
  have ht8 : (s7 ++ [o3])[t]? = (B4 :: rest)[t]? := (get_old ok7 tab7).trans ht7
  generalize w3.push (.row y c' s6.length) = w4 at ok8 X8 r3 hself4 gam4
  generalize hs8 : s7 ++ [o3] = s8 at ok8 X8 ht8 ⊢
  have hk8 := X8.res _ _ _ r2 hk2
  have XX : Ext w (B4 :: rest) w4 s8 := X6.trans (X7.trans X8)
  have tab8 := XX.ty _ _ h4.tab rfl
  have ht83 : s8[t]? = (B3 :: rest)[t]? := ht8.trans (cons_get (tab_ne0 h4.ok h4.tab (by decide)))
  have t2n : Nk (B3 :: rest) t zs.length := t2
  obtain ⟨s9, p1, p2, p3, p4, p5, p6, p7⟩ := tab_put ok8 tab8 r3 hself4 (zs := zs) (by omega) (fun x => (t4 x).trans ⟨fun ⟨l, e⟩ => ⟨l, e.eq ht83⟩, fun ⟨l, e⟩ => ⟨l, e.eq ht83.symm⟩⟩) (t2n.eq ht83) y2
  rw [p1, out_some, it_t, out_some]
  refine ⟨rfl, ?_⟩
  have hnk9 : Nk s9 t (n + 1) := by rw [← hzs]; exact p5
  have hm : w4.Θ[m]? = some (.nex z) := XX.ty _ _ c2 rfl
  have hT9 : Tb w4 ps s9 t (n + 1) := h4.more XX gam4 ht8 r3 (.inr ⟨wd, p3.res _ _ _ (X8.ty _ _ r2 rfl) hk8⟩) p2 p3 p4 hnk9 p6
  refine for_inv (IvRound w4 ps s9 t [some (.ref 0), some (.ref t), some (.str z), some (.str x), some (.tup (lot.map .str)), some (.tup (sub.map .str)), some (.str y), some (.ref m), some (.ref (rest.length + 1))]) (sub.map .str) (sub.map .str) 0 _ _ ?_ ?_ ⟨none, rfl, p2, Ext.rfl', rfl⟩
  · rintro j v e s hv ⟨x9, rfl, i1, i2, i3⟩
    obtain ⟨p, rfl, hp⟩ := strs_at (List.mem_of_getElem? hv)
    obtain ⟨s', q1, q2, q3, q4⟩ := nex_put i1 hm (XX.gam _ _ a1) (s3 p hp) (y := y) ⟨sub, hself4, hp⟩
    simp only [os_putD, os_seq, os_skip, os_brk, os_cont, os_retN, os_drop, os_ret, os_retA, os_set, os_setA, os_if, os_asg, os_par, os_aug, os_put, os_augP, os_for, ok_var, ok_c, ok_nil, ok_cons, ok_tup, ok_lst, ok_new, ok_tst, ok_andT, ok_orT, ok_notT, ok_and, ok_or, ok_not, ok_if, ok_op, ok_un, ok_cl, ok_clF, ok_call, ok_mk, ok_noPart, ok_part, ok_cut, ok_mt, ok_chain, ok_it, ok_range1, ok_range2, ok_lc, ok_yes, out_some, out_none, out_add, out_sub, out_neg, out_le, out_gt, out_ge, out_lt, out_eqI, out_neI, out_int, out_abs, out_gcd, List.map_cons, List.map_nil, List.length_cons, List.length_nil, List.replicate, List.cons_append, List.nil_append, List.append_nil, List.getElem?_cons_zero, List.getElem?_cons_succ, List.set_cons_zero, List.set_cons_succ, PV.bl.injEq, PV.int.injEq, PV.str.injEq, exists_eq_left', exists_eq_left, and_true, true_and, if_true, if_false, Bool.false_eq_true, Bool.true_eq_false, decide_eq_true_eq, Nat.sub_self, Nat.reduceAdd, Nat.reduceSub, Nat.reduceLeDiff, List.cons.injEq, q1]
    exact ⟨some (.str p), rfl, q2, i2.trans q3, (q4 t (ne_of_ty tab8 hm (by simp))).trans i3⟩
  · rintro e s ⟨x9, rfl, i1, i2, i3⟩
    exact ⟨w4, hT9.step i2 i1 i3 rfl, X1.trans (X3.trans (X4.trans (XX.trans (p3.trans i2))))⟩
end
end Ge

/-! Ge7: a round folded into another; nexts turned (plain). -/
namespace Ge
open PySem PySem.Spec PyProof.Rows L2 Mi
section
variable {w : Wo} {ps : List Str} {st : Sto} {B : MO} {rest : Sto} {t n : Nat}
theorem notin_ref {r : Nat} {β : Type} {f : β → PV} {es : List (Str × β)} {z : Str} (e : st[r]? = some (.dic (mapD f es))) : oNotInD (.str z) (.ref r) st = some (.bl (!hasA es z)) := by
  simp only [oNotInD, dictOf, e, Mi.keyOf, hasP_mapD]
theorem in_ref {r : Nat} {β : Type} {f : β → PV} {es : List (Str × β)} {z : Str} (e : st[r]? = some (.dic (mapD f es))) : oInD (.str z) (.ref r) st = some (.bl (hasA es z)) := by
  simp only [oInD, dictOf, e, Mi.keyOf, hasP_mapD]
theorem mergeA_keys {β : Type} : ∀ {more es : List (Str × β)}, (∀ e ∈ more, e.1 ∈ es.map (·.1)) → (mergeA es more).map (·.1) = es.map (·.1)
  | [], es, _ => rfl
  | e :: more, es, h => by
    have hk : (putA es e.1 e.2).map (·.1) = es.map (·.1) := by rw [putA_keys, if_pos (h e List.mem_cons_self)]
    have ih := mergeA_keys (more := more) (es := putA es e.1 e.2) fun x hx => by rw [hk]; exact h x (List.mem_cons_of_mem _ hx)
    unfold mergeA at *
    rw [List.foldl_cons, ih, hk]
theorem mergeA_mem {β : Type} : ∀ {more es : List (Str × β)} {e : Str × β}, e ∈ mergeA es more → e ∈ es ∨ e ∈ more
  | [], es, e, h => .inl h
  | x :: more, es, e, h => by
    unfold mergeA at h
    rw [List.foldl_cons] at h
    rcases mergeA_mem (more := more) (es := putA es x.1 x.2) h with h | h
    · rcases putA_mem h with rfl | ⟨h, _⟩
      · exact .inr List.mem_cons_self
      · exact .inl h
    · exact .inr (List.mem_cons_of_mem _ h)
theorem upd_ref {m r : Nat} {qs us : List (Str × Str)} (e1 : st[m]? = some (.dic (mapD .str qs))) (e2 : st[r]? = some (.dic (mapD .str us))) (ne : r ≠ m) (h : qs.length + us.length ≤ 1000) :
    oUpd (.ref m) [.ref r] st = some (.non, st.set m (.dic (mapD .str (mergeA qs us)))) := by
  simp only [oUpd, e1, if_neg ne, dictOf, e2, mapD_len, if_pos (small_line h), mergeP_mapD]
theorem filter_nil {p : Str → Bool} {zs : List Str} (h : (zs.filter p).map PV.str = []) : ∀ z ∈ zs, p z = false := fun z hz => by
  rw [List.map_eq_nil_iff, List.filter_eq_nil_iff] at h
  simpa using h z hz
theorem ix0 {z : PV} {zs : List PV} : oIxD (.lst (z :: zs)) (.int 0) st = some z := by
  rw [ixD_l]; exact atI_0
theorem res_sorted' (h : Ok w ps st) {d : Nat} {z : Str} (hd : w.Θ[d]? = some (.res z)) : ∃ xs : List Str, oSorted [.ref d] st = some (xs.map .str) ∧ oLenD [.ref d] st = some (.int xs.length) ∧ ∀ x, x ∈ xs ↔ HasK st d x := by
  obtain ⟨es, g1, g2, g3, g4, g5, g6⟩ := res_at h hd
  have hn : ∀ x ∈ es.map (·.1), Nmk x := fun x hx => by
    obtain ⟨e, he, rfl⟩ := List.mem_map.mp hx
    exact (g4 e he).1
  exact ⟨sortS (es.map (·.1)), sorted_ref g1 (by omega) fun x hx => (hn x hx).line, by rw [lenD_ref g1, sort_len, List.length_map], fun x => sort_mem.trans (g6 x)⟩
/-- the loop of with_fold -/
def IvFold (z x : Str) (m : Nat) (t : Nat) (s0 : Sto) (_ : Nat) (e : MEnv) (s : Sto) : Prop :=
  ∃ x5 x6 x7 x8 x9 x10, e = [some (.ref 0), some (.ref t), some (.str z), some (.str x), some (.ref m), x5, x6, x7, x8, x9, x10] ∧ s = s0
theorem k_fold (h : Tb w ps (B :: rest) t n) : OkF f__law_with_fold [.ref 0, .ref t] (B :: rest) fun _ s => Stp w ps (B :: rest) t n s := by
  refine of_defN rfl ?_
  simp only [b__law_with_fold, os_seq, os_skip, os_brk, os_cont, os_retN, os_drop, os_ret, os_retA, os_set, os_setA, os_if, os_asg, os_par, os_aug, os_put, os_augP, os_for, ok_var, ok_c, ok_nil, ok_cons, ok_tup, ok_lst, ok_new, ok_tst, ok_andT, ok_orT, ok_notT, ok_and, ok_or, ok_not, ok_if, ok_op, ok_un, ok_cl, ok_clF, ok_call, ok_mk, ok_noPart, ok_part, ok_cut, ok_mt, ok_chain, ok_it, ok_range1, ok_range2, ok_lc, ok_yes, out_some, out_none, out_add, out_sub, out_neg, out_le, out_gt, out_ge, out_lt, out_eqI, out_neI, out_int, out_abs, out_gcd, List.map_cons, List.map_nil, List.length_cons, List.length_nil, List.replicate, List.cons_append, List.nil_append, List.append_nil, List.getElem?_cons_zero, List.getElem?_cons_succ, List.set_cons_zero, List.set_cons_succ, PV.bl.injEq, PV.int.injEq, PV.str.injEq, exists_eq_left', exists_eq_left, and_true, true_and, if_true, if_false, Bool.false_eq_true, Bool.true_eq_false, decide_eq_true_eq, Nat.sub_self, Nat.reduceAdd, Nat.reduceSub, Nat.reduceLeDiff, List.cons.injEq]
  refine (k_result h).imp fun v s q => ?_
  obtain ⟨z, x, l, c, d, B1, rfl, k1, k2, k3, k4, rfl, hB1⟩ := q
  have X1 : Ext w (B :: rest) w (B1 :: rest) := Ext.bg h.ok
  have h1 := h.bg hB1
  have k1 := X1.tab _ _ _ h.tab k1
  obtain ⟨lot, a1, a2, a3, a4, a5, a6, a7⟩ := rd h1 k1 k2
  have k3 := X1.res _ _ _ a3 k3
  obtain ⟨m, c1, c2⟩ := res_ix h1.ok a3 k3
  obtain ⟨zs, t1, t2, t3, t4⟩ := tab_sorted h1.ok h1.tab
  simp only [os_seq, os_skip, os_brk, os_cont, os_retN, os_drop, os_ret, os_retA, os_set, os_setA, os_if, os_asg, os_par, os_aug, os_put, os_augP, os_for, ok_var, ok_c, ok_nil, ok_cons, ok_tup, ok_lst, ok_new, ok_tst, ok_andT, ok_orT, ok_notT, ok_and, ok_or, ok_not, ok_if, ok_op, ok_un, ok_cl, ok_clF, ok_call, ok_mk, ok_noPart, ok_part, ok_cut, ok_mt, ok_chain, ok_it, ok_range1, ok_range2, ok_lc, ok_yes, out_some, out_none, out_add, out_sub, out_neg, out_le, out_gt, out_ge, out_lt, out_eqI, out_neI, out_int, out_abs, out_gcd, List.map_cons, List.map_nil, List.length_cons, List.length_nil, List.replicate, List.cons_append, List.nil_append, List.append_nil, List.getElem?_cons_zero, List.getElem?_cons_succ, List.set_cons_zero, List.set_cons_succ, PV.bl.injEq, PV.int.injEq, PV.str.injEq, exists_eq_left', exists_eq_left, and_true, true_and, if_true, if_false, Bool.false_eq_true, Bool.true_eq_false, decide_eq_true_eq, Nat.sub_self, Nat.reduceAdd, Nat.reduceSub, Nat.reduceLeDiff, List.cons.injEq, tg2, a4, a6, c1, t1]
  refine (k_mixed hB1 (pure_strs zs) (by rw [List.length_map]; omega)).imp fun v s q => ?_
  obtain ⟨ys, B2, rfl, hy, rfl, hB2⟩ := q
  obtain ⟨us, rfl, hu⟩ := perm_strs hy
  have X2 : Ext w (B1 :: rest) w (B2 :: rest) := Ext.bg h1.ok
  have h2 := h1.bg hB2
  obtain ⟨lot', qs, d1, d2, d3, d4⟩ := nex_at h2.ok c2
  rw [a1] at d1; cases d1
  rw [it_l, out_some]
  refine for_inv (IvFold z x m t (B2 :: rest)) (us.map .str) (us.map .str) 0 _ _ ?_ ?_ ⟨none, none, none, none, none, none, rfl, rfl⟩
  · rintro j v e s hv ⟨x5, x6, x7, x8, x9, x10, rfl, rfl⟩
    obtain ⟨o, rfl, ho⟩ := strs_at (List.mem_of_getElem? hv)
    obtain ⟨l2, hl2⟩ := (t4 o).mp (hu.mem_iff.mp ho)
    have hl2 := X2.tab _ _ _ h1.tab hl2
    obtain ⟨_, co, dO, hr⟩ := tab_ix h2.ok h2.tab hl2
    obtain ⟨lo, e1, e2, e3, e4, e5, e6, e7⟩ := rd h2 hl2 hr
    obtain ⟨xs, f1, g2, f6⟩ := res_sorted' h2.ok e3
    have stay : IvFold z x m t (B2 :: rest) (0 + j + 1) [some (.ref 0), some (.ref t), some (.str z), some (.str x), some (.ref m), some (.str o), some (.tup (lo.map .str)), some (.str co), some (.ref dO), x9, x10] (B2 :: rest) := ⟨_, _, _, _, _, _, rfl, rfl⟩
    simp only [os_seq, os_skip, os_brk, os_cont, os_retN, os_drop, os_ret, os_retA, os_set, os_setA, os_if, os_asg, os_par, os_aug, os_put, os_augP, os_for, ok_var, ok_c, ok_nil, ok_cons, ok_tup, ok_lst, ok_new, ok_tst, ok_andT, ok_orT, ok_notT, ok_and, ok_or, ok_not, ok_if, ok_op, ok_un, ok_cl, ok_clF, ok_call, ok_mk, ok_noPart, ok_part, ok_cut, ok_mt, ok_chain, ok_it, ok_range1, ok_range2, ok_lc, ok_yes, out_some, out_none, out_add, out_sub, out_neg, out_le, out_gt, out_ge, out_lt, out_eqI, out_neI, out_int, out_abs, out_gcd, List.map_cons, List.map_nil, List.length_cons, List.length_nil, List.replicate, List.cons_append, List.nil_append, List.append_nil, List.getElem?_cons_zero, List.getElem?_cons_succ, List.set_cons_zero, List.set_cons_succ, PV.bl.injEq, PV.int.injEq, PV.str.injEq, exists_eq_left', exists_eq_left, and_true, true_and, if_true, if_false, Bool.false_eq_true, Bool.true_eq_false, decide_eq_true_eq, Nat.sub_self, Nat.reduceAdd, Nat.reduceSub, Nat.reduceLeDiff, List.cons.injEq, e4, tg3 e7, ne_str, g2, it_t, wipeM]
    split
    · split
      · rename_i hone
        rw [comp_strs (p := fun p => !hasA qs p) (g := .str) chk_none lo fun p _ => ⟨ok_eq (by simp only [os_seq, os_skip, os_brk, os_cont, os_retN, os_drop, os_ret, os_retA, os_set, os_setA, os_if, os_asg, os_par, os_aug, os_put, os_augP, os_for, ok_var, ok_c, ok_nil, ok_cons, ok_tup, ok_lst, ok_new, ok_tst, ok_andT, ok_orT, ok_notT, ok_and, ok_or, ok_not, ok_if, ok_op, ok_un, ok_cl, ok_clF, ok_call, ok_mk, ok_noPart, ok_part, ok_cut, ok_mt, ok_chain, ok_it, ok_range1, ok_range2, ok_lc, ok_yes, out_some, out_none, out_add, out_sub, out_neg, out_le, out_gt, out_ge, out_lt, out_eqI, out_neI, out_int, out_abs, out_gcd, List.map_cons, List.map_nil, List.length_cons, List.length_nil, List.replicate, List.cons_append, List.nil_append, List.append_nil, List.getElem?_cons_zero, List.getElem?_cons_succ, List.set_cons_zero, List.set_cons_succ, PV.bl.injEq, PV.int.injEq, PV.str.injEq, exists_eq_left', exists_eq_left, and_true, true_and, if_true, if_false, Bool.false_eq_true, Bool.true_eq_false, decide_eq_true_eq, Nat.sub_self, Nat.reduceAdd, Nat.reduceSub, Nat.reduceLeDiff, List.cons.injEq, notin_ref d2]), fun _ => ok_eq (by simp only [os_seq, os_skip, os_brk, os_cont, os_retN, os_drop, os_ret, os_retA, os_set, os_setA, os_if, os_asg, os_par, os_aug, os_put, os_augP, os_for, ok_var, ok_c, ok_nil, ok_cons, ok_tup, ok_lst, ok_new, ok_tst, ok_andT, ok_orT, ok_notT, ok_and, ok_or, ok_not, ok_if, ok_op, ok_un, ok_cl, ok_clF, ok_call, ok_mk, ok_noPart, ok_part, ok_cut, ok_mt, ok_chain, ok_it, ok_range1, ok_range2, ok_lc, ok_yes, out_some, out_none, out_add, out_sub, out_neg, out_le, out_gt, out_ge, out_lt, out_eqI, out_neI, out_int, out_abs, out_gcd, List.map_cons, List.map_nil, List.length_cons, List.length_nil, List.replicate, List.cons_append, List.nil_append, List.append_nil, List.getElem?_cons_zero, List.getElem?_cons_succ, List.set_cons_zero, List.set_cons_succ, PV.bl.injEq, PV.int.injEq, PV.str.injEq, exists_eq_left', exists_eq_left, and_true, true_and, if_true, if_false, Bool.false_eq_true, Bool.true_eq_false, decide_eq_true_eq, Nat.sub_self, Nat.reduceAdd, Nat.reduceSub, Nat.reduceLeDiff, List.cons.injEq])⟩, out_some]
        simp only [eq_nil, out_some, List.map_cons, List.map_nil, List.length_cons, List.length_nil, List.replicate, List.cons_append, List.nil_append, List.append_nil, List.getElem?_cons_zero, List.getElem?_cons_succ, List.set_cons_zero, List.set_cons_succ, PV.bl.injEq, PV.int.injEq, PV.str.injEq, exists_eq_left', exists_eq_left, and_true, true_and, if_true, if_false, Bool.false_eq_true, Bool.true_eq_false, decide_eq_true_eq, Nat.sub_self, Nat.reduceAdd, Nat.reduceSub, Nat.reduceLeDiff, List.cons.injEq]
        refine ⟨Nat.zero_le _, ?_⟩
        split
        · rename_i hall
          have hall : ((lo.filter fun p => !hasA qs p).map PV.str = []) := by simpa using hall
          have hin : ∀ p ∈ lo, p ∈ lot := fun p hp => by
            have := filter_nil hall p hp
            rw [Bool.not_eq_false'] at this
            exact d3.mem_iff.mp (hasA_iff.mp this)
          have hlen : xs.length = 1 := by
            have : (xs.length : Int) = 1 := by simpa using hone
            omega
          obtain ⟨y, rfl⟩ : ∃ y, xs = [y] := List.length_eq_one_iff.mp hlen
          have hy : HasK (B2 :: rest) dO y := (f6 y).mp (by simp)
          obtain ⟨m2, u1, u2⟩ := res_ix h2.ok e3 hy
          obtain ⟨lo', qs2, v1, v2, v3, v4⟩ := nex_at h2.ok u2
          rw [e1] at v1; cases v1
          simp only [os_seq, os_skip, os_brk, os_cont, os_retN, os_drop, os_ret, os_retA, os_set, os_setA, os_if, os_asg, os_par, os_aug, os_put, os_augP, os_for, ok_var, ok_c, ok_nil, ok_cons, ok_tup, ok_lst, ok_new, ok_tst, ok_andT, ok_orT, ok_notT, ok_and, ok_or, ok_not, ok_if, ok_op, ok_un, ok_cl, ok_clF, ok_call, ok_mk, ok_noPart, ok_part, ok_cut, ok_mt, ok_chain, ok_it, ok_range1, ok_range2, ok_lc, ok_yes, out_some, out_none, out_add, out_sub, out_neg, out_le, out_gt, out_ge, out_lt, out_eqI, out_neI, out_int, out_abs, out_gcd, List.map_cons, List.map_nil, List.length_cons, List.length_nil, List.replicate, List.cons_append, List.nil_append, List.append_nil, List.getElem?_cons_zero, List.getElem?_cons_succ, List.set_cons_zero, List.set_cons_succ, PV.bl.injEq, PV.int.injEq, PV.str.injEq, exists_eq_left', exists_eq_left, and_true, true_and, if_true, if_false, Bool.false_eq_true, Bool.true_eq_false, decide_eq_true_eq, Nat.sub_self, Nat.reduceAdd, Nat.reduceSub, Nat.reduceLeDiff, List.cons.injEq, f1, ix0, u1, it_t, wipeM, eq_nil]
          have val : ∀ {es : List (Str × Str)} {p : Str}, p ∈ es.map (·.1) → getA es p = some ((getA es p).getD "") := fun {es p} hp => by
            obtain ⟨y, k, _⟩ := getA_some hp
            rw [k]; rfl
          rw [comp_strs (p := fun p => !decide ((getA qs2 p).getD "" = (getA qs p).getD "")) (g := .str) chk_none lo fun p hp => ⟨ok_eq (by
            have q1 := val (v3.mem_iff.mpr hp)
            have q2 := val (d3.mem_iff.mpr (hin p hp))
            have r1 : oIxD (.ref m2) (.str p) (B2 :: rest) = some (.str ((getA qs2 p).getD "")) := by rw [ixD_ref v2, q1]; rfl
            have r2 : oIxD (.ref m) (.str p) (B2 :: rest) = some (.str ((getA qs p).getD "")) := by rw [ixD_ref d2, q2]; rfl
            simp only [os_seq, os_skip, os_brk, os_cont, os_retN, os_drop, os_ret, os_retA, os_set, os_setA, os_if, os_asg, os_par, os_aug, os_put, os_augP, os_for, ok_var, ok_c, ok_nil, ok_cons, ok_tup, ok_lst, ok_new, ok_tst, ok_andT, ok_orT, ok_notT, ok_and, ok_or, ok_not, ok_if, ok_op, ok_un, ok_cl, ok_clF, ok_call, ok_mk, ok_noPart, ok_part, ok_cut, ok_mt, ok_chain, ok_it, ok_range1, ok_range2, ok_lc, ok_yes, out_some, out_none, out_add, out_sub, out_neg, out_le, out_gt, out_ge, out_lt, out_eqI, out_neI, out_int, out_abs, out_gcd, List.map_cons, List.map_nil, List.length_cons, List.length_nil, List.replicate, List.cons_append, List.nil_append, List.append_nil, List.getElem?_cons_zero, List.getElem?_cons_succ, List.set_cons_zero, List.set_cons_succ, PV.bl.injEq, PV.int.injEq, PV.str.injEq, exists_eq_left', exists_eq_left, and_true, true_and, if_true, if_false, Bool.false_eq_true, Bool.true_eq_false, decide_eq_true_eq, Nat.sub_self, Nat.reduceAdd, Nat.reduceSub, Nat.reduceLeDiff, List.cons.injEq, r1, r2, ne_str]), fun _ => ok_eq (by simp only [os_seq, os_skip, os_brk, os_cont, os_retN, os_drop, os_ret, os_retA, os_set, os_setA, os_if, os_asg, os_par, os_aug, os_put, os_augP, os_for, ok_var, ok_c, ok_nil, ok_cons, ok_tup, ok_lst, ok_new, ok_tst, ok_andT, ok_orT, ok_notT, ok_and, ok_or, ok_not, ok_if, ok_op, ok_un, ok_cl, ok_clF, ok_call, ok_mk, ok_noPart, ok_part, ok_cut, ok_mt, ok_chain, ok_it, ok_range1, ok_range2, ok_lc, ok_yes, out_some, out_none, out_add, out_sub, out_neg, out_le, out_gt, out_ge, out_lt, out_eqI, out_neI, out_int, out_abs, out_gcd, List.map_cons, List.map_nil, List.length_cons, List.length_nil, List.replicate, List.cons_append, List.nil_append, List.append_nil, List.getElem?_cons_zero, List.getElem?_cons_succ, List.set_cons_zero, List.set_cons_succ, PV.bl.injEq, PV.int.injEq, PV.str.injEq, exists_eq_left', exists_eq_left, and_true, true_and, if_true, if_false, Bool.false_eq_true, Bool.true_eq_false, decide_eq_true_eq, Nat.sub_self, Nat.reduceAdd, Nat.reduceSub, Nat.reduceLeDiff, List.cons.injEq])⟩, out_some]
          refine ⟨Nat.zero_le _, ?_⟩
          split
          · have hrcv : rcv "dict" (.ref m) (B2 :: rest) = true := by simp only [rcv, d2]; rfl
            refine ⟨hrcv, ?_⟩
            simp only [os_seq, os_skip, os_brk, os_cont, os_retN, os_drop, os_ret, os_retA, os_set, os_setA, os_if, os_asg, os_par, os_aug, os_put, os_augP, os_for, ok_var, ok_c, ok_nil, ok_cons, ok_tup, ok_lst, ok_new, ok_tst, ok_andT, ok_orT, ok_notT, ok_and, ok_or, ok_not, ok_if, ok_op, ok_un, ok_cl, ok_clF, ok_call, ok_mk, ok_noPart, ok_part, ok_cut, ok_mt, ok_chain, ok_it, ok_range1, ok_range2, ok_lc, ok_yes, out_some, out_none, out_add, out_sub, out_neg, out_le, out_gt, out_ge, out_lt, out_eqI, out_neI, out_int, out_abs, out_gcd, List.map_cons, List.map_nil, List.length_cons, List.length_nil, List.replicate, List.cons_append, List.nil_append, List.append_nil, List.getElem?_cons_zero, List.getElem?_cons_succ, List.set_cons_zero, List.set_cons_succ, PV.bl.injEq, PV.int.injEq, PV.str.injEq, exists_eq_left', exists_eq_left, and_true, true_and, if_true, if_false, Bool.false_eq_true, Bool.true_eq_false, decide_eq_true_eq, Nat.sub_self, Nat.reduceAdd, Nat.reduceSub, Nat.reduceLeDiff, List.cons.injEq, ok_newD, ok_clD, it_t, wipeM]
            rw [comp_strs (p := fun _ => true) (g := fun p => .tup [.str p, .str o]) chk_none lo fun x _ => ⟨rfl, fun _ => ok_eq (by simp only [os_seq, os_skip, os_brk, os_cont, os_retN, os_drop, os_ret, os_retA, os_set, os_setA, os_if, os_asg, os_par, os_aug, os_put, os_augP, os_for, ok_var, ok_c, ok_nil, ok_cons, ok_tup, ok_lst, ok_new, ok_tst, ok_andT, ok_orT, ok_notT, ok_and, ok_or, ok_not, ok_if, ok_op, ok_un, ok_cl, ok_clF, ok_call, ok_mk, ok_noPart, ok_part, ok_cut, ok_mt, ok_chain, ok_it, ok_range1, ok_range2, ok_lc, ok_yes, out_some, out_none, out_add, out_sub, out_neg, out_le, out_gt, out_ge, out_lt, out_eqI, out_neI, out_int, out_abs, out_gcd, List.map_cons, List.map_nil, List.length_cons, List.length_nil, List.replicate, List.cons_append, List.nil_append, List.append_nil, List.getElem?_cons_zero, List.getElem?_cons_succ, List.set_cons_zero, List.set_cons_succ, PV.bl.injEq, PV.int.injEq, PV.str.injEq, exists_eq_left', exists_eq_left, and_true, true_and, if_true, if_false, Bool.false_eq_true, Bool.true_eq_false, decide_eq_true_eq, Nat.sub_self, Nat.reduceAdd, Nat.reduceSub, Nat.reduceLeDiff, List.cons.injEq, sl (show 2 ≤ 1000 by decide)])⟩, out_some]
            simp only [filt]
            have hlo := h2.ok.g.lot o lo e1
            rw [dict_fun (f := PV.str) (g := fun _ => o) hlo.2.1.nodup, out_some]
            have hP : Tb (w.push .oth) ps (B2 :: (rest ++ [.dic (mapD .str (lo.map fun p => (p, o)))])) t n := h2.push trivial
            have XP : Ext w (B2 :: rest) (w.push .oth) (B2 :: (rest ++ [.dic (mapD .str (lo.map fun p => (p, o)))])) := Ext.push h2.ok
            have m3 := XP.ty _ _ c2 rfl
            have at1 : (B2 :: (rest ++ [.dic (mapD .str (lo.map fun p => (p, o)))]))[m]? = some (.dic (mapD .str qs)) := (get_old h2.ok c2).trans d2
            have at2 : (B2 :: (rest ++ [.dic (mapD .str (lo.map fun p => (p, o)))]))[rest.length + 1]? = some (.dic (mapD .str (lo.map fun p => (p, o)))) := get_end
            have hne : rest.length + 1 ≠ m := fun e => by
              have := push_at (ty := .oth) h2.ok
              rw [e, m3] at this
              cases this
            have hl1 := lot_len h2.ok e1
            have hl2 := lot_len h2.ok a1
            have hqs : qs.length = lot.length := by
              have := d3.length_eq
              rwa [List.length_map] at this
            simp only [List.cons_append, List.length_cons]
            rw [upd_ref at1 at2 hne (by rw [List.length_map]; omega), out_some]
            have ho : ObjOk (w.push .oth) (.nex z) (.dic (mapD .str (mergeA qs (lo.map fun p => (p, o))))) := by
              refine ⟨lot, _, XP.gam _ _ a1, rfl, ?_, fun e he => ?_⟩
              · rw [mergeA_keys fun e he => by
                  obtain ⟨p, hp, rfl⟩ := List.mem_map.mp he
                  exact d3.mem_iff.mpr (hin p hp)]
                exact d3
              · rcases mergeA_mem he with he | he
                · exact (d4 e he).ext XP.gam
                · obtain ⟨p, hp, rfl⟩ := List.mem_map.mp he
                  exact ⟨lo, XP.gam _ _ e1, hp⟩
            exact ⟨_, hP.step (Ext.set hP.ok m3 (by simp) (fun e => by cases e) fun _ e => by cases e) (hP.ok.set m3 ho) (List.getElem?_set_ne (ne_of_ty m3 hP.tab (by simp))) rfl,
              X1.trans (X2.trans (XP.trans (Ext.set hP.ok m3 (by simp) (fun e => by cases e) fun _ e => by cases e)))⟩
          · exact ⟨_, _, _, _, _, _, rfl, rfl⟩
        · exact stay
      · exact stay
    · exact stay
  · rintro e s ⟨x5, x6, x7, x8, x9, x10, rfl, rfl⟩
    exact ⟨w, h2, X1.trans X2⟩
end
end Ge

/-! Ge8: nexts turned; the table begun (plain). -/
namespace Ge
open PySem PySem.Spec PyProof.Rows L2 Mi
section
variable {w : Wo} {ps : List Str} {st : Sto} {B : MO} {rest : Sto} {t n : Nat}
theorem k_turned (h : Tb w ps (B :: rest) t n) : OkF f__law_turned [.ref 0, .ref t] (B :: rest) fun v s => v = .ref t ∧ Stp w ps (B :: rest) t n s := by
  refine of_defN rfl ?_
  simp only [b__law_turned, os_seq, os_skip, os_brk, os_cont, os_retN, os_drop, os_ret, os_retA, os_set, os_setA, os_if, os_asg, os_par, os_aug, os_put, os_augP, os_for, ok_var, ok_c, ok_nil, ok_cons, ok_tup, ok_lst, ok_new, ok_tst, ok_andT, ok_orT, ok_notT, ok_and, ok_or, ok_not, ok_if, ok_op, ok_un, ok_cl, ok_clF, ok_call, ok_mk, ok_noPart, ok_part, ok_cut, ok_mt, ok_chain, ok_it, ok_range1, ok_range2, ok_lc, ok_yes, out_some, out_none, out_add, out_sub, out_neg, out_le, out_gt, out_ge, out_lt, out_eqI, out_neI, out_int, out_abs, out_gcd, List.map_cons, List.map_nil, List.length_cons, List.length_nil, List.replicate, List.cons_append, List.nil_append, List.append_nil, List.getElem?_cons_zero, List.getElem?_cons_succ, List.set_cons_zero, List.set_cons_succ, PV.bl.injEq, PV.int.injEq, PV.str.injEq, exists_eq_left', exists_eq_left, and_true, true_and, if_true, if_false, Bool.false_eq_true, Bool.true_eq_false, decide_eq_true_eq, Nat.sub_self, Nat.reduceAdd, Nat.reduceSub, Nat.reduceLeDiff, List.cons.injEq]
  refine (k_result h).imp fun v s q => ?_
  obtain ⟨z, x, l, c, d, B1, rfl, k1, k2, k3, k4, rfl, hB1⟩ := q
  have X1 : Ext w (B :: rest) w (B1 :: rest) := Ext.bg h.ok
  have h1 := h.bg hB1
  have k1 := X1.tab _ _ _ h.tab k1
  obtain ⟨lot, a1, a2, a3, a4, a5, a6, a7⟩ := rd h1 k1 k2
  have k3 := X1.res _ _ _ a3 k3
  have hlot := h1.ok.g.lot z lot a1
  have hl6 := lot_len h1.ok a1
  simp only [os_seq, os_skip, os_brk, os_cont, os_retN, os_drop, os_ret, os_retA, os_set, os_setA, os_if, os_asg, os_par, os_aug, os_put, os_augP, os_for, ok_var, ok_c, ok_nil, ok_cons, ok_tup, ok_lst, ok_new, ok_tst, ok_andT, ok_orT, ok_notT, ok_and, ok_or, ok_not, ok_if, ok_op, ok_un, ok_cl, ok_clF, ok_call, ok_mk, ok_noPart, ok_part, ok_cut, ok_mt, ok_chain, ok_it, ok_range1, ok_range2, ok_lc, ok_yes, out_some, out_none, out_add, out_sub, out_neg, out_le, out_gt, out_ge, out_lt, out_eqI, out_neI, out_int, out_abs, out_gcd, List.map_cons, List.map_nil, List.length_cons, List.length_nil, List.replicate, List.cons_append, List.nil_append, List.append_nil, List.getElem?_cons_zero, List.getElem?_cons_succ, List.set_cons_zero, List.set_cons_succ, PV.bl.injEq, PV.int.injEq, PV.str.injEq, exists_eq_left', exists_eq_left, and_true, true_and, if_true, if_false, Bool.false_eq_true, Bool.true_eq_false, decide_eq_true_eq, Nat.sub_self, Nat.reduceAdd, Nat.reduceSub, Nat.reduceLeDiff, List.cons.injEq, tg2, a4, a5]
  refine (some_tup hB1 (fun e => hlot.2.2.1 (List.map_eq_nil_iff.mp e)) (by rw [List.length_map]; omega)).imp fun v s q => ?_
  obtain ⟨B2, hv, rfl, hB2⟩ := q
  obtain ⟨p, rfl, hp⟩ := strs_at hv
  have X2 : Ext w (B1 :: rest) w (B2 :: rest) := Ext.bg h1.ok
  have h2 := h1.bg hB2
  have k1 := X2.tab _ _ _ h1.tab k1
  have k3 := X2.res _ _ _ a3 k3
  obtain ⟨zs, t1, t2, t3, t4⟩ := tab_sorted h2.ok h2.tab
  simp only [os_putD, os_seq, os_skip, os_brk, os_cont, os_retN, os_drop, os_ret, os_retA, os_set, os_setA, os_if, os_asg, os_par, os_aug, os_put, os_augP, os_for, ok_var, ok_c, ok_nil, ok_cons, ok_tup, ok_lst, ok_new, ok_tst, ok_andT, ok_orT, ok_notT, ok_and, ok_or, ok_not, ok_if, ok_op, ok_un, ok_cl, ok_clF, ok_call, ok_mk, ok_noPart, ok_part, ok_cut, ok_mt, ok_chain, ok_it, ok_range1, ok_range2, ok_lc, ok_yes, out_some, out_none, out_add, out_sub, out_neg, out_le, out_gt, out_ge, out_lt, out_eqI, out_neI, out_int, out_abs, out_gcd, List.map_cons, List.map_nil, List.length_cons, List.length_nil, List.replicate, List.cons_append, List.nil_append, List.append_nil, List.getElem?_cons_zero, List.getElem?_cons_succ, List.set_cons_zero, List.set_cons_succ, PV.bl.injEq, PV.int.injEq, PV.str.injEq, exists_eq_left', exists_eq_left, and_true, true_and, if_true, if_false, Bool.false_eq_true, Bool.true_eq_false, decide_eq_true_eq, Nat.sub_self, Nat.reduceAdd, Nat.reduceSub, Nat.reduceLeDiff, List.cons.injEq, t1, it_l, wipeM]
  rw [comp_strs (p := fun o => decide (p ∈ (w.Γ o).getD [])) (g := .str) chk_none zs fun o ho => ⟨ok_eq (by
    obtain ⟨l2, hl2⟩ := (t4 o).mp ho
    obtain ⟨_, c2, d2, r2⟩ := tab_ix h2.ok h2.tab hl2
    obtain ⟨lo, e1, e2, e3, e4, e5, e6, e7⟩ := rd h2 hl2 r2
    simp only [os_seq, os_skip, os_brk, os_cont, os_retN, os_drop, os_ret, os_retA, os_set, os_setA, os_if, os_asg, os_par, os_aug, os_put, os_augP, os_for, ok_var, ok_c, ok_nil, ok_cons, ok_tup, ok_lst, ok_new, ok_tst, ok_andT, ok_orT, ok_notT, ok_and, ok_or, ok_not, ok_if, ok_op, ok_un, ok_cl, ok_clF, ok_call, ok_mk, ok_noPart, ok_part, ok_cut, ok_mt, ok_chain, ok_it, ok_range1, ok_range2, ok_lc, ok_yes, out_some, out_none, out_add, out_sub, out_neg, out_le, out_gt, out_ge, out_lt, out_eqI, out_neI, out_int, out_abs, out_gcd, List.map_cons, List.map_nil, List.length_cons, List.length_nil, List.replicate, List.cons_append, List.nil_append, List.append_nil, List.getElem?_cons_zero, List.getElem?_cons_succ, List.set_cons_zero, List.set_cons_succ, PV.bl.injEq, PV.int.injEq, PV.str.injEq, exists_eq_left', exists_eq_left, and_true, true_and, if_true, if_false, Bool.false_eq_true, Bool.true_eq_false, decide_eq_true_eq, Nat.sub_self, Nat.reduceAdd, Nat.reduceSub, Nat.reduceLeDiff, List.cons.injEq, e4, e5, in_t, e1, Option.getD_some]), fun _ => ok_eq (by simp only [os_seq, os_skip, os_brk, os_cont, os_retN, os_drop, os_ret, os_retA, os_set, os_setA, os_if, os_asg, os_par, os_aug, os_put, os_augP, os_for, ok_var, ok_c, ok_nil, ok_cons, ok_tup, ok_lst, ok_new, ok_tst, ok_andT, ok_orT, ok_notT, ok_and, ok_or, ok_not, ok_if, ok_op, ok_un, ok_cl, ok_clF, ok_call, ok_mk, ok_noPart, ok_part, ok_cut, ok_mt, ok_chain, ok_it, ok_range1, ok_range2, ok_lc, ok_yes, out_some, out_none, out_add, out_sub, out_neg, out_le, out_gt, out_ge, out_lt, out_eqI, out_neI, out_int, out_abs, out_gcd, List.map_cons, List.map_nil, List.length_cons, List.length_nil, List.replicate, List.cons_append, List.nil_append, List.append_nil, List.getElem?_cons_zero, List.getElem?_cons_succ, List.set_cons_zero, List.set_cons_succ, PV.bl.injEq, PV.int.injEq, PV.str.injEq, exists_eq_left', exists_eq_left, and_true, true_and, if_true, if_false, Bool.false_eq_true, Bool.true_eq_false, decide_eq_true_eq, Nat.sub_self, Nat.reduceAdd, Nat.reduceSub, Nat.reduceLeDiff, List.cons.injEq])⟩, out_some]
  have hz : z ∈ zs := (t4 z).mpr ⟨l, k1⟩
  have hfz : z ∈ zs.filter fun o => decide (p ∈ (w.Γ o).getD []) := List.mem_filter.mpr ⟨hz, by simp [a1, hp]⟩
  refine (some_lst hB2 (fun e => by rw [List.map_eq_nil_iff] at e; rw [e] at hfz; cases hfz) (by
    rw [List.length_map]
    have := List.length_filter_le (fun o => decide (p ∈ (w.Γ o).getD [])) zs
    omega)).imp fun v s q => ?_
  obtain ⟨B3, hv, rfl, hB3⟩ := q
  obtain ⟨o, rfl, ho⟩ := strs_at hv
  rw [List.mem_filter] at ho
  obtain ⟨ho, hpo⟩ := ho
  have X3 : Ext w (B2 :: rest) w (B3 :: rest) := Ext.bg h2.ok
  have h3 := h2.bg hB3
  have k1 := X3.tab _ _ _ h2.tab k1
  have k3 := X3.res _ _ _ a3 k3
  obtain ⟨_, _, _, _, a4, a5, a6, _⟩ := rd h3 k1 k2
  obtain ⟨m, c1, c2⟩ := res_ix h3.ok a3 k3
  have htgt : Tgt w o p := by
    obtain ⟨l2, hl2⟩ := (t4 o).mp ho
    obtain ⟨_, c2, d2, r2⟩ := tab_ix h2.ok h2.tab hl2
    obtain ⟨lo, e1, _⟩ := rd h2 hl2 r2
    refine ⟨lo, e1, ?_⟩
    simpa [e1] using hpo
  obtain ⟨s', q1, q2, q3, q4⟩ := nex_put h3.ok c2 a1 hp htgt
  simp only [os_seq, os_skip, os_brk, os_cont, os_retN, os_drop, os_ret, os_retA, os_set, os_setA, os_if, os_asg, os_par, os_aug, os_put, os_augP, os_for, ok_var, ok_c, ok_nil, ok_cons, ok_tup, ok_lst, ok_new, ok_tst, ok_andT, ok_orT, ok_notT, ok_and, ok_or, ok_not, ok_if, ok_op, ok_un, ok_cl, ok_clF, ok_call, ok_mk, ok_noPart, ok_part, ok_cut, ok_mt, ok_chain, ok_it, ok_range1, ok_range2, ok_lc, ok_yes, out_some, out_none, out_add, out_sub, out_neg, out_le, out_gt, out_ge, out_lt, out_eqI, out_neI, out_int, out_abs, out_gcd, List.map_cons, List.map_nil, List.length_cons, List.length_nil, List.replicate, List.cons_append, List.nil_append, List.append_nil, List.getElem?_cons_zero, List.getElem?_cons_succ, List.set_cons_zero, List.set_cons_succ, PV.bl.injEq, PV.int.injEq, PV.str.injEq, exists_eq_left', exists_eq_left, and_true, true_and, if_true, if_false, Bool.false_eq_true, Bool.true_eq_false, decide_eq_true_eq, Nat.sub_self, Nat.reduceAdd, Nat.reduceSub, Nat.reduceLeDiff, List.cons.injEq, a4, a6, c1, q1]
  exact ⟨w, h3.step q3 q2 (q4 t (ne_of_ty h3.tab c2 (by simp))) rfl, X1.trans (X2.trans (X3.trans q3))⟩
/-! ### the table begun -/
def w00 (ps : List Str) (rest : Sto) : Wo := ⟨fun z => if z = "first" ∨ z = "last" then some ps else none, .bag :: rest.map fun _ => .oth⟩
theorem w00_ok (hp : Pts ps) (hB : BagO B) : Ok (w00 ps rest) ps (B :: rest) := by
  have ef : (w00 ps rest).Γ "first" = some ps := by
    show (if ("first" : Str) = "first" ∨ ("first" : Str) = "last" then some ps else none) = some ps
    exact if_pos (.inl rfl)
  have el : (w00 ps rest).Γ "last" = some ps := by
    show (if ("last" : Str) = "first" ∨ ("last" : Str) = "last" then some ps else none) = some ps
    exact if_pos (.inr rfl)
  refine ⟨⟨hp, fun z lot e => ?_, ef, el⟩, by simp [w00], fun i ty o e1 e2 => ?_, rfl⟩
  · have e : (if z = "first" ∨ z = "last" then some ps else none) = some lot := e
    split at e
    · rename_i hz
      cases e
      refine ⟨?_, hp.srt, hp.ne, fun p h => h⟩
      rcases hz with rfl | rfl <;> decide +kernel
    · cases e
  · cases i with
    | zero => cases e1; cases e2; exact hB
    | succ i =>
      have e1 : (rest.map fun _ => Ty.oth)[i]? = some ty := e1
      rw [List.getElem?_map, Option.map_eq_some_iff] at e1
      obtain ⟨_, _, rfl⟩ := e1
      trivial
/-- only words that any drawn table begins with -/
def Few (w : Wo) (st : Sto) (t : Nat) : Prop := ∀ z l c d, EntR st t z l → w.Θ[l]? = some (.row z c d) → ∀ x, HasK st d x → x = "go" ∨ x = "no"
theorem ixD_last {xs : List Str} (h : xs ≠ []) : ∃ x ∈ xs, ∀ st, oIxD (.tup (xs.map .str)) (.int (-1)) st = some (.str x) := by
  refine ⟨xs.getLast h, List.getLast_mem h, fun st => ?_⟩
  rw [ixD_t]
  have hl : 0 < xs.length := List.length_pos_iff.mpr h
  have e : ixN (xs.map PV.str).length (-1) = some (xs.length - 1) := by
    unfold ixN
    rw [if_neg (by omega), if_pos (by rw [List.length_map]; omega)]
    congr 1
    rw [List.length_map]
    omega
  unfold atI
  rw [e]
  show (xs.map PV.str)[xs.length - 1]? = _
  rw [List.getElem?_map, List.getLast_eq_getElem, List.getElem?_eq_getElem]
  rfl
theorem ixD_first {xs : List Str} (h : xs ≠ []) : ∃ x ∈ xs, ∀ st, oIxD (.tup (xs.map .str)) (.int 0) st = some (.str x) := by
  cases xs with
  | nil => exact absurd rfl h
  | cons x xs => exact ⟨x, List.mem_cons_self, fun st => by rw [ixD_t]; exact atI_0⟩
theorem more (ok : Ok w ps (B :: rest)) {ty : Ty} {o : MO} (ho : ObjOk w ty o) : ∃ w', Ok w' ps (B :: (rest ++ [o])) ∧ Ext w (B :: rest) w' (B :: (rest ++ [o])) ∧ w'.Θ[rest.length + 1]? = some ty ∧ w'.Γ = w.Γ :=
  ⟨w.push ty, ok.push (ho.mono (w := w) (w' := w.push ty) (fun _ _ g => g) fun _ _ g _ => get_push g), Ext.push ok, push_at ok, rfl⟩
theorem k_begun (hp : Pts ps) (hB : BagO B) : OkF f__law_begun [.tup (ps.map .str)] (B :: rest) fun v s => ∃ w t, v = .ref t ∧ Tb w ps s t 2 ∧ Ext (w00 ps rest) (B :: rest) w s ∧ w.Γ = (w00 ps rest).Γ ∧ Few w s t ∧ ∃ l c d, EntR s t "first" l ∧ w.Θ[l]? = some (.row "first" c d) ∧ HasK s d "go" := by
  have ok0 := w00_ok (rest := rest) hp hB
  refine of_defN rfl ?_
  have hp6 := hp.len
  simp only [b__law_begun, os_seq, os_skip, os_brk, os_cont, os_retN, os_drop, os_ret, os_retA, os_set, os_setA, os_if, os_asg, os_par, os_aug, os_put, os_augP, os_for, ok_var, ok_c, ok_nil, ok_cons, ok_tup, ok_lst, ok_new, ok_tst, ok_andT, ok_orT, ok_notT, ok_and, ok_or, ok_not, ok_if, ok_op, ok_un, ok_cl, ok_clF, ok_call, ok_mk, ok_noPart, ok_part, ok_cut, ok_mt, ok_chain, ok_it, ok_range1, ok_range2, ok_lc, ok_yes, out_some, out_none, out_add, out_sub, out_neg, out_le, out_gt, out_ge, out_lt, out_eqI, out_neI, out_int, out_abs, out_gcd, List.map_cons, List.map_nil, List.length_cons, List.length_nil, List.replicate, List.cons_append, List.nil_append, List.append_nil, List.getElem?_cons_zero, List.getElem?_cons_succ, List.set_cons_zero, List.set_cons_succ, PV.bl.injEq, PV.int.injEq, PV.str.injEq, exists_eq_left', exists_eq_left, and_true, true_and, if_true, if_false, Bool.false_eq_true, Bool.true_eq_false, decide_eq_true_eq, Nat.sub_self, Nat.reduceAdd, Nat.reduceSub, Nat.reduceLeDiff, List.cons.injEq, ok_newD, ok_newA, ok_clD, ok_dic0, it_t, wipeM]
  rw [comp_strs (p := fun _ => true) (g := fun p => .tup [.str p, .str "last"]) chk_none ps fun x _ => ⟨rfl, fun _ => ok_eq (by simp only [os_seq, os_skip, os_brk, os_cont, os_retN, os_drop, os_ret, os_retA, os_set, os_setA, os_if, os_asg, os_par, os_aug, os_put, os_augP, os_for, ok_var, ok_c, ok_nil, ok_cons, ok_tup, ok_lst, ok_new, ok_tst, ok_andT, ok_orT, ok_notT, ok_and, ok_or, ok_not, ok_if, ok_op, ok_un, ok_cl, ok_clF, ok_call, ok_mk, ok_noPart, ok_part, ok_cut, ok_mt, ok_chain, ok_it, ok_range1, ok_range2, ok_lc, ok_yes, out_some, out_none, out_add, out_sub, out_neg, out_le, out_gt, out_ge, out_lt, out_eqI, out_neI, out_int, out_abs, out_gcd, List.map_cons, List.map_nil, List.length_cons, List.length_nil, List.replicate, List.cons_append, List.nil_append, List.append_nil, List.getElem?_cons_zero, List.getElem?_cons_succ, List.set_cons_zero, List.set_cons_succ, PV.bl.injEq, PV.int.injEq, PV.str.injEq, exists_eq_left', exists_eq_left, and_true, true_and, if_true, if_false, Bool.false_eq_true, Bool.true_eq_false, decide_eq_true_eq, Nat.sub_self, Nat.reduceAdd, Nat.reduceSub, Nat.reduceLeDiff, List.cons.injEq, sl (show 2 ≤ 1000 by decide)])⟩, out_some]
  simp only [filt]
  rw [dict_fun (f := PV.str) (g := fun _ => ("last" : Str)) hp.srt.nodup, out_some]
  have ho1 : ObjOk (w00 ps rest) (.nex "first") (.dic (mapD .str (ps.map fun p => (p, ("last" : Str))))) := by
    refine ⟨ps, _, ok0.g.fst, rfl, by rw [keys_fun], fun e he => ?_⟩
    obtain ⟨p, hp', rfl⟩ := List.mem_map.mp he
    exact ⟨ps, ok0.g.lst, hp'⟩
  generalize MO.dic (mapD PV.str (ps.map fun p => (p, ("last" : Str)))) = o1 at ho1 ⊢
  obtain ⟨w1, ok1, X1, r1, g1⟩ := more ok0 ho1
  obtain ⟨cF, hcF, eF⟩ := ixD_first hp.ne
  obtain ⟨cL, hcL, eL⟩ := ixD_last hp.ne
  simp only [ok_disp, ok_pairs0, ok_pairs1, ok_newA, ok_newD, ok_dic0, os_seq, os_skip, os_brk, os_cont, os_retN, os_drop, os_ret, os_retA, os_set, os_setA, os_if, os_asg, os_par, os_aug, os_put, os_augP, os_for, ok_var, ok_c, ok_nil, ok_cons, ok_tup, ok_lst, ok_new, ok_tst, ok_andT, ok_orT, ok_notT, ok_and, ok_or, ok_not, ok_if, ok_op, ok_un, ok_cl, ok_clF, ok_call, ok_mk, ok_noPart, ok_part, ok_cut, ok_mt, ok_chain, ok_it, ok_range1, ok_range2, ok_lc, ok_yes, out_some, out_none, out_add, out_sub, out_neg, out_le, out_gt, out_ge, out_lt, out_eqI, out_neI, out_int, out_abs, out_gcd, List.map_cons, List.map_nil, List.length_cons, List.length_nil, List.replicate, List.cons_append, List.nil_append, List.append_nil, List.getElem?_cons_zero, List.getElem?_cons_succ, List.set_cons_zero, List.set_cons_succ, PV.bl.injEq, PV.int.injEq, PV.str.injEq, exists_eq_left', exists_eq_left, and_true, true_and, if_true, if_false, Bool.false_eq_true, Bool.true_eq_false, decide_eq_true_eq, Nat.sub_self, Nat.reduceAdd, Nat.reduceSub, Nat.reduceLeDiff, List.cons.injEq, eF, eL, sl (show 3 ≤ 1000 by decide)]
  refine ⟨rfl, rfl, ?_⟩
  rw [merge1]
  have ho2 : ObjOk w1 (.res "first") (.dic (mapD .ref [("go", rest.length + 1)])) := by
    refine ⟨_, rfl, by simp, by simp, fun e he => ?_, fun e => absurd e (by decide +kernel)⟩
    simp only [List.mem_cons, List.not_mem_nil, or_false] at he
    subst he
    exact ⟨show Nmk "go" by decide +kernel, r1⟩
  generalize hq1 : rest ++ [o1] = q1 at ok1 X1 ⊢
  obtain ⟨w2, ok2, X2, r2, g2⟩ := more ok1 ho2
  have go2 : HasK (B :: (q1 ++ [.dic (mapD .ref [("go", rest.length + 1)])])) (q1.length + 1) "go" := ⟨_, get_end, by simp⟩
  have few2 : ∀ x, HasK (B :: (q1 ++ [.dic (mapD .ref [("go", rest.length + 1)])])) (q1.length + 1) x → x = "go" := fun x ⟨es, e1, e2⟩ => by
    rw [get_end] at e1
    cases mapD_ref_inj (MO.dic.inj (Option.some.inj e1))
    simpa using e2
  generalize MO.dic (mapD PV.ref [("go", rest.length + 1)]) = o2 at ok2 X2 go2 few2 ⊢
  have ho3 : ObjOk w2 (.row "first" cF (q1.length + 1)) (.lst [.tup (ps.map .str), .str cF, .ref (q1.length + 1)]) := ⟨ps, ok2.g.fst, rfl, hcF, r2⟩
  generalize MO.lst [.tup (ps.map .str), .str cF, .ref (q1.length + 1)] = o3 at ho3 ⊢
  generalize hq2 : q1 ++ [o2] = q2 at ok2 X2 go2 few2 ⊢
  obtain ⟨w3, ok3, X3, r3, g3⟩ := more ok2 ho3
  have ho4 : ObjOk w3 (.res "last") (.dic []) := ⟨[], rfl, by simp, by simp, fun e he => (by cases he), fun _ => rfl⟩
  generalize hq3 : q2 ++ [o3] = q3 at ok3 X3 ⊢
  obtain ⟨w4, ok4, X4, r4, g4⟩ := more ok3 ho4
  have few4 : ∀ x, ¬ HasK (B :: (q3 ++ [.dic []])) (q3.length + 1) x := fun x ⟨es, e1, e2⟩ => by
    rw [get_end] at e1
    have e3 : mapD PV.ref [] = mapD PV.ref es := MO.dic.inj (Option.some.inj e1)
    cases mapD_ref_inj e3
    cases e2
  generalize MO.dic [] = o4 at ok4 X4 few4 ⊢
  have ho5 : ObjOk w4 (.row "last" cL (q3.length + 1)) (.lst [.tup (ps.map .str), .str cL, .ref (q3.length + 1)]) := ⟨ps, ok4.g.lst, rfl, hcL, r4⟩
  generalize MO.lst [.tup (ps.map .str), .str cL, .ref (q3.length + 1)] = o5 at ho5 ⊢
  generalize hq4 : q3 ++ [o4] = q4 at ok4 X4 few4 ⊢
  obtain ⟨w5, ok5, X5, r5, g5⟩ := more ok4 ho5
  generalize hq5 : q4 ++ [o5] = q5 at ok5 X5 ⊢
  have X35 := X4.trans X5
  have r3' := X35.ty _ _ r3 rfl
  have hm : mergeP [] [(.str "first", .ref (q2.length + 1)), (.str "last", .ref (q4.length + 1))] = mapD .ref [("first", q2.length + 1), ("last", q4.length + 1)] := by
    have := mergeP_mapD PV.ref [(("first" : Str), q2.length + 1), (("last" : Str), q4.length + 1)] []
    rw [mergeA_new (more := [(("first" : Str), q2.length + 1), (("last" : Str), q4.length + 1)]) (es := []) (show (["first", "last"] : List Str).Nodup by decide +kernel)] at this
    exact this
  rw [hm]
  have ho6 : ObjOk w5 .tab (.dic (mapD .ref [("first", q2.length + 1), ("last", q4.length + 1)])) := by
    refine ⟨_, rfl, show (["first", "last"] : List Str).Nodup by decide +kernel, by simp, fun e he => ?_⟩
    simp only [List.mem_cons, List.not_mem_nil, or_false] at he
    rcases he with rfl | rfl
    · exact ⟨⟨ps, ok5.g.fst⟩, _, _, r3'⟩
    · exact ⟨⟨ps, ok5.g.lst⟩, _, _, r5⟩
  obtain ⟨w6, ok6, X6, r6, g6⟩ := more ok5 ho6
  have gam : w6.Γ = (w00 ps rest).Γ := by rw [g6, g5, g4, g3, g2, g1]
  have hat : (B :: (q5 ++ [.dic (mapD .ref [("first", q2.length + 1), ("last", q4.length + 1)])]))[q5.length + 1]? = some (.dic (mapD .ref [("first", q2.length + 1), ("last", q4.length + 1)])) := get_end
  have a2 : ∀ (i : Nat) (ty : Ty), w2.Θ[i]? = some ty → ty.solid = true → (B :: (q5 ++ [.dic (mapD .ref [("first", q2.length + 1), ("last", q4.length + 1)])]))[i]? = (B :: q2)[i]? := fun i ty e k => by
    subst hq3 hq4 hq5
    have e3 := X3.ty _ _ e k
    have e4 := X4.ty _ _ e3 k
    have e5 := X5.ty _ _ e4 k
    exact (get_old ok5 e5).trans ((get_old ok4 e4).trans ((get_old ok3 e3).trans (get_old ok2 e)))
  have a4 : ∀ (i : Nat) (ty : Ty), w4.Θ[i]? = some ty → ty.solid = true → (B :: (q5 ++ [.dic (mapD .ref [("first", q2.length + 1), ("last", q4.length + 1)])]))[i]? = (B :: q4)[i]? := fun i ty e k => by
    subst hq5
    have e5 := X5.ty _ _ e k
    exact (get_old ok5 e5).trans (get_old ok4 e)
  have r3f := X6.ty _ _ r3' rfl
  have r5f := X6.ty _ _ r5 rfl
  generalize B :: (q5 ++ [.dic (mapD .ref [("first", q2.length + 1), ("last", q4.length + 1)])]) = s at ok6 X6 hat a2 a4 ⊢
  have ent : ∀ z l, EntR s (q5.length + 1) z l → (z = "first" ∧ l = q2.length + 1) ∨ (z = "last" ∧ l = q4.length + 1) := fun z l ⟨es, e1, e2⟩ => by
    rw [hat] at e1
    cases mapD_ref_inj (MO.dic.inj (Option.some.inj e1))
    have := getA_mem e2
    simp only [List.mem_cons, Prod.mk.injEq, List.not_mem_nil, or_false] at this
    exact this
  have ent1 : EntR s (q5.length + 1) "first" (q2.length + 1) := by
    obtain ⟨y, e1, e2⟩ := getA_some (es := [(("first" : Str), q2.length + 1), ("last", q4.length + 1)]) (z := "first") (by simp)
    simp only [List.mem_cons, Prod.mk.injEq, List.not_mem_nil, or_false] at e2
    rcases e2 with ⟨_, rfl⟩ | ⟨k, _⟩
    · exact ⟨_, hat, e1⟩
    · exact absurd k (by decide +kernel)
  have ent2 : EntR s (q5.length + 1) "last" (q4.length + 1) := by
    obtain ⟨y, e1, e2⟩ := getA_some (es := [(("first" : Str), q2.length + 1), ("last", q4.length + 1)]) (z := "last") (by simp)
    simp only [List.mem_cons, Prod.mk.injEq, List.not_mem_nil, or_false] at e2
    rcases e2 with ⟨k, _⟩ | ⟨_, rfl⟩
    · exact absurd k (by decide +kernel)
    · exact ⟨_, hat, e1⟩
  have hgo : ∀ x, HasK s (q1.length + 1) x ↔ HasK (B :: q2) (q1.length + 1) x := fun x => by
    have := a2 _ _ r2 rfl
    exact ⟨fun ⟨es, e1, e2⟩ => ⟨es, this.symm.trans e1, e2⟩, fun ⟨es, e1, e2⟩ => ⟨es, this.trans e1, e2⟩⟩
  have hno : ∀ x, ¬ HasK s (q3.length + 1) x := fun x ⟨es, e1, e2⟩ => few4 x ⟨es, (a4 _ _ r4 rfl).symm.trans e1, e2⟩
  refine ⟨w6, q5.length + 1, rfl, ⟨ok6, r6, fun z lot e => ?_, fun z l c d e hl hz => ?_, lenD_ref hat⟩, X1.trans (X2.trans (X3.trans (X4.trans (X5.trans X6)))), gam, fun z l c d e hl x hx => ?_, q2.length + 1, cF, q1.length + 1, ent1, r3f, (hgo _).mpr go2⟩
  · rw [gam] at e
    have e : (if z = "first" ∨ z = "last" then some ps else none) = some lot := e
    split at e
    · rename_i hz
      rcases hz with rfl | rfl
      · exact ⟨_, ent1⟩
      · exact ⟨_, ent2⟩
    · cases e
  · rcases ent z l e with ⟨rfl, rfl⟩ | ⟨rfl, rfl⟩
    · rw [r3f] at hl
      cases hl
      exact ⟨_, (hgo _).mpr go2⟩
    · exact absurd rfl hz
  · rcases ent z l e with ⟨rfl, rfl⟩ | ⟨rfl, rfl⟩
    · rw [r3f] at hl
      cases hl
      exact .inl (few2 x ((hgo x).mp hx))
    · rw [r5f] at hl
      cases hl
      exact absurd hx (hno x)
end
end Ge

/-! Ge9: a table grown (plain). -/
namespace Ge
open PySem PySem.Spec PyProof.Rows L2 Mi
section
variable {w : Wo} {ps : List Str} {st : Sto} {B : MO} {rest : Sto} {t n : Nat}
/-- the loop of grown -/
def IvGr (ps : List Str) (w0 : Wo) (s0 : Sto) (t : Nat) (a b : Int) (_ : Nat) (e : MEnv) (s : Sto) : Prop :=
  ∃ x5 x6 w n, e = [some (.ref 0), some (.tup (ps.map .str)), some (.int a), some (.int b), some (.ref t), x5, x6] ∧ Tb w ps s t n ∧ n ≤ 24 ∧ Ext w0 s0 w s
theorem k_grown {a b : Int} (hp : Pts ps) (hB : BagO B) (ha : 0 ≤ a ∧ a ≤ 100) (hb : b ≤ 24) : OkF f__law_grown [.ref 0, .tup (ps.map .str), .int a, .int b] (B :: rest) fun v s => ∃ w t n, v = .ref t ∧ Tb w ps s t n ∧ n ≤ 24 ∧ Ext (w00 ps rest) (B :: rest) w s := by
  refine of_defN rfl ?_
  simp only [b__law_grown, os_seq, os_skip, os_brk, os_cont, os_retN, os_drop, os_ret, os_retA, os_set, os_setA, os_if, os_asg, os_par, os_aug, os_put, os_augP, os_for, ok_var, ok_c, ok_nil, ok_cons, ok_tup, ok_lst, ok_new, ok_tst, ok_andT, ok_orT, ok_notT, ok_and, ok_or, ok_not, ok_if, ok_op, ok_un, ok_cl, ok_clF, ok_call, ok_mk, ok_noPart, ok_part, ok_cut, ok_mt, ok_chain, ok_it, ok_range1, ok_range2, ok_lc, ok_yes, out_some, out_none, out_add, out_sub, out_neg, out_le, out_gt, out_ge, out_lt, out_eqI, out_neI, out_int, out_abs, out_gcd, List.map_cons, List.map_nil, List.length_cons, List.length_nil, List.replicate, List.cons_append, List.nil_append, List.append_nil, List.getElem?_cons_zero, List.getElem?_cons_succ, List.set_cons_zero, List.set_cons_succ, PV.bl.injEq, PV.int.injEq, PV.str.injEq, exists_eq_left', exists_eq_left, and_true, true_and, if_true, if_false, Bool.false_eq_true, Bool.true_eq_false, decide_eq_true_eq, Nat.sub_self, Nat.reduceAdd, Nat.reduceSub, Nat.reduceLeDiff, List.cons.injEq]
  refine (k_begun hp hB).imp fun v s q => ?_
  obtain ⟨w, t, rfl, h, X, _⟩ := q
  refine ⟨⟨by omega, by have := small_line (n := 100) (by decide); omega⟩, ?_⟩
  refine for_inv (IvGr ps (w00 ps rest) (B :: rest) t a b) _ _ 0 _ _ ?_ ?_ ⟨none, none, w, 2, rfl, h, by omega, X⟩
  · rintro j v e s hv ⟨x5, x6, w, n, rfl, h, hn, X⟩
    obtain ⟨B1, r1, rfl, hB1⟩ := h.ok.bagAt
    simp only [os_seq, os_skip, os_brk, os_cont, os_retN, os_drop, os_ret, os_retA, os_set, os_setA, os_if, os_asg, os_par, os_aug, os_put, os_augP, os_for, ok_var, ok_c, ok_nil, ok_cons, ok_tup, ok_lst, ok_new, ok_tst, ok_andT, ok_orT, ok_notT, ok_and, ok_or, ok_not, ok_if, ok_op, ok_un, ok_cl, ok_clF, ok_call, ok_mk, ok_noPart, ok_part, ok_cut, ok_mt, ok_chain, ok_it, ok_range1, ok_range2, ok_lc, ok_yes, out_some, out_none, out_add, out_sub, out_neg, out_le, out_gt, out_ge, out_lt, out_eqI, out_neI, out_int, out_abs, out_gcd, List.map_cons, List.map_nil, List.length_cons, List.length_nil, List.replicate, List.cons_append, List.nil_append, List.append_nil, List.getElem?_cons_zero, List.getElem?_cons_succ, List.set_cons_zero, List.set_cons_succ, PV.bl.injEq, PV.int.injEq, PV.str.injEq, exists_eq_left', exists_eq_left, and_true, true_and, if_true, if_false, Bool.false_eq_true, Bool.true_eq_false, decide_eq_true_eq, Nat.sub_self, Nat.reduceAdd, Nat.reduceSub, Nat.reduceLeDiff, List.cons.injEq]
    refine (k_take hB1 (by decide) (logOk_lt (k := 5) (by decide) (by decide))).imp fun v2 s q => ?_
    obtain ⟨i, B2, rfl, rfl, hB2, g0, g1⟩ := q
    have X2 : Ext w (B1 :: r1) w (B2 :: r1) := Ext.bg h.ok
    have h2 := h.bg hB2
    have fin : ∀ {n' : Nat} {s : Sto}, n' ≤ 24 → Stp w ps (B2 :: r1) t n' s → IvGr ps (w00 ps rest) (B :: rest) t a b (0 + j + 1) [some (.ref 0), some (.tup (ps.map .str)), some (.int a), some (.int b), some (.ref t), some v, some (.int i)] s := fun hn' ⟨w', h', X'⟩ =>
      ⟨_, _, w', _, rfl, h', hn', X.trans (X2.trans X')⟩
    simp only [os_seq, os_skip, os_brk, os_cont, os_retN, os_drop, os_ret, os_retA, os_set, os_setA, os_if, os_asg, os_par, os_aug, os_put, os_augP, os_for, ok_var, ok_c, ok_nil, ok_cons, ok_tup, ok_lst, ok_new, ok_tst, ok_andT, ok_orT, ok_notT, ok_and, ok_or, ok_not, ok_if, ok_op, ok_un, ok_cl, ok_clF, ok_call, ok_mk, ok_noPart, ok_part, ok_cut, ok_mt, ok_chain, ok_it, ok_range1, ok_range2, ok_lc, ok_yes, out_some, out_none, out_add, out_sub, out_neg, out_le, out_gt, out_ge, out_lt, out_eqI, out_neI, out_int, out_abs, out_gcd, List.map_cons, List.map_nil, List.length_cons, List.length_nil, List.replicate, List.cons_append, List.nil_append, List.append_nil, List.getElem?_cons_zero, List.getElem?_cons_succ, List.set_cons_zero, List.set_cons_succ, PV.bl.injEq, PV.int.injEq, PV.str.injEq, exists_eq_left', exists_eq_left, and_true, true_and, if_true, if_false, Bool.false_eq_true, Bool.true_eq_false, decide_eq_true_eq, Nat.sub_self, Nat.reduceAdd, Nat.reduceSub, Nat.reduceLeDiff, List.cons.injEq]
    split
    · exact (k_copy h2).imp fun _ _ q => fin hn q
    · split
      · exact (k_loop h2).imp fun _ _ q => fin hn q
      · split
        · exact (k_fold h2).imp fun _ _ q => fin hn q
        · have hk : oLenD [.ref t] (B2 :: r1) = some (.int (n : Nat)) := h2.nk
          simp only [hk, os_seq, os_skip, os_brk, os_cont, os_retN, os_drop, os_ret, os_retA, os_set, os_setA, os_if, os_asg, os_par, os_aug, os_put, os_augP, os_for, ok_var, ok_c, ok_nil, ok_cons, ok_tup, ok_lst, ok_new, ok_tst, ok_andT, ok_orT, ok_notT, ok_and, ok_or, ok_not, ok_if, ok_op, ok_un, ok_cl, ok_clF, ok_call, ok_mk, ok_noPart, ok_part, ok_cut, ok_mt, ok_chain, ok_it, ok_range1, ok_range2, ok_lc, ok_yes, out_some, out_none, out_add, out_sub, out_neg, out_le, out_gt, out_ge, out_lt, out_eqI, out_neI, out_int, out_abs, out_gcd, List.map_cons, List.map_nil, List.length_cons, List.length_nil, List.replicate, List.cons_append, List.nil_append, List.append_nil, List.getElem?_cons_zero, List.getElem?_cons_succ, List.set_cons_zero, List.set_cons_succ, PV.bl.injEq, PV.int.injEq, PV.str.injEq, exists_eq_left', exists_eq_left, and_true, true_and, if_true, if_false, Bool.false_eq_true, Bool.true_eq_false, decide_eq_true_eq, Nat.sub_self, Nat.reduceAdd, Nat.reduceSub, Nat.reduceLeDiff, List.cons.injEq]
          split
          · rename_i hlt
            exact (k_round h2 (by omega)).imp fun _ _ q => fin (by omega) q
          · exact fin hn ⟨w, h2, Ext.rfl'⟩
  · rintro e s ⟨x5, x6, w, n, rfl, h, hn, X⟩
    simp only [os_seq, os_skip, os_brk, os_cont, os_retN, os_drop, os_ret, os_retA, os_set, os_setA, os_if, os_asg, os_par, os_aug, os_put, os_augP, os_for, ok_var, ok_c, ok_nil, ok_cons, ok_tup, ok_lst, ok_new, ok_tst, ok_andT, ok_orT, ok_notT, ok_and, ok_or, ok_not, ok_if, ok_op, ok_un, ok_cl, ok_clF, ok_call, ok_mk, ok_noPart, ok_part, ok_cut, ok_mt, ok_chain, ok_it, ok_range1, ok_range2, ok_lc, ok_yes, out_some, out_none, out_add, out_sub, out_neg, out_le, out_gt, out_ge, out_lt, out_eqI, out_neI, out_int, out_abs, out_gcd, List.map_cons, List.map_nil, List.length_cons, List.length_nil, List.replicate, List.cons_append, List.nil_append, List.append_nil, List.getElem?_cons_zero, List.getElem?_cons_succ, List.set_cons_zero, List.set_cons_succ, PV.bl.injEq, PV.int.injEq, PV.str.injEq, exists_eq_left', exists_eq_left, and_true, true_and, if_true, if_false, Bool.false_eq_true, Bool.true_eq_false, decide_eq_true_eq, Nat.sub_self, Nat.reduceAdd, Nat.reduceSub, Nat.reduceLeDiff, List.cons.injEq]
    exact ⟨w, t, n, rfl, h, hn, X⟩
/-! ### any table -/
/-- a table whose rounds may lack results -/
structure An (ps : List Str) (t n : Nat) (w : Wo) (s : Sto) : Prop where
  ok : Ok w ps s
  tab : w.Θ[t]? = some .tab
  done : Done w s t
  few : Few w s t
  nk : Nk s t n
theorem Few.ext {w w' : Wo} {s s' : Sto} (h : Ok w ps s) (ht : w.Θ[t]? = some .tab) (hf : Few w s t) (X : Ext w s w' s') (ho : Old s s' t) (ed : ∀ (d : Nat) (z : Str), w.Θ[d]? = some (.res z) → s'[d]? = s[d]?) : Few w' s' t := by
  intro z l c d e hl x hx
  have e0 := ho z l e
  obtain ⟨_, c', d', hl'⟩ := tab_ix h ht e0
  have := X.ty _ _ hl' rfl
  rw [hl] at this
  cases this
  obtain ⟨lot, _, _, _, hd⟩ := row_at h hl'
  obtain ⟨es, e1, e2⟩ := hx
  exact hf z l c d e0 hl' x ⟨es, (ed d z hd).symm.trans e1, e2⟩
theorem An.step {w w' : Wo} {s s' : Sto} (h : An ps t n w s) (X : Ext w s w' s') (ok : Ok w' ps s') (et : s'[t]? = s[t]?) (ed : ∀ (d : Nat) (z : Str), w.Θ[d]? = some (.res z) → s'[d]? = s[d]?) (g : w'.Γ = w.Γ) : An ps t n w' s' := by
  refine ⟨ok, X.ty _ _ h.tab rfl, fun z lot k => ?_, h.few.ext h.ok h.tab X (.of_eq et) ed, h.nk.eq et⟩
  rw [g] at k
  obtain ⟨l, hl⟩ := h.done z lot k
  exact ⟨l, hl.eq et⟩
theorem An.bg (h : An ps t n w (B :: rest)) {B' : MO} (hB : BagO B') : An ps t n w (B' :: rest) :=
  h.step (Ext.bg h.ok) (h.ok.bg hB) (cons_get (tab_ne0 h.ok h.tab (by decide))) (fun d z e => cons_get (tab_ne0 h.ok e (by simp))) rfl
theorem An.push (h : An ps t n w (B :: rest)) {ty : Ty} {o : MO} (ho : ObjOk w ty o) : ∃ w', An ps t n w' (B :: (rest ++ [o])) ∧ Ext w (B :: rest) w' (B :: (rest ++ [o])) ∧ w'.Θ[rest.length + 1]? = some ty ∧ w'.Γ = w.Γ := by
  obtain ⟨w', ok, X, r, g⟩ := more h.ok ho
  exact ⟨w', h.step X ok (get_old h.ok h.tab) (fun d z e => get_old h.ok e) g, X, r, g⟩
/-- a row without results more -/
theorem An.row {w1 : Wo} {s1 s2 : Sto} {y c : Str} {l d : Nat} (h : An ps t n w st) (X : Ext w st w1 s1) (gam : ∀ z lot, w1.Γ z = some lot → z = y ∨ w.Γ z = some lot) (et : s1[t]? = st[t]?) (ed : ∀ (d : Nat) (z : Str), w.Θ[d]? = some (.res z) → s1[d]? = st[d]?)
    (hl : w1.Θ[l]? = some (.row y c d)) (hd : ∀ x, ¬ HasK s2 d x) (ok : Ok w1 ps s2) (X2 : Ext w1 s1 w1 s2) (e : EntR s2 t y l) (hn : Nk s2 t (n + 1)) (ho : ∀ x l', EntR s2 t x l' → x = y ∨ EntR s1 t x l') (e2 : ∀ i, i ≠ t → s2[i]? = s1[i]?) : An ps t (n + 1) w1 s2 := by
  refine ⟨ok, X.ty _ _ h.tab rfl, fun z lot k => ?_, fun z l' c' d' e' hl' x hx => ?_, hn⟩
  · rcases gam z lot k with rfl | k
    · exact ⟨l, e⟩
    · obtain ⟨l', hl'⟩ := h.done z lot k
      exact ⟨l', X2.tab _ _ _ (X.ty _ _ h.tab rfl) (X.tab _ _ _ h.tab hl')⟩
  · rcases ho z l' e' with rfl | e0
    · obtain ⟨es, a, b⟩ := e
      obtain ⟨es', a', b'⟩ := e'
      rw [a] at a'
      cases mapD_ref_inj (MO.dic.inj (Option.some.inj a'))
      rw [b] at b'
      cases b'
      rw [hl] at hl'
      cases hl'
      exact absurd hx (hd x)
    · have e1 := e0.eq (s := st) et.symm
      obtain ⟨_, c2, d2, k2⟩ := tab_ix h.ok h.tab e1
      have := X.ty _ _ k2 rfl
      rw [hl'] at this
      cases this
      obtain ⟨_, _, _, _, k3⟩ := row_at h.ok k2
      obtain ⟨es, q1, q2⟩ := hx
      refine h.few z l' c' d' e1 k2 x ⟨es, ?_, q2⟩
      rw [← ed _ _ k3, ← e2 d' (ne_of_ty (X.ty _ _ k3 rfl) (X.ty _ _ h.tab rfl) (by simp))]
      exact q1
theorem rd0 (h : Ok w ps st) (ht : w.Θ[t]? = some .tab) {z c : Str} {l d : Nat} (k1 : EntR st t z l) (k2 : w.Θ[l]? = some (.row z c d)) : ∃ lot, w.Γ z = some lot ∧ c ∈ lot ∧ w.Θ[d]? = some (.res z) ∧
    oIxD (.ref t) (.str z) st = some (.ref l) ∧ oIxD (.ref l) (.int 0) st = some (.tup (lot.map .str)) ∧ oIxD (.ref l) (.int 2) st = some (.ref d) ∧ unpO (.ref l) st = some [.tup (lot.map .str), .str c, .ref d] := by
  obtain ⟨lot, a1, a2, a3, a4⟩ := row_at h k2
  exact ⟨lot, a1, a3, a4, (tab_ix h ht k1).1, (row_ix a2).1, (row_ix a2).2.2.1, (row_ix a2).2.2.2⟩
/-- the first loop of any -/
def IvA1 (ps : List Str) (w0 : Wo) (s0 : Sto) (t : Nat) (b : Int) (k : Nat) (e : MEnv) (s : Sto) : Prop :=
  ∃ x4 x5 w, e = [some (.ref 0), some (.tup (ps.map .str)), some (.int b), some (.ref t), x4, x5, none, none, none, none, none, none, none] ∧ An ps t (2 + k) w s ∧ Ext w0 s0 w s
theorem any_row {k : Nat} {b : Int} {x4 x5 : Option PV} {w0 : Wo} {s0 : Sto} (h : An ps t (2 + k) w (B :: rest)) (hB : BagO B) (hk : k ≤ 22) (X : Ext w0 s0 w (B :: rest)) {R : QV} {N' C' : QN} :
    OkS (mSeq (mSet 5 (mCl oTuple (mCons (mNew (mClF oSorted (mCons (mCut (mCall0 f__law_mixed (mCons (mVar 0) (mCons (mNew (mClF oListD (mCons (mVar 1) mNil))) mNil))) mNoPart (mPart (mOp oAdd (mC (.int 1)) (mCall0 f__law_take (mCons (mVar 0) (mCons (mCl oLenD (mCons (mVar 1) mNil)) mNil)))))) mNil))) mNil)))
    (mPutD (mNewA (mLst (mCons (mVar 5) (mCons (mCall0 f__law_some (mCons (mVar 0) (mCons (mVar 5) mNil))) (mCons (mNewD mDic0) mNil))))) (mVar 3) (mCall0 f__law_new_name (mCons (mVar 0) (mCons (mNew (mClF oListD (mCons (mVar 3) mNil))) mNil)))))
    [some (.ref 0), some (.tup (ps.map .str)), some (.int b), some (.ref t), x4, x5, none, none, none, none, none, none, none] (B :: rest) (IvA1 ps w0 s0 t b (k + 1)) R N' C' := by
  have hp := h.ok.g.pts
  have hp6 := hp.len
  have hp0 : 0 < ps.length := List.length_pos_iff.mpr hp.ne
  simp only [os_seq, os_skip, os_brk, os_cont, os_retN, os_drop, os_ret, os_retA, os_set, os_setA, os_if, os_asg, os_par, os_aug, os_put, os_augP, os_for, ok_var, ok_c, ok_nil, ok_cons, ok_tup, ok_lst, ok_new, ok_tst, ok_andT, ok_orT, ok_notT, ok_and, ok_or, ok_not, ok_if, ok_op, ok_un, ok_cl, ok_clF, ok_call, ok_mk, ok_noPart, ok_part, ok_cut, ok_mt, ok_chain, ok_it, ok_range1, ok_range2, ok_lc, ok_yes, out_some, out_none, out_add, out_sub, out_neg, out_le, out_gt, out_ge, out_lt, out_eqI, out_neI, out_int, out_abs, out_gcd, List.map_cons, List.map_nil, List.length_cons, List.length_nil, List.replicate, List.cons_append, List.nil_append, List.append_nil, List.getElem?_cons_zero, List.getElem?_cons_succ, List.set_cons_zero, List.set_cons_succ, PV.bl.injEq, PV.int.injEq, PV.str.injEq, exists_eq_left', exists_eq_left, and_true, true_and, if_true, if_false, Bool.false_eq_true, Bool.true_eq_false, decide_eq_true_eq, Nat.sub_self, Nat.reduceAdd, Nat.reduceSub, Nat.reduceLeDiff, List.cons.injEq, list_t]
  refine (k_mixed hB (pure_strs ps) (by rw [List.length_map]; omega)).imp fun v s q => ?_
  obtain ⟨ys, B2, rfl, hy, rfl, hB2⟩ := q
  obtain ⟨us, rfl, hu⟩ := perm_strs hy
  simp only [lenD_t, out_some, List.length_map]
  refine (k_take hB2 (by omega) (logOk_small (by omega))).imp fun v s q => ?_
  obtain ⟨i, B3, rfl, rfl, hB3, g0, g1⟩ := q
  obtain ⟨s1, s2, s3, s4⟩ := lot_of (B := B) (rest := rest) hp.srt.nodup hu hp.ne g0
  have hle : (us.take (1 + i).toNat).length ≤ 6 := by rw [List.length_take, hu.length_eq]; omega
  simp only [os_seq, os_skip, os_brk, os_cont, os_retN, os_drop, os_ret, os_retA, os_set, os_setA, os_if, os_asg, os_par, os_aug, os_put, os_augP, os_for, ok_var, ok_c, ok_nil, ok_cons, ok_tup, ok_lst, ok_new, ok_tst, ok_andT, ok_orT, ok_notT, ok_and, ok_or, ok_not, ok_if, ok_op, ok_un, ok_cl, ok_clF, ok_call, ok_mk, ok_noPart, ok_part, ok_cut, ok_mt, ok_chain, ok_it, ok_range1, ok_range2, ok_lc, ok_yes, out_some, out_none, out_add, out_sub, out_neg, out_le, out_gt, out_ge, out_lt, out_eqI, out_neI, out_int, out_abs, out_gcd, List.map_cons, List.map_nil, List.length_cons, List.length_nil, List.replicate, List.cons_append, List.nil_append, List.append_nil, List.getElem?_cons_zero, List.getElem?_cons_succ, List.set_cons_zero, List.set_cons_succ, PV.bl.injEq, PV.int.injEq, PV.str.injEq, exists_eq_left', exists_eq_left, and_true, true_and, if_true, if_false, Bool.false_eq_true, Bool.true_eq_false, decide_eq_true_eq, Nat.sub_self, Nat.reduceAdd, Nat.reduceSub, Nat.reduceLeDiff, List.cons.injEq, cut_l', cutP_hi (show (0 : Int) ≤ 1 + i by omega), ← List.map_take]
  rw [sorted_l (by omega) fun z' hz' => ?_]
  rotate_left
  · exact (hp.nm _ (hu.mem_iff.mp (List.mem_of_mem_take hz'))).line
  generalize sortS (us.take (1 + i).toNat) = sub at s1 s2 s3 s4 ⊢
  have hsub6 : sub.length ≤ 6 := by
    have := nodup_len s1.nodup s3
    omega
  have h3 := h.bg hB3
  have X3 : Ext w (B :: rest) w (B3 :: rest) := Ext.bg h.ok
  simp only [os_seq, os_skip, os_brk, os_cont, os_retN, os_drop, os_ret, os_retA, os_set, os_setA, os_if, os_asg, os_par, os_aug, os_put, os_augP, os_for, ok_var, ok_c, ok_nil, ok_cons, ok_tup, ok_lst, ok_new, ok_tst, ok_andT, ok_orT, ok_notT, ok_and, ok_or, ok_not, ok_if, ok_op, ok_un, ok_cl, ok_clF, ok_call, ok_mk, ok_noPart, ok_part, ok_cut, ok_mt, ok_chain, ok_it, ok_range1, ok_range2, ok_lc, ok_yes, out_some, out_none, out_add, out_sub, out_neg, out_le, out_gt, out_ge, out_lt, out_eqI, out_neI, out_int, out_abs, out_gcd, List.map_cons, List.map_nil, List.length_cons, List.length_nil, List.replicate, List.cons_append, List.nil_append, List.append_nil, List.getElem?_cons_zero, List.getElem?_cons_succ, List.set_cons_zero, List.set_cons_succ, PV.bl.injEq, PV.int.injEq, PV.str.injEq, exists_eq_left', exists_eq_left, and_true, true_and, if_true, if_false, Bool.false_eq_true, Bool.true_eq_false, decide_eq_true_eq, Nat.sub_self, Nat.reduceAdd, Nat.reduceSub, Nat.reduceLeDiff, List.cons.injEq, tuple_l, os_putD, ok_newA, ok_newD, ok_dic0]
  refine (some_tup hB3 (fun e => s2 (List.map_eq_nil_iff.mp e)) (by rw [List.length_map]; omega)).imp fun v s q => ?_
  obtain ⟨B5, hv, rfl, hB5⟩ := q
  obtain ⟨c, rfl, hc⟩ := strs_at hv
  have h5 := h3.bg hB5
  have X5 : Ext w (B3 :: rest) w (B5 :: rest) := Ext.bg h3.ok
  simp only [os_seq, os_skip, os_brk, os_cont, os_retN, os_drop, os_ret, os_retA, os_set, os_setA, os_if, os_asg, os_par, os_aug, os_put, os_augP, os_for, ok_var, ok_c, ok_nil, ok_cons, ok_tup, ok_lst, ok_new, ok_tst, ok_andT, ok_orT, ok_notT, ok_and, ok_or, ok_not, ok_if, ok_op, ok_un, ok_cl, ok_clF, ok_call, ok_mk, ok_noPart, ok_part, ok_cut, ok_mt, ok_chain, ok_it, ok_range1, ok_range2, ok_lc, ok_yes, out_some, out_none, out_add, out_sub, out_neg, out_le, out_gt, out_ge, out_lt, out_eqI, out_neI, out_int, out_abs, out_gcd, List.map_cons, List.map_nil, List.length_cons, List.length_nil, List.replicate, List.cons_append, List.nil_append, List.append_nil, List.getElem?_cons_zero, List.getElem?_cons_succ, List.set_cons_zero, List.set_cons_succ, PV.bl.injEq, PV.int.injEq, PV.str.injEq, exists_eq_left', exists_eq_left, and_true, true_and, if_true, if_false, Bool.false_eq_true, Bool.true_eq_false, decide_eq_true_eq, Nat.sub_self, Nat.reduceAdd, Nat.reduceSub, Nat.reduceLeDiff, List.cons.injEq, sl (show 3 ≤ 1000 by decide)]
  generalize hl : MO.lst [.tup (sub.map .str), .str c, .ref (rest.length + 1)] = o3
  obtain ⟨wa, ha, Xa, ra, ga⟩ := h5.push (ty := .oth) (o := .dic []) trivial
  obtain ⟨wb, hb, Xb, rb, gb⟩ := ha.push (ty := .oth) (o := o3) trivial
  obtain ⟨zs, t1, t2, t3, t4⟩ := tab_list hb.ok hb.tab
  have hzs : zs.length = 2 + k := Nk.unique t2 hb.nk
  rw [t1, out_some]
  refine (k_new_name hB5 (by omega)).imp fun v s q => ?_
  obtain ⟨y, B6, rfl, y1, y2, rfl, hB6⟩ := q
  have h6 := h5.bg hB6
  have X6 : Ext w (B5 :: rest) w (B6 :: rest) := Ext.bg h5.ok
  have hnone : w.Γ y = none := by
    cases e : w.Γ y with
    | none => rfl
    | some lt =>
      obtain ⟨l', hl'⟩ := h5.done y lt e
      exact absurd ((t4 y).mpr ⟨l', Xb.tab _ _ _ ha.tab (Xa.tab _ _ _ h5.tab hl')⟩) y2
  obtain ⟨okA, XA⟩ := h6.ok.add hnone (names_nm y y1) s1 s2 s3
  have hself : (w.add y sub).Γ y = some sub := Wo.add_self
  have gamA : ∀ z lot, (w.add y sub).Γ z = some lot → z = y ∨ w.Γ z = some lot := fun z lot e => by
    have e : (if z = y then some sub else w.Γ z) = some lot := e
    by_cases hz : z = y
    · exact .inl hz
    · rw [if_neg hz] at e; exact .inr e
  generalize w.add y sub = wA at okA XA hself gamA
  have ho2 : ObjOk wA (.res y) (.dic []) := ⟨[], rfl, by simp, by simp, fun e he => (by cases he), fun _ => rfl⟩
  obtain ⟨w7, ok7, X7, r7, g7⟩ := more okA ho2
  have ho3 : ObjOk w7 (.row y c (rest.length + 1)) o3 := by
    rw [← hl]
    exact ⟨sub, by rw [g7]; exact hself, rfl, hc, r7⟩
  obtain ⟨w8, ok8, X8, r8, g8⟩ := more ok7 ho3
  have XX : Ext w (B6 :: rest) w8 (B6 :: (rest ++ [.dic []] ++ [o3])) := XA.trans (X7.trans X8)
  have tab8 := XX.ty _ _ h6.tab rfl
  have old8 : ∀ (i : Nat) (ty : Ty), w.Θ[i]? = some ty → ty.solid = true → (B6 :: (rest ++ [.dic []] ++ [o3]))[i]? = (B6 :: rest)[i]? := fun i ty e k => by
    have e1 := XA.ty _ _ e k
    have e2 := X7.ty _ _ e1 k
    exact (get_old ok7 e2).trans (get_old okA e1)
  have ht8 := old8 t _ h6.tab rfl
  have htb : (B5 :: (rest ++ [.dic []] ++ [o3]))[t]? = (B5 :: rest)[t]? := by
    have e2 := Xa.ty _ _ h5.tab rfl
    exact (get_old ha.ok e2).trans (get_old h5.ok h5.tab)
  have ht8b : (B6 :: (rest ++ [.dic []] ++ [o3]))[t]? = (B5 :: (rest ++ [.dic []] ++ [o3]))[t]? := cons_get (tab_ne0 h6.ok h6.tab (by decide))
  have t2n : Nk (B5 :: (rest ++ [.dic []] ++ [o3])) t zs.length := t2
  obtain ⟨s9, p1, p2, p3, p4, p5, p6, p7⟩ := tab_put ok8 tab8 r8 (by rw [g8, g7]; exact hself) (zs := zs) (by omega) (fun x => (t4 x).trans ⟨fun ⟨l, e⟩ => ⟨l, e.eq ht8b⟩, fun ⟨l, e⟩ => ⟨l, e.eq ht8b.symm⟩⟩) (t2n.eq ht8b) y2
  rw [p1, out_some]
  refine ⟨x4, _, w8, rfl, ?_, X.trans (X3.trans (X5.trans (X6.trans (XX.trans p3))))⟩
  have hnk : Nk s9 t (2 + k + 1) := by rw [← hzs]; exact p5
  refine h6.row XX (fun z lot e => gamA z lot (by rw [← g7, ← g8]; exact e)) ht8 (fun d z e => old8 d _ e rfl) r8 (fun x hx => ?_) p2 p3 p4 hnk p6 p7
  obtain ⟨es, q1, q2⟩ := hx
  have ne : rest.length + 1 ≠ t := ne_of_ty (X8.ty _ _ r7 rfl) tab8 (by simp)
  have hget : (B6 :: (rest ++ [.dic []] ++ [o3]))[rest.length + 1]? = some (.dic []) := (get_old ok7 r7).trans get_end
  rw [p7 _ ne, hget] at q1
  have e3 : mapD PV.ref [] = mapD PV.ref es := MO.dic.inj (Option.some.inj q1)
  cases mapD_ref_inj e3
  cases q2
end
end Ge

/-! Ge10: any table (plain). -/
namespace Ge
open PySem PySem.Spec PyProof.Rows L2 Mi
section
variable {w : Wo} {ps : List Str} {st : Sto} {B : MO} {rest : Sto} {t n : Nat}
def Has (w : Wo) (s : Sto) (t : Nat) (z : Str) : Prop := ∃ l c d x, EntR s t z l ∧ w.Θ[l]? = some (.row z c d) ∧ HasK s d x
theorem Has.ext {w' : Wo} {s s' : Sto} {z : Str} (h : Has w s t z) (ok : Ok w ps s) (ht : w.Θ[t]? = some .tab) (X : Ext w s w' s') : Has w' s' t z := by
  obtain ⟨l, c, d, x, h1, h2, h3⟩ := h
  obtain ⟨_, _, _, _, hd⟩ := row_at ok h2
  exact ⟨l, c, d, x, X.tab _ _ _ ht h1, X.ty _ _ h2 rfl, X.res _ _ _ hd h3⟩
/-- an object of nexts anew -/
theorem fil_put (h : Ok w ps st) {m : Nat} {z p y : Str} {us : List (Str × Str)} (hm : w.Θ[m]? = some (.fil z)) (e : st[m]? = some (.dic (mapD .str us))) (hn : (us.map (·.1)).Nodup) (hu : ∀ e ∈ us, Tgt w e.2 e.1) (hp : p ∉ us.map (·.1)) (hl : us.length ≤ 100) (hy : Tgt w y p) :
    oPutD (.ref m) (.str p) (.str y) st = some (st.set m (.dic (mapD .str (us ++ [(p, y)])))) ∧ Ok w ps (st.set m (.dic (mapD .str (us ++ [(p, y)])))) ∧ Ext w st w (st.set m (.dic (mapD .str (us ++ [(p, y)])))) := by
  have e1 := putA_new (y := y) hp
  rw [← e1]
  refine ⟨putD_ref e (by omega), h.set hm ⟨_, rfl, putA_nodup hn, fun e he => ?_⟩, Ext.set h hm (by simp) (fun e => by cases e) fun _ e => by cases e⟩
  rcases putA_mem he with rfl | ⟨he, _⟩
  · exact hy
  · exact hu e he
/-- the loop that fills nexts -/
def IvFi (ps : List Str) (t n : Nat) (w : Wo) (s0 : Sto) (m : Nat) (lot : List Str) (env : MEnv) (x11 x12 : Option PV) (i : Nat) (e : MEnv) (s : Sto) : Prop :=
  ∃ x10 us, e = env ++ [x10, x11, x12] ∧ An ps t n w s ∧ Ext w s0 w s ∧ s[t]? = s0[t]? ∧ s[m]? = some (.dic (mapD .str us)) ∧ us.map (·.1) = lot.take i ∧ (∀ e ∈ us, Tgt w e.2 e.1) ∧ s.length = s0.length
theorem any_fill {zs : List Str} {s0 : Sto} {m : Nat} {z : Str} {lot : List Str} {b : Int} {x4 x7 x8 x10 x11 x12 : Option PV} (hm : w.Θ[m]? = some (.fil z)) (hl : w.Γ z = some lot) (own : ∀ o, o ∈ zs ↔ ∃ l, EntR s0 t o l) (hz : z ∈ zs) (h0 : An ps t n w s0) (e0 : s0[m]? = some (.dic [])) {N C' D' : QN} {R : QV}
    (hN : ∀ e s, IvFi ps t n w s0 m lot [some (.ref 0), some (.tup (ps.map .str)), some (.int b), some (.ref t), x4, some (.tup (lot.map .str)), some (.str z), x7, x8, some (.ref m)] x11 x12 lot.length e s → N e s) :
    OkS (forL (.nm 10) ⟨lot.map .str, none⟩ (mPutD (mCall0 f__law_some (mCons (mVar 0) (mCons (mNew (mLc (.nm 12) (mIt (mNew (mClF oSorted (mCons (mVar 3) mNil)))) [12] (mTst (mOp oInD (mVar 10) (mOp oIxD (mOp oIxD (mVar 3) (mVar 12)) (mC (.int 0))))) (mVar 12))) mNil))) (mVar 9) (mVar 10)) (lot.map .str))
      [some (.ref 0), some (.tup (ps.map .str)), some (.int b), some (.ref t), x4, some (.tup (lot.map .str)), some (.str z), x7, x8, some (.ref m), x10, x11, x12] s0 N R D' C' := by
  have hlot := h0.ok.g.lot z lot hl
  have hl6 := lot_len h0.ok hl
  refine for_inv (IvFi ps t n w s0 m lot [some (.ref 0), some (.tup (ps.map .str)), some (.int b), some (.ref t), x4, some (.tup (lot.map .str)), some (.str z), x7, x8, some (.ref m)] x11 x12) (lot.map .str) (lot.map .str) 0 _ _ ?_ ?_ ⟨x10, [], rfl, h0, Ext.rfl', rfl, e0, by simp, fun e he => (by cases he), rfl⟩
  · rintro j v e s hv ⟨x10, us, rfl, h, X, et, em, ek, eu, elen⟩
    rw [List.getElem?_map, Option.map_eq_some_iff] at hv
    obtain ⟨p, hp, rfl⟩ := hv
    have hpl := List.mem_of_getElem? hp
    rw [Nat.zero_add] at *
    obtain ⟨B1, r1, rfl, hB1⟩ := h.ok.bagAt
    obtain ⟨zs', t1, t2, t3, t4⟩ := tab_sorted h.ok h.tab
    have own' : ∀ o, o ∈ zs' ↔ o ∈ zs := fun o => (t4 o).trans (Iff.trans ⟨fun ⟨l, e⟩ => ⟨l, e.eq et.symm⟩, fun ⟨l, e⟩ => ⟨l, e.eq et⟩⟩ (own o).symm)
    simp only [os_putD, os_seq, os_skip, os_brk, os_cont, os_retN, os_drop, os_ret, os_retA, os_set, os_setA, os_if, os_asg, os_par, os_aug, os_put, os_augP, os_for, ok_var, ok_c, ok_nil, ok_cons, ok_tup, ok_lst, ok_new, ok_tst, ok_andT, ok_orT, ok_notT, ok_and, ok_or, ok_not, ok_if, ok_op, ok_un, ok_cl, ok_clF, ok_call, ok_mk, ok_noPart, ok_part, ok_cut, ok_mt, ok_chain, ok_it, ok_range1, ok_range2, ok_lc, ok_yes, out_some, out_none, out_add, out_sub, out_neg, out_le, out_gt, out_ge, out_lt, out_eqI, out_neI, out_int, out_abs, out_gcd, List.map_cons, List.map_nil, List.length_cons, List.length_nil, List.replicate, List.cons_append, List.nil_append, List.append_nil, List.getElem?_cons_zero, List.getElem?_cons_succ, List.set_cons_zero, List.set_cons_succ, PV.bl.injEq, PV.int.injEq, PV.str.injEq, exists_eq_left', exists_eq_left, and_true, true_and, if_true, if_false, Bool.false_eq_true, Bool.true_eq_false, decide_eq_true_eq, Nat.sub_self, Nat.reduceAdd, Nat.reduceSub, Nat.reduceLeDiff, List.cons.injEq, t1, it_l, wipeM]
    rw [comp_strs (p := fun o => decide (p ∈ (w.Γ o).getD [])) (g := .str) chk_none zs' fun o ho => ⟨ok_eq (by
      obtain ⟨l2, hl2⟩ := (t4 o).mp ho
      obtain ⟨_, c2, d2, r2⟩ := tab_ix h.ok h.tab hl2
      obtain ⟨lo, e1, e2, e3, e4, e5, e6, e7⟩ := rd0 h.ok h.tab hl2 r2
      simp only [os_seq, os_skip, os_brk, os_cont, os_retN, os_drop, os_ret, os_retA, os_set, os_setA, os_if, os_asg, os_par, os_aug, os_put, os_augP, os_for, ok_var, ok_c, ok_nil, ok_cons, ok_tup, ok_lst, ok_new, ok_tst, ok_andT, ok_orT, ok_notT, ok_and, ok_or, ok_not, ok_if, ok_op, ok_un, ok_cl, ok_clF, ok_call, ok_mk, ok_noPart, ok_part, ok_cut, ok_mt, ok_chain, ok_it, ok_range1, ok_range2, ok_lc, ok_yes, out_some, out_none, out_add, out_sub, out_neg, out_le, out_gt, out_ge, out_lt, out_eqI, out_neI, out_int, out_abs, out_gcd, List.map_cons, List.map_nil, List.length_cons, List.length_nil, List.replicate, List.cons_append, List.nil_append, List.append_nil, List.getElem?_cons_zero, List.getElem?_cons_succ, List.set_cons_zero, List.set_cons_succ, PV.bl.injEq, PV.int.injEq, PV.str.injEq, exists_eq_left', exists_eq_left, and_true, true_and, if_true, if_false, Bool.false_eq_true, Bool.true_eq_false, decide_eq_true_eq, Nat.sub_self, Nat.reduceAdd, Nat.reduceSub, Nat.reduceLeDiff, List.cons.injEq, e4, e5, in_t, e1, Option.getD_some]), fun _ => ok_eq (by simp only [os_seq, os_skip, os_brk, os_cont, os_retN, os_drop, os_ret, os_retA, os_set, os_setA, os_if, os_asg, os_par, os_aug, os_put, os_augP, os_for, ok_var, ok_c, ok_nil, ok_cons, ok_tup, ok_lst, ok_new, ok_tst, ok_andT, ok_orT, ok_notT, ok_and, ok_or, ok_not, ok_if, ok_op, ok_un, ok_cl, ok_clF, ok_call, ok_mk, ok_noPart, ok_part, ok_cut, ok_mt, ok_chain, ok_it, ok_range1, ok_range2, ok_lc, ok_yes, out_some, out_none, out_add, out_sub, out_neg, out_le, out_gt, out_ge, out_lt, out_eqI, out_neI, out_int, out_abs, out_gcd, List.map_cons, List.map_nil, List.length_cons, List.length_nil, List.replicate, List.cons_append, List.nil_append, List.append_nil, List.getElem?_cons_zero, List.getElem?_cons_succ, List.set_cons_zero, List.set_cons_succ, PV.bl.injEq, PV.int.injEq, PV.str.injEq, exists_eq_left', exists_eq_left, and_true, true_and, if_true, if_false, Bool.false_eq_true, Bool.true_eq_false, decide_eq_true_eq, Nat.sub_self, Nat.reduceAdd, Nat.reduceSub, Nat.reduceLeDiff, List.cons.injEq])⟩, out_some]
    have hfz : z ∈ zs'.filter fun o => decide (p ∈ (w.Γ o).getD []) := List.mem_filter.mpr ⟨(own' z).mpr hz, by simp [hl, hpl]⟩
    refine (some_lst hB1 (fun e => by rw [List.map_eq_nil_iff] at e; rw [e] at hfz; cases hfz) (by
      rw [List.length_map]
      have := List.length_filter_le (fun o => decide (p ∈ (w.Γ o).getD [])) zs'
      omega)).imp fun v s q => ?_
    obtain ⟨B2, hv, rfl, hB2⟩ := q
    obtain ⟨o, rfl, ho⟩ := strs_at hv
    rw [List.mem_filter] at ho
    obtain ⟨ho, hpo⟩ := ho
    have htgt : Tgt w o p := by
      obtain ⟨l2, hl2⟩ := (t4 o).mp ho
      obtain ⟨_, c2, d2, r2⟩ := tab_ix h.ok h.tab hl2
      obtain ⟨lo, e1, _⟩ := rd0 h.ok h.tab hl2 r2
      refine ⟨lo, e1, ?_⟩
      simpa [e1] using hpo
    have h2 := h.bg hB2
    have X2 : Ext w (B1 :: r1) w (B2 :: r1) := Ext.bg h.ok
    have em2 : (B2 :: r1)[m]? = some (.dic (mapD .str us)) := (cons_get (tab_ne0 h.ok hm (by simp))).trans em
    have et2 : (B2 :: r1)[t]? = (B1 :: r1)[t]? := cons_get (tab_ne0 h.ok h.tab (by decide))
    have hnd : (us.map (·.1)).Nodup := by rw [ek]; exact (List.take_sublist _ _).nodup hlot.2.1.nodup
    have hul : us.length ≤ 100 := by
      have := congrArg List.length ek
      rw [List.length_map, List.length_take] at this
      omega
    have hnew : p ∉ us.map (·.1) := by
      rw [ek]
      intro k
      obtain ⟨hj, ej⟩ := List.getElem?_eq_some_iff.mp hp
      obtain ⟨i, hi, ei⟩ := List.mem_take_iff_getElem.mp k
      have hij : i < j := by omega
      have := (List.getElem_inj hlot.2.1.nodup).mp (ei.trans ej.symm)
      omega
    obtain ⟨q1, q2, q3⟩ := fil_put h2.ok hm em2 hnd eu hnew hul htgt
    rw [q1, out_some]
    have hset : ∀ i, i ≠ m → ((B2 :: r1).set m (.dic (mapD .str (us ++ [(p, o)]))))[i]? = (B2 :: r1)[i]? := fun i hi => List.getElem?_set_ne fun k => hi k.symm
    have hlt : m < (B2 :: r1).length := (List.getElem?_eq_some_iff.mp em2).1
    refine ⟨some (.str p), us ++ [(p, o)], rfl, h2.step q3 q2 (hset t (ne_of_ty h.tab hm (by simp))) (fun d z e => hset d (ne_of_ty e hm (by simp))) rfl, X.trans (X2.trans q3), (hset t (ne_of_ty h.tab hm (by simp))).trans (et2.trans et), List.getElem?_set_self hlt, ?_, fun e he => ?_, ?_⟩
    · rw [List.map_append, ek, List.take_succ, hp]
      rfl
    · rcases List.mem_append.mp he with he | he
      · exact eu e he
      · simp only [List.mem_singleton] at he
        subst he
        exact htgt
    · rw [List.length_set, ← elen]; rfl
  · rintro e s q
    rw [Nat.zero_add, List.length_map] at q
    exact hN e s q
/-- results[x] = nexts, x one of two words -/
theorem An.res (h : An ps t n w st) {d m l : Nat} {z x c : Str} (e : EntR st t z l) (hr : w.Θ[l]? = some (.row z c d)) (hd : w.Θ[d]? = some (.res z)) (hm : w.Θ[m]? = some (.nex z)) (hx : x = "go" ∨ x = "no") (hz : z ≠ "last") :
    ∃ st', oPutD (.ref d) (.str x) (.ref m) st = some st' ∧ An ps t n w st' ∧ Ext w st w st' ∧ HasK st' d x ∧ st'[t]? = st[t]? := by
  obtain ⟨es, g1, g2, g3, g4, g5, g6⟩ := res_at h.ok hd
  have hkeys : ∀ y : Str, y ∈ es.map (·.1) → y = "go" ∨ y = "no" := fun y hy => h.few z l c d e hr y ((g6 y).mp hy)
  have hle : es.length ≤ 2 := by
    have := nodup_len (ys := [("go" : Str), "no"]) g2 fun y hy => by
      rcases hkeys y hy with rfl | rfl <;> simp
    simpa using this
  have hnm : Nmk x := by
    rcases hx with rfl | rfl <;> decide +kernel
  obtain ⟨st', q1, q2, q3, q4, q5⟩ := res_put h.ok hd hm hnm hz (.inr ⟨es.map (·.1), by rw [lenD_ref g1, List.length_map], by rw [List.length_map]; omega⟩)
  have et := q5 t (ne_of_ty h.tab hd (by simp))
  refine ⟨st', q1, ⟨q2, h.tab, fun z lot k => ?_, fun z' l' c' d' e' hl' y hy => ?_, h.nk.eq et⟩, q3, q4, et⟩
  · obtain ⟨l, hl⟩ := h.done z lot k
    exact ⟨l, hl.eq et⟩
  · have e0 := e'.eq (s := st) et.symm
    by_cases hdd : d' = d
    · subst hdd
      have hat : st' = st.set d' (.dic (mapD .ref (putA es x m))) := by
        rw [putD_ref g1 (by omega)] at q1
        exact (Option.some.inj q1).symm
      obtain ⟨es', r1, r2⟩ := hy
      obtain ⟨hlt, _⟩ := List.getElem?_eq_some_iff.mp g1
      rw [hat, List.getElem?_set_self hlt] at r1
      cases mapD_ref_inj (MO.dic.inj (Option.some.inj r1))
      rw [putA_keys] at r2
      split at r2
      · exact hkeys y r2
      · rcases List.mem_append.mp r2 with r2 | r2
        · exact hkeys y r2
        · rw [List.mem_singleton] at r2
          rw [r2]; exact hx
    · obtain ⟨es', r1, r2⟩ := hy
      exact h.few z' l' c' d' e0 hl' y ⟨es', (q5 d' hdd).symm.trans r1, r2⟩
/-- one turn for a round -/
def IvTu (ps : List Str) (t n : Nat) (w1 : Wo) (s1 : Sto) (b : Int) (lot : List Str) (z : Str) (j : Nat) (e : MEnv) (s : Sto) : Prop :=
  ∃ x4 x7 x8 x9 x10 x11 x12 w, e = [some (.ref 0), some (.tup (ps.map .str)), some (.int b), some (.ref t), x4, some (.tup (lot.map .str)), some (.str z), x7, x8, x9, x10, x11, x12] ∧ An ps t n w s ∧ Ext w1 s1 w s ∧ s[t]? = s1[t]? ∧ (0 < j → Has w s t z)
noncomputable def bTurn : MS := (mSeq (mSet 7 (mNew (mLc (.nm 12) (mIt (mNew (mClF oSorted (mCons (mVar 3) mNil)))) [12] (mTst (mOp oEq (mNew (mLc (.nm 10) (mIt (mVar 5)) [10] (mTst (mOp oNotInD (mVar 10) (mOp oIxD (mOp oIxD (mVar 3) (mVar 12)) (mC (.int 0))))) (mVar 10))) (mNew (mLst mNil)))) (mVar 12))))
    (mSeq (mAsg (.tup [(.nm 8), (.nm 9)]) (mTup (mCons (mCall0 f__law_some (mCons (mVar 0) (mCons (mVar 7) mNil))) (mCons (mNewD mDic0) mNil))))
    (mSeq (mFor (.nm 10) (mIt (mVar 5)) (mPutD (mCall0 f__law_some (mCons (mVar 0) (mCons (mNew (mLc (.nm 12) (mIt (mNew (mClF oSorted (mCons (mVar 3) mNil)))) [12] (mTst (mOp oInD (mVar 10) (mOp oIxD (mOp oIxD (mVar 3) (mVar 12)) (mC (.int 0))))) (mVar 12))) mNil))) (mVar 9) (mVar 10)))
    (mSeq (mSet 11 (mOp oEq (mCall0 f__law_take (mCons (mVar 0) (mCons (mC (.int 3)) mNil))) (mC (.int 0))))
    (mPutD (mIf (mTst (mVar 11)) (mNewD (mClD oDict (mCons (mNew (mLc (.nm 10) (mIt (mVar 5)) [10] mYes (mTup (mCons (mVar 10) (mCons (mVar 8) mNil))))) mNil))) (mVar 9)) (mOp oIxD (mOp oIxD (mVar 3) (mVar 6)) (mC (.int 2))) (mOp oIxD (mNew (mLst (mCons (mC (.str "go")) (mCons (mC (.str "no")) mNil)))) (mVar 4)))))))
theorem any_turn {zs : List Str} {s1 : Sto} {w1 : Wo} {z : Str} {lot : List Str} {b : Int} {x7 x8 x9 x10 x11 x12 : Option PV} {i : Int} (own : ∀ o, o ∈ zs ↔ ∃ l, EntR s1 t o l) (hz : z ∈ zs) (hzl : z ≠ "last") (hi : 0 ≤ i ∧ i < 2)
    (h : An ps t n w (B :: rest)) (X : Ext w1 s1 w (B :: rest)) (et : (B :: rest)[t]? = s1[t]?) (hl : w.Γ z = some lot) {N C' D' : QN} {R : QV} (hN : ∀ j e s, IvTu ps t n w1 s1 b lot z (j + 1) e s → N e s) :
    OkS bTurn [some (.ref 0), some (.tup (ps.map .str)), some (.int b), some (.ref t), some (.int i), some (.tup (lot.map .str)), some (.str z), x7, x8, x9, x10, x11, x12] (B :: rest) N R D' C' := by
  have hB : BagO B := by
    obtain ⟨_, _, e, hB⟩ := h.ok.bagAt
    cases e; exact hB
  have hlot := h.ok.g.lot z lot hl
  have hl6 := lot_len h.ok hl
  obtain ⟨zs', t1, t2, t3, t4⟩ := tab_sorted h.ok h.tab
  have own' : ∀ o, o ∈ zs' ↔ o ∈ zs := fun o => (t4 o).trans (Iff.trans ⟨fun ⟨l, e⟩ => ⟨l, e.eq et.symm⟩, fun ⟨l, e⟩ => ⟨l, e.eq et⟩⟩ (own o).symm)
  simp only [bTurn, os_seq, os_skip, os_brk, os_cont, os_retN, os_drop, os_ret, os_retA, os_set, os_setA, os_if, os_asg, os_par, os_aug, os_put, os_augP, os_for, ok_var, ok_c, ok_nil, ok_cons, ok_tup, ok_lst, ok_new, ok_tst, ok_andT, ok_orT, ok_notT, ok_and, ok_or, ok_not, ok_if, ok_op, ok_un, ok_cl, ok_clF, ok_call, ok_mk, ok_noPart, ok_part, ok_cut, ok_mt, ok_chain, ok_it, ok_range1, ok_range2, ok_lc, ok_yes, out_some, out_none, out_add, out_sub, out_neg, out_le, out_gt, out_ge, out_lt, out_eqI, out_neI, out_int, out_abs, out_gcd, List.map_cons, List.map_nil, List.length_cons, List.length_nil, List.replicate, List.cons_append, List.nil_append, List.append_nil, List.getElem?_cons_zero, List.getElem?_cons_succ, List.set_cons_zero, List.set_cons_succ, PV.bl.injEq, PV.int.injEq, PV.str.injEq, exists_eq_left', exists_eq_left, and_true, true_and, if_true, if_false, Bool.false_eq_true, Bool.true_eq_false, decide_eq_true_eq, Nat.sub_self, Nat.reduceAdd, Nat.reduceSub, Nat.reduceLeDiff, List.cons.injEq, t1, it_l, wipeM]
  rw [comp_strs (p := fun o => decide ((lot.filter fun p => !decide (p ∈ (w.Γ o).getD [])) = [])) (g := .str) chk_none zs' fun o ho => ⟨ok_eq (by
    obtain ⟨l2, hl2⟩ := (t4 o).mp ho
    obtain ⟨_, c2, d2, r2⟩ := tab_ix h.ok h.tab hl2
    obtain ⟨lo, e1, e2, e3, e4, e5, e6, e7⟩ := rd0 h.ok h.tab hl2 r2
    simp only [os_seq, os_skip, os_brk, os_cont, os_retN, os_drop, os_ret, os_retA, os_set, os_setA, os_if, os_asg, os_par, os_aug, os_put, os_augP, os_for, ok_var, ok_c, ok_nil, ok_cons, ok_tup, ok_lst, ok_new, ok_tst, ok_andT, ok_orT, ok_notT, ok_and, ok_or, ok_not, ok_if, ok_op, ok_un, ok_cl, ok_clF, ok_call, ok_mk, ok_noPart, ok_part, ok_cut, ok_mt, ok_chain, ok_it, ok_range1, ok_range2, ok_lc, ok_yes, out_some, out_none, out_add, out_sub, out_neg, out_le, out_gt, out_ge, out_lt, out_eqI, out_neI, out_int, out_abs, out_gcd, List.map_cons, List.map_nil, List.length_cons, List.length_nil, List.replicate, List.cons_append, List.nil_append, List.append_nil, List.getElem?_cons_zero, List.getElem?_cons_succ, List.set_cons_zero, List.set_cons_succ, PV.bl.injEq, PV.int.injEq, PV.str.injEq, exists_eq_left', exists_eq_left, and_true, true_and, if_true, if_false, Bool.false_eq_true, Bool.true_eq_false, decide_eq_true_eq, Nat.sub_self, Nat.reduceAdd, Nat.reduceSub, Nat.reduceLeDiff, List.cons.injEq, it_t, wipeM]
    rw [comp_strs (p := fun p => !decide (p ∈ (w.Γ o).getD [])) (g := .str) chk_none lot fun p hp => ⟨ok_eq (by simp only [os_seq, os_skip, os_brk, os_cont, os_retN, os_drop, os_ret, os_retA, os_set, os_setA, os_if, os_asg, os_par, os_aug, os_put, os_augP, os_for, ok_var, ok_c, ok_nil, ok_cons, ok_tup, ok_lst, ok_new, ok_tst, ok_andT, ok_orT, ok_notT, ok_and, ok_or, ok_not, ok_if, ok_op, ok_un, ok_cl, ok_clF, ok_call, ok_mk, ok_noPart, ok_part, ok_cut, ok_mt, ok_chain, ok_it, ok_range1, ok_range2, ok_lc, ok_yes, out_some, out_none, out_add, out_sub, out_neg, out_le, out_gt, out_ge, out_lt, out_eqI, out_neI, out_int, out_abs, out_gcd, List.map_cons, List.map_nil, List.length_cons, List.length_nil, List.replicate, List.cons_append, List.nil_append, List.append_nil, List.getElem?_cons_zero, List.getElem?_cons_succ, List.set_cons_zero, List.set_cons_succ, PV.bl.injEq, PV.int.injEq, PV.str.injEq, exists_eq_left', exists_eq_left, and_true, true_and, if_true, if_false, Bool.false_eq_true, Bool.true_eq_false, decide_eq_true_eq, Nat.sub_self, Nat.reduceAdd, Nat.reduceSub, Nat.reduceLeDiff, List.cons.injEq, e4, e5, notin_t, e1, Option.getD_some]), fun _ => ok_eq (by simp only [os_seq, os_skip, os_brk, os_cont, os_retN, os_drop, os_ret, os_retA, os_set, os_setA, os_if, os_asg, os_par, os_aug, os_put, os_augP, os_for, ok_var, ok_c, ok_nil, ok_cons, ok_tup, ok_lst, ok_new, ok_tst, ok_andT, ok_orT, ok_notT, ok_and, ok_or, ok_not, ok_if, ok_op, ok_un, ok_cl, ok_clF, ok_call, ok_mk, ok_noPart, ok_part, ok_cut, ok_mt, ok_chain, ok_it, ok_range1, ok_range2, ok_lc, ok_yes, out_some, out_none, out_add, out_sub, out_neg, out_le, out_gt, out_ge, out_lt, out_eqI, out_neI, out_int, out_abs, out_gcd, List.map_cons, List.map_nil, List.length_cons, List.length_nil, List.replicate, List.cons_append, List.nil_append, List.append_nil, List.getElem?_cons_zero, List.getElem?_cons_succ, List.set_cons_zero, List.set_cons_succ, PV.bl.injEq, PV.int.injEq, PV.str.injEq, exists_eq_left', exists_eq_left, and_true, true_and, if_true, if_false, Bool.false_eq_true, Bool.true_eq_false, decide_eq_true_eq, Nat.sub_self, Nat.reduceAdd, Nat.reduceSub, Nat.reduceLeDiff, List.cons.injEq])⟩, out_some]
    refine ⟨Nat.zero_le _, ?_⟩
    simp only [eq_nil, out_some, List.map_cons, List.map_nil, List.length_cons, List.length_nil, List.replicate, List.cons_append, List.nil_append, List.append_nil, List.getElem?_cons_zero, List.getElem?_cons_succ, List.set_cons_zero, List.set_cons_succ, PV.bl.injEq, PV.int.injEq, PV.str.injEq, exists_eq_left', exists_eq_left, and_true, true_and, if_true, if_false, Bool.false_eq_true, Bool.true_eq_false, decide_eq_true_eq, Nat.sub_self, Nat.reduceAdd, Nat.reduceSub, Nat.reduceLeDiff, List.cons.injEq, List.map_eq_nil_iff]), fun _ => ok_eq (by simp only [os_seq, os_skip, os_brk, os_cont, os_retN, os_drop, os_ret, os_retA, os_set, os_setA, os_if, os_asg, os_par, os_aug, os_put, os_augP, os_for, ok_var, ok_c, ok_nil, ok_cons, ok_tup, ok_lst, ok_new, ok_tst, ok_andT, ok_orT, ok_notT, ok_and, ok_or, ok_not, ok_if, ok_op, ok_un, ok_cl, ok_clF, ok_call, ok_mk, ok_noPart, ok_part, ok_cut, ok_mt, ok_chain, ok_it, ok_range1, ok_range2, ok_lc, ok_yes, out_some, out_none, out_add, out_sub, out_neg, out_le, out_gt, out_ge, out_lt, out_eqI, out_neI, out_int, out_abs, out_gcd, List.map_cons, List.map_nil, List.length_cons, List.length_nil, List.replicate, List.cons_append, List.nil_append, List.append_nil, List.getElem?_cons_zero, List.getElem?_cons_succ, List.set_cons_zero, List.set_cons_succ, PV.bl.injEq, PV.int.injEq, PV.str.injEq, exists_eq_left', exists_eq_left, and_true, true_and, if_true, if_false, Bool.false_eq_true, Bool.true_eq_false, decide_eq_true_eq, Nat.sub_self, Nat.reduceAdd, Nat.reduceSub, Nat.reduceLeDiff, List.cons.injEq])⟩, out_some]
  have hfz : z ∈ zs'.filter fun o => decide ((lot.filter fun p => !decide (p ∈ (w.Γ o).getD [])) = []) := by
    refine List.mem_filter.mpr ⟨(own' z).mpr hz, ?_⟩
    rw [decide_eq_true_eq, List.filter_eq_nil_iff]
    intro p hp
    simp [hl, hp]
  refine (some_lst hB (fun e => by rw [List.map_eq_nil_iff] at e; rw [e] at hfz; cases hfz) (by
    rw [List.length_map]
    have := List.length_filter_le (fun o => decide ((lot.filter fun p => !decide (p ∈ (w.Γ o).getD [])) = [])) zs'
    omega)).imp fun v s q => ?_
  obtain ⟨B2, hv, rfl, hB2⟩ := q
  obtain ⟨o, rfl, ho⟩ := strs_at hv
  rw [List.mem_filter] at ho
  obtain ⟨ho, hpo⟩ := ho
  have htgt : ∀ p ∈ lot, Tgt w o p := fun p hp => by
    obtain ⟨l2, hl2⟩ := (t4 o).mp ho
    obtain ⟨_, c2, d2, r2⟩ := tab_ix h.ok h.tab hl2
    obtain ⟨lo, e1, _⟩ := rd0 h.ok h.tab hl2 r2
    refine ⟨lo, e1, ?_⟩
    rw [decide_eq_true_eq, List.filter_eq_nil_iff] at hpo
    simpa [e1] using hpo p hp
  have h2 := h.bg hB2
  have X2 : Ext w (B :: rest) w (B2 :: rest) := Ext.bg h.ok
  have et2 : (B2 :: rest)[t]? = (B :: rest)[t]? := cons_get (tab_ne0 h.ok h.tab (by decide))
  simp only [ok_newD, ok_dic0, os_seq, os_skip, os_brk, os_cont, os_retN, os_drop, os_ret, os_retA, os_set, os_setA, os_if, os_asg, os_par, os_aug, os_put, os_augP, os_for, ok_var, ok_c, ok_nil, ok_cons, ok_tup, ok_lst, ok_new, ok_tst, ok_andT, ok_orT, ok_notT, ok_and, ok_or, ok_not, ok_if, ok_op, ok_un, ok_cl, ok_clF, ok_call, ok_mk, ok_noPart, ok_part, ok_cut, ok_mt, ok_chain, ok_it, ok_range1, ok_range2, ok_lc, ok_yes, out_some, out_none, out_add, out_sub, out_neg, out_le, out_gt, out_ge, out_lt, out_eqI, out_neI, out_int, out_abs, out_gcd, List.map_cons, List.map_nil, List.length_cons, List.length_nil, List.replicate, List.cons_append, List.nil_append, List.append_nil, List.getElem?_cons_zero, List.getElem?_cons_succ, List.set_cons_zero, List.set_cons_succ, PV.bl.injEq, PV.int.injEq, PV.str.injEq, exists_eq_left', exists_eq_left, and_true, true_and, if_true, if_false, Bool.false_eq_true, Bool.true_eq_false, decide_eq_true_eq, Nat.sub_self, Nat.reduceAdd, Nat.reduceSub, Nat.reduceLeDiff, List.cons.injEq, sl (show 2 ≤ 1000 by decide), tg2, it_t, List.cons_append]
  obtain ⟨w3, h3, X3, hm, g3⟩ := h2.push (ty := .fil z) (o := .dic []) ⟨[], rfl, by simp, fun e he => (by cases he)⟩
  have et3 : (B2 :: (rest ++ [.dic []]))[t]? = (B2 :: rest)[t]? := get_old h2.ok h2.tab
  have own3 : ∀ o, o ∈ zs ↔ ∃ l, EntR (B2 :: (rest ++ [.dic []])) t o l := fun o => (own o).trans ⟨fun ⟨l, e⟩ => ⟨l, e.eq (et3.trans (et2.trans et))⟩, fun ⟨l, e⟩ => ⟨l, e.eq (et3.trans (et2.trans et)).symm⟩⟩
  have hl3 : w3.Γ z = some lot := by rw [g3]; exact hl
  refine any_fill hm hl3 own3 hz h3 get_end ?_
  rintro e s ⟨x10, us, rfl, h4, X4, et4, em4, ek4, eu4, elen4⟩
  rw [List.take_length] at ek4
  obtain ⟨B5, r5, rfl, hB5⟩ := h4.ok.bagAt
  simp only [os_seq, os_skip, os_brk, os_cont, os_retN, os_drop, os_ret, os_retA, os_set, os_setA, os_if, os_asg, os_par, os_aug, os_put, os_augP, os_for, ok_var, ok_c, ok_nil, ok_cons, ok_tup, ok_lst, ok_new, ok_tst, ok_andT, ok_orT, ok_notT, ok_and, ok_or, ok_not, ok_if, ok_op, ok_un, ok_cl, ok_clF, ok_call, ok_mk, ok_noPart, ok_part, ok_cut, ok_mt, ok_chain, ok_it, ok_range1, ok_range2, ok_lc, ok_yes, out_some, out_none, out_add, out_sub, out_neg, out_le, out_gt, out_ge, out_lt, out_eqI, out_neI, out_int, out_abs, out_gcd, List.map_cons, List.map_nil, List.length_cons, List.length_nil, List.replicate, List.cons_append, List.nil_append, List.append_nil, List.getElem?_cons_zero, List.getElem?_cons_succ, List.set_cons_zero, List.set_cons_succ, PV.bl.injEq, PV.int.injEq, PV.str.injEq, exists_eq_left', exists_eq_left, and_true, true_and, if_true, if_false, Bool.false_eq_true, Bool.true_eq_false, decide_eq_true_eq, Nat.sub_self, Nat.reduceAdd, Nat.reduceSub, Nat.reduceLeDiff, List.cons.injEq]
  refine (k_take hB5 (by decide) (logOk_lt (k := 5) (by decide) (by decide))).imp fun v s q => ?_
  obtain ⟨i6, B6, rfl, rfl, hB6, g60, g61⟩ := q
  have h6 := h4.bg hB6
  have X6 : Ext w3 (B5 :: r5) w3 (B6 :: r5) := Ext.bg h4.ok
  have et6 : (B6 :: r5)[t]? = s1[t]? := (cons_get (tab_ne0 h4.ok h4.tab (by decide))).trans (et4.trans (et3.trans (et2.trans et)))
  have em6 : (B6 :: r5)[rest.length + 1]? = some (.dic (mapD .str us)) := (cons_get (tab_ne0 h4.ok hm (by simp))).trans em4
  have XX : Ext w1 s1 w3 (B6 :: r5) := X.trans (X2.trans (X3.trans (X4.trans X6)))
  obtain ⟨l, hlz⟩ := (own z).mp hz
  have hlz6 := hlz.eq et6
  obtain ⟨_, c, d, hr⟩ := tab_ix h6.ok h6.tab hlz6
  have hword : ∃ wd : Str, (wd = "go" ∨ wd = "no") ∧ ∀ s, oIxD (.lst [.str "go", .str "no"]) (.int i) s = some (.str wd) := by
    rcases (by omega : i = 0 ∨ i = 1) with rfl | rfl
    · exact ⟨"go", .inl rfl, fun s => by rw [ixD_l]; exact atI_0⟩
    · exact ⟨"no", .inr rfl, fun s => by rw [ixD_l]; exact atI_1⟩
  obtain ⟨wd, hwd, ewd⟩ := hword
  simp only [os_putD, os_seq, os_skip, os_brk, os_cont, os_retN, os_drop, os_ret, os_retA, os_set, os_setA, os_if, os_asg, os_par, os_aug, os_put, os_augP, os_for, ok_var, ok_c, ok_nil, ok_cons, ok_tup, ok_lst, ok_new, ok_tst, ok_andT, ok_orT, ok_notT, ok_and, ok_or, ok_not, ok_if, ok_op, ok_un, ok_cl, ok_clF, ok_call, ok_mk, ok_noPart, ok_part, ok_cut, ok_mt, ok_chain, ok_it, ok_range1, ok_range2, ok_lc, ok_yes, out_some, out_none, out_add, out_sub, out_neg, out_le, out_gt, out_ge, out_lt, out_eqI, out_neI, out_int, out_abs, out_gcd, List.map_cons, List.map_nil, List.length_cons, List.length_nil, List.replicate, List.cons_append, List.nil_append, List.append_nil, List.getElem?_cons_zero, List.getElem?_cons_succ, List.set_cons_zero, List.set_cons_succ, PV.bl.injEq, PV.int.injEq, PV.str.injEq, exists_eq_left', exists_eq_left, and_true, true_and, if_true, if_false, Bool.false_eq_true, Bool.true_eq_false, decide_eq_true_eq, Nat.sub_self, Nat.reduceAdd, Nat.reduceSub, Nat.reduceLeDiff, List.cons.injEq]
  split
  · simp only [ok_newD, ok_clD, os_seq, os_skip, os_brk, os_cont, os_retN, os_drop, os_ret, os_retA, os_set, os_setA, os_if, os_asg, os_par, os_aug, os_put, os_augP, os_for, ok_var, ok_c, ok_nil, ok_cons, ok_tup, ok_lst, ok_new, ok_tst, ok_andT, ok_orT, ok_notT, ok_and, ok_or, ok_not, ok_if, ok_op, ok_un, ok_cl, ok_clF, ok_call, ok_mk, ok_noPart, ok_part, ok_cut, ok_mt, ok_chain, ok_it, ok_range1, ok_range2, ok_lc, ok_yes, out_some, out_none, out_add, out_sub, out_neg, out_le, out_gt, out_ge, out_lt, out_eqI, out_neI, out_int, out_abs, out_gcd, List.map_cons, List.map_nil, List.length_cons, List.length_nil, List.replicate, List.cons_append, List.nil_append, List.append_nil, List.getElem?_cons_zero, List.getElem?_cons_succ, List.set_cons_zero, List.set_cons_succ, PV.bl.injEq, PV.int.injEq, PV.str.injEq, exists_eq_left', exists_eq_left, and_true, true_and, if_true, if_false, Bool.false_eq_true, Bool.true_eq_false, decide_eq_true_eq, Nat.sub_self, Nat.reduceAdd, Nat.reduceSub, Nat.reduceLeDiff, List.cons.injEq, it_t, wipeM]
    rw [comp_strs (p := fun _ => true) (g := fun p => .tup [.str p, .str o]) chk_none lot fun x _ => ⟨rfl, fun _ => ok_eq (by simp only [os_seq, os_skip, os_brk, os_cont, os_retN, os_drop, os_ret, os_retA, os_set, os_setA, os_if, os_asg, os_par, os_aug, os_put, os_augP, os_for, ok_var, ok_c, ok_nil, ok_cons, ok_tup, ok_lst, ok_new, ok_tst, ok_andT, ok_orT, ok_notT, ok_and, ok_or, ok_not, ok_if, ok_op, ok_un, ok_cl, ok_clF, ok_call, ok_mk, ok_noPart, ok_part, ok_cut, ok_mt, ok_chain, ok_it, ok_range1, ok_range2, ok_lc, ok_yes, out_some, out_none, out_add, out_sub, out_neg, out_le, out_gt, out_ge, out_lt, out_eqI, out_neI, out_int, out_abs, out_gcd, List.map_cons, List.map_nil, List.length_cons, List.length_nil, List.replicate, List.cons_append, List.nil_append, List.append_nil, List.getElem?_cons_zero, List.getElem?_cons_succ, List.set_cons_zero, List.set_cons_succ, PV.bl.injEq, PV.int.injEq, PV.str.injEq, exists_eq_left', exists_eq_left, and_true, true_and, if_true, if_false, Bool.false_eq_true, Bool.true_eq_false, decide_eq_true_eq, Nat.sub_self, Nat.reduceAdd, Nat.reduceSub, Nat.reduceLeDiff, List.cons.injEq, sl (show 2 ≤ 1000 by decide)])⟩, out_some]
    simp only [filt]
    rw [dict_fun (f := PV.str) (g := fun _ => o) hlot.2.1.nodup, out_some]
    have ho1 : ObjOk w3 (.nex z) (.dic (mapD .str (lot.map fun p => (p, o)))) := by
      refine ⟨lot, _, hl3, rfl, by rw [keys_fun], fun e he => ?_⟩
      obtain ⟨p, hp', rfl⟩ := List.mem_map.mp he
      exact (htgt p hp').ext X2.gam |>.ext X3.gam
    obtain ⟨w7, h7, X7, hm7, g7⟩ := h6.push ho1
    have et7 := (get_old (o := .dic (mapD .str (lot.map fun p => (p, o)))) h6.ok h6.tab).trans et6
    have hr7 := X7.ty _ _ hr rfl
    have hl7 := X7.tab _ _ _ h6.tab hlz6
    obtain ⟨lo, e1, e2, e3, e4, e5, e6, e7⟩ := rd0 h7.ok h7.tab hl7 hr7
    obtain ⟨s9, p1, p2, p3, p4, p5⟩ := h7.res hl7 hr7 e3 hm7 hwd hzl
    simp only [List.cons_append, List.length_cons, e4, e6, ewd, sl (show 2 ≤ 1000 by decide), out_some, true_and]
    rw [p1, out_some]
    exact hN 0 _ _ ⟨_, _, _, _, _, _, _, w7, rfl, p2, XX.trans (X7.trans p3), p5.trans et7, fun _ => ⟨l, c, d, wd, p3.tab _ _ _ h7.tab hl7, hr7, p4⟩⟩
  · have ho1 : ObjOk w3 (.nex z) (.dic (mapD .str us)) := ⟨lot, us, hl3, rfl, by rw [ek4], eu4⟩
    obtain ⟨ok7, X7⟩ := h6.ok.full hm em6 ho1
    have h7 : An ps t n ⟨w3.Γ, w3.Θ.set (rest.length + 1) (.nex z)⟩ (B6 :: r5) := h6.step X7 ok7 rfl (fun _ _ _ => rfl) rfl
    have hm7 : (w3.Θ.set (rest.length + 1) (.nex z))[rest.length + 1]? = some (.nex z) := List.getElem?_set_self (List.getElem?_eq_some_iff.mp hm).1
    have hr7 := X7.ty _ _ hr rfl
    have hl7 := X7.tab _ _ _ h6.tab hlz6
    obtain ⟨lo, e1, e2, e3, e4, e5, e6, e7⟩ := rd0 h7.ok h7.tab hl7 hr7
    obtain ⟨s9, p1, p2, p3, p4, p5⟩ := h7.res hl7 hr7 e3 hm7 hwd hzl
    simp only [os_seq, os_skip, os_brk, os_cont, os_retN, os_drop, os_ret, os_retA, os_set, os_setA, os_if, os_asg, os_par, os_aug, os_put, os_augP, os_for, ok_var, ok_c, ok_nil, ok_cons, ok_tup, ok_lst, ok_new, ok_tst, ok_andT, ok_orT, ok_notT, ok_and, ok_or, ok_not, ok_if, ok_op, ok_un, ok_cl, ok_clF, ok_call, ok_mk, ok_noPart, ok_part, ok_cut, ok_mt, ok_chain, ok_it, ok_range1, ok_range2, ok_lc, ok_yes, out_some, out_none, out_add, out_sub, out_neg, out_le, out_gt, out_ge, out_lt, out_eqI, out_neI, out_int, out_abs, out_gcd, List.map_cons, List.map_nil, List.length_cons, List.length_nil, List.replicate, List.cons_append, List.nil_append, List.append_nil, List.getElem?_cons_zero, List.getElem?_cons_succ, List.set_cons_zero, List.set_cons_succ, PV.bl.injEq, PV.int.injEq, PV.str.injEq, exists_eq_left', exists_eq_left, and_true, true_and, if_true, if_false, Bool.false_eq_true, Bool.true_eq_false, decide_eq_true_eq, Nat.sub_self, Nat.reduceAdd, Nat.reduceSub, Nat.reduceLeDiff, List.cons.injEq, e4, e6, ewd, sl (show 2 ≤ 1000 by decide)]
    rw [p1, out_some]
    exact hN 0 _ _ ⟨_, _, _, _, _, _, _, _, rfl, p2, XX.trans (X7.trans p3), p5.trans et6, fun _ => ⟨l, c, d, wd, p3.tab _ _ _ h7.tab hl7, hr7, p4⟩⟩
end
end Ge

/-! Ge11: any table, whole (plain). -/
namespace Ge
open PySem PySem.Spec PyProof.Rows L2 Mi
section
variable {w : Wo} {ps : List Str} {st : Sto} {B : MO} {rest : Sto} {t n : Nat}
theorem ints_get {lo : Int} {n j : Nat} {v : PV} (h : (intsF lo n)[j]? = some v) : v = .int (lo + j) ∧ j < n := by
  unfold intsF at h
  rw [List.getElem?_map, Option.map_eq_some_iff] at h
  obtain ⟨k, hk, rfl⟩ := h
  obtain ⟨h1, h2⟩ := List.getElem?_eq_some_iff.mp hk
  rw [List.length_range] at h1
  rw [List.getElem_range] at h2
  subst h2
  exact ⟨rfl, h1⟩
theorem An.whole (h : An ps t n w st) (hf : ∀ z, (∃ l, EntR st t z l) → z ≠ "last" → Has w st t z) : Tb w ps st t n := by
  refine ⟨h.ok, h.tab, h.done, fun z l c d e hl hz => ?_, h.nk⟩
  obtain ⟨l', c', d', x, h1, h2, h3⟩ := hf z ⟨l, e⟩ hz
  obtain ⟨es, a, b⟩ := e
  obtain ⟨es', a', b'⟩ := h1
  rw [a] at a'
  cases mapD_ref_inj (MO.dic.inj (Option.some.inj a'))
  rw [b] at b'
  cases b'
  rw [hl] at h2
  cases h2
  exact ⟨x, h3⟩
/-- the second loop of any -/
def IvNm (ps : List Str) (t n : Nat) (w1 : Wo) (s1 : Sto) (b : Int) (zs : List Str) (k : Nat) (e : MEnv) (s : Sto) : Prop :=
  ∃ x4 x5 x6 x7 x8 x9 x10 x11 x12 w, e = [some (.ref 0), some (.tup (ps.map .str)), some (.int b), some (.ref t), x4, x5, x6, x7, x8, x9, x10, x11, x12] ∧ An ps t n w s ∧ Ext w1 s1 w s ∧ s[t]? = s1[t]? ∧ ∀ z ∈ zs.take k, z ≠ "last" → Has w s t z
theorem k_any {b : Int} (hp : Pts ps) (hB : BagO B) (hb : 2 ≤ b ∧ b ≤ 24) : OkF f__law_any [.ref 0, .tup (ps.map .str), .int b] (B :: rest) fun v s => ∃ w t n, v = .ref t ∧ Tb w ps s t n ∧ n ≤ 24 ∧ Ext (w00 ps rest) (B :: rest) w s := by
  refine of_defN rfl ?_
  simp only [b__law_any, os_seq, os_skip, os_brk, os_cont, os_retN, os_drop, os_ret, os_retA, os_set, os_setA, os_if, os_asg, os_par, os_aug, os_put, os_augP, os_for, ok_var, ok_c, ok_nil, ok_cons, ok_tup, ok_lst, ok_new, ok_tst, ok_andT, ok_orT, ok_notT, ok_and, ok_or, ok_not, ok_if, ok_op, ok_un, ok_cl, ok_clF, ok_call, ok_mk, ok_noPart, ok_part, ok_cut, ok_mt, ok_chain, ok_it, ok_range1, ok_range2, ok_lc, ok_yes, out_some, out_none, out_add, out_sub, out_neg, out_le, out_gt, out_ge, out_lt, out_eqI, out_neI, out_int, out_abs, out_gcd, List.map_cons, List.map_nil, List.length_cons, List.length_nil, List.replicate, List.cons_append, List.nil_append, List.append_nil, List.getElem?_cons_zero, List.getElem?_cons_succ, List.set_cons_zero, List.set_cons_succ, PV.bl.injEq, PV.int.injEq, PV.str.injEq, exists_eq_left', exists_eq_left, and_true, true_and, if_true, if_false, Bool.false_eq_true, Bool.true_eq_false, decide_eq_true_eq, Nat.sub_self, Nat.reduceAdd, Nat.reduceSub, Nat.reduceLeDiff, List.cons.injEq]
  refine (k_begun hp hB).imp fun v s q => ?_
  obtain ⟨w, t, rfl, h, X, _, few, _⟩ := q
  obtain ⟨B1, r1, rfl, hB1⟩ := h.ok.bagAt
  refine (k_take hB1 (by omega) (logOk_lt (k := 5) (by omega) (by decide))).imp fun v2 s q => ?_
  obtain ⟨i, B2, rfl, rfl, hB2, g0, g1⟩ := q
  have X2 : Ext w (B1 :: r1) w (B2 :: r1) := Ext.bg h.ok
  have h2 : An ps t (2 + 0) w (B2 :: r1) := An.bg ⟨h.ok, h.tab, h.done, few, h.nk⟩ hB2
  simp only [os_seq, os_skip, os_brk, os_cont, os_retN, os_drop, os_ret, os_retA, os_set, os_setA, os_if, os_asg, os_par, os_aug, os_put, os_augP, os_for, ok_var, ok_c, ok_nil, ok_cons, ok_tup, ok_lst, ok_new, ok_tst, ok_andT, ok_orT, ok_notT, ok_and, ok_or, ok_not, ok_if, ok_op, ok_un, ok_cl, ok_clF, ok_call, ok_mk, ok_noPart, ok_part, ok_cut, ok_mt, ok_chain, ok_it, ok_range1, ok_range2, ok_lc, ok_yes, out_some, out_none, out_add, out_sub, out_neg, out_le, out_gt, out_ge, out_lt, out_eqI, out_neI, out_int, out_abs, out_gcd, List.map_cons, List.map_nil, List.length_cons, List.length_nil, List.replicate, List.cons_append, List.nil_append, List.append_nil, List.getElem?_cons_zero, List.getElem?_cons_succ, List.set_cons_zero, List.set_cons_succ, PV.bl.injEq, PV.int.injEq, PV.str.injEq, exists_eq_left', exists_eq_left, and_true, true_and, if_true, if_false, Bool.false_eq_true, Bool.true_eq_false, decide_eq_true_eq, Nat.sub_self, Nat.reduceAdd, Nat.reduceSub, Nat.reduceLeDiff, List.cons.injEq]
  refine ⟨⟨by omega, by have := small_line (n := 100) (by decide); omega⟩, ?_⟩
  refine for_inv (IvA1 ps (w00 ps rest) (B :: rest) t b) _ _ 0 _ _ ?_ ?_ ⟨none, none, w, rfl, h2, X.trans X2⟩
  · rintro j v e s hv ⟨x4, x5, w, rfl, h, X⟩
    obtain ⟨rfl, hj⟩ := ints_get hv
    obtain ⟨B1, r1, rfl, hB1⟩ := h.ok.bagAt
    exact any_row h hB1 (by omega) X
  · rintro e s1 ⟨x4, x5, w1, rfl, h1, X1⟩
    rw [intsF_len] at h1
    have hn : 2 + (0 + i.toNat) ≤ 24 := by omega
    generalize 2 + (0 + i.toNat) = n at h1 hn
    obtain ⟨zs, t1, t2, t3, t4⟩ := tab_sorted h1.ok h1.tab
    simp only [os_seq, os_skip, os_brk, os_cont, os_retN, os_drop, os_ret, os_retA, os_set, os_setA, os_if, os_asg, os_par, os_aug, os_put, os_augP, os_for, ok_var, ok_c, ok_nil, ok_cons, ok_tup, ok_lst, ok_new, ok_tst, ok_andT, ok_orT, ok_notT, ok_and, ok_or, ok_not, ok_if, ok_op, ok_un, ok_cl, ok_clF, ok_call, ok_mk, ok_noPart, ok_part, ok_cut, ok_mt, ok_chain, ok_it, ok_range1, ok_range2, ok_lc, ok_yes, out_some, out_none, out_add, out_sub, out_neg, out_le, out_gt, out_ge, out_lt, out_eqI, out_neI, out_int, out_abs, out_gcd, List.map_cons, List.map_nil, List.length_cons, List.length_nil, List.replicate, List.cons_append, List.nil_append, List.append_nil, List.getElem?_cons_zero, List.getElem?_cons_succ, List.set_cons_zero, List.set_cons_succ, PV.bl.injEq, PV.int.injEq, PV.str.injEq, exists_eq_left', exists_eq_left, and_true, true_and, if_true, if_false, Bool.false_eq_true, Bool.true_eq_false, decide_eq_true_eq, Nat.sub_self, Nat.reduceAdd, Nat.reduceSub, Nat.reduceLeDiff, List.cons.injEq, t1, it_l]
    refine for_inv (IvNm ps t n w1 s1 b zs) _ _ 0 _ _ ?_ ?_ ⟨_, _, none, none, none, none, none, none, none, w1, rfl, h1, Ext.rfl', rfl, fun z hz => (by simp at hz)⟩
    · rintro j v e s3 hv ⟨x4, x5, x6, x7, x8, x9, x10, x11, x12, w3, rfl, h3, X3, et3, hh⟩
      rw [List.getElem?_map, Option.map_eq_some_iff] at hv
      obtain ⟨z, hz, rfl⟩ := hv
      rw [Nat.zero_add] at *
      have hzs := List.mem_of_getElem? hz
      obtain ⟨l, hl⟩ := (t4 z).mp hzs
      have hl := hl.eq et3
      obtain ⟨_, c, d, hr⟩ := tab_ix h3.ok h3.tab hl
      obtain ⟨lot, e1, e2, e3, e4, e5, e6, e7⟩ := rd0 h3.ok h3.tab hl hr
      have next : ∀ (w4 : Wo) (s4 : Sto) (k : Nat) (e : MEnv) (s : Sto), (z = "last" ∨ 0 < k) → Ext w3 s3 w4 s4 → s4[t]? = s3[t]? → IvTu ps t n w4 s4 b lot z k e s → IvNm ps t n w1 s1 b zs (j + 1) e s := by
        rintro w4 s4 k e s hk X4 et4 ⟨y4, y7, y8, y9, y10, y11, y12, w5, rfl, h5, X5, et5, f5⟩
        refine ⟨_, _, _, _, _, _, _, _, _, w5, rfl, h5, X3.trans (X4.trans X5), et5.trans (et4.trans et3), fun z' hz' hne => ?_⟩
        rw [List.take_succ, hz] at hz'
        rcases List.mem_append.mp hz' with hz' | hz'
        · exact (hh z' hz' hne).ext h3.ok h3.tab (X4.trans X5)
        · simp only [Option.toList_some, List.mem_singleton] at hz'
          subst hz'
          rcases hk with hk | hk
          · exact absurd hk hne
          · exact f5 hk
      simp only [os_seq, os_skip, os_brk, os_cont, os_retN, os_drop, os_ret, os_retA, os_set, os_setA, os_if, os_asg, os_par, os_aug, os_put, os_augP, os_for, ok_var, ok_c, ok_nil, ok_cons, ok_tup, ok_lst, ok_new, ok_tst, ok_andT, ok_orT, ok_notT, ok_and, ok_or, ok_not, ok_if, ok_op, ok_un, ok_cl, ok_clF, ok_call, ok_mk, ok_noPart, ok_part, ok_cut, ok_mt, ok_chain, ok_it, ok_range1, ok_range2, ok_lc, ok_yes, out_some, out_none, out_add, out_sub, out_neg, out_le, out_gt, out_ge, out_lt, out_eqI, out_neI, out_int, out_abs, out_gcd, List.map_cons, List.map_nil, List.length_cons, List.length_nil, List.replicate, List.cons_append, List.nil_append, List.append_nil, List.getElem?_cons_zero, List.getElem?_cons_succ, List.set_cons_zero, List.set_cons_succ, PV.bl.injEq, PV.int.injEq, PV.str.injEq, exists_eq_left', exists_eq_left, and_true, true_and, if_true, if_false, Bool.false_eq_true, Bool.true_eq_false, decide_eq_true_eq, Nat.sub_self, Nat.reduceAdd, Nat.reduceSub, Nat.reduceLeDiff, List.cons.injEq, e4, e5, eq_str]
      split
      · rename_i hlast
        refine ⟨⟨by omega, Int.natCast_nonneg _⟩, ?_⟩
        refine for_inv (IvTu ps t n w3 s3 b lot z) _ _ 0 _ _ (fun j v e s hv => ?_) (fun e s q => next w3 s3 _ e s (.inl hlast) Ext.rfl' rfl q) ⟨_, _, _, _, _, _, _, w3, rfl, h3, Ext.rfl', rfl, fun k => absurd k (Nat.lt_irrefl 0)⟩
        exact absurd (ints_get hv).2 (Nat.not_lt_zero j)
      · rename_i hlast
        obtain ⟨B4, r4, rfl, hB4⟩ := h3.ok.bagAt
        refine (k_take hB4 (by decide) (logOk_lt (k := 5) (by decide) (by decide))).imp fun v2 s q => ?_
        obtain ⟨i5, B5, rfl, rfl, hB5, g50, g51⟩ := q
        have X5 : Ext w3 (B4 :: r4) w3 (B5 :: r4) := Ext.bg h3.ok
        have h5 := h3.bg hB5
        have et5 : (B5 :: r4)[t]? = (B4 :: r4)[t]? := cons_get (tab_ne0 h3.ok h3.tab (by decide))
        simp only [os_seq, os_skip, os_brk, os_cont, os_retN, os_drop, os_ret, os_retA, os_set, os_setA, os_if, os_asg, os_par, os_aug, os_put, os_augP, os_for, ok_var, ok_c, ok_nil, ok_cons, ok_tup, ok_lst, ok_new, ok_tst, ok_andT, ok_orT, ok_notT, ok_and, ok_or, ok_not, ok_if, ok_op, ok_un, ok_cl, ok_clF, ok_call, ok_mk, ok_noPart, ok_part, ok_cut, ok_mt, ok_chain, ok_it, ok_range1, ok_range2, ok_lc, ok_yes, out_some, out_none, out_add, out_sub, out_neg, out_le, out_gt, out_ge, out_lt, out_eqI, out_neI, out_int, out_abs, out_gcd, List.map_cons, List.map_nil, List.length_cons, List.length_nil, List.replicate, List.cons_append, List.nil_append, List.append_nil, List.getElem?_cons_zero, List.getElem?_cons_succ, List.set_cons_zero, List.set_cons_succ, PV.bl.injEq, PV.int.injEq, PV.str.injEq, exists_eq_left', exists_eq_left, and_true, true_and, if_true, if_false, Bool.false_eq_true, Bool.true_eq_false, decide_eq_true_eq, Nat.sub_self, Nat.reduceAdd, Nat.reduceSub, Nat.reduceLeDiff, List.cons.injEq]
        refine ⟨⟨by omega, by have := small_line (n := 100) (by decide); omega⟩, ?_⟩
        have own5 : ∀ o, o ∈ zs ↔ ∃ l, EntR (B5 :: r4) t o l := fun o => (t4 o).trans ⟨fun ⟨l, e⟩ => ⟨l, e.eq (et5.trans et3)⟩, fun ⟨l, e⟩ => ⟨l, e.eq (et5.trans et3).symm⟩⟩
        refine for_inv (IvTu ps t n w3 (B5 :: r4) b lot z) _ _ 0 _ _ ?_ (fun e s q => next w3 (B5 :: r4) _ e s (.inr (by rw [intsF_len]; omega)) X5 et5 q) ⟨_, _, _, _, _, _, _, w3, rfl, h5, Ext.rfl', rfl, fun k => absurd k (Nat.lt_irrefl 0)⟩
        rintro j' v e s hv ⟨y4, y7, y8, y9, y10, y11, y12, w6, rfl, h6, X6, et6, f6⟩
        obtain ⟨rfl, hj⟩ := ints_get hv
        obtain ⟨B7, r7, rfl, hB7⟩ := h6.ok.bagAt
        refine any_turn (i := 0 + (j' : Int)) own5 hzs hlast ⟨by omega, by omega⟩ h6 X6 et6 (X6.gam _ _ e1) ?_
        rintro k e s ⟨z4, z7, z8, z9, z10, z11, z12, w8, rfl, h8, X8, et8, f8⟩
        exact ⟨_, _, _, _, _, _, _, w8, rfl, h8, X8, et8, fun _ => f8 (Nat.succ_pos _)⟩
    · rintro e s3 ⟨x4, x5, x6, x7, x8, x9, x10, x11, x12, w3, rfl, h3, X3, et3, hh⟩
      simp only [os_seq, os_skip, os_brk, os_cont, os_retN, os_drop, os_ret, os_retA, os_set, os_setA, os_if, os_asg, os_par, os_aug, os_put, os_augP, os_for, ok_var, ok_c, ok_nil, ok_cons, ok_tup, ok_lst, ok_new, ok_tst, ok_andT, ok_orT, ok_notT, ok_and, ok_or, ok_not, ok_if, ok_op, ok_un, ok_cl, ok_clF, ok_call, ok_mk, ok_noPart, ok_part, ok_cut, ok_mt, ok_chain, ok_it, ok_range1, ok_range2, ok_lc, ok_yes, out_some, out_none, out_add, out_sub, out_neg, out_le, out_gt, out_ge, out_lt, out_eqI, out_neI, out_int, out_abs, out_gcd, List.map_cons, List.map_nil, List.length_cons, List.length_nil, List.replicate, List.cons_append, List.nil_append, List.append_nil, List.getElem?_cons_zero, List.getElem?_cons_succ, List.set_cons_zero, List.set_cons_succ, PV.bl.injEq, PV.int.injEq, PV.str.injEq, exists_eq_left', exists_eq_left, and_true, true_and, if_true, if_false, Bool.false_eq_true, Bool.true_eq_false, decide_eq_true_eq, Nat.sub_self, Nat.reduceAdd, Nat.reduceSub, Nat.reduceLeDiff, List.cons.injEq]
      refine ⟨w3, t, n, rfl, h3.whole fun z ⟨l, hl⟩ hne => hh z ?_ hne, hn, X1.trans X3⟩
      rw [Nat.zero_add, List.length_map, List.take_length]
      exact (t4 z).mpr ⟨l, hl.eq et3.symm⟩
end
end Ge

/-! Ge12: a table of three in pairs (plain). -/
namespace Ge
open PySem PySem.Spec PyProof.Rows L2 Mi
section
variable {w : Wo} {ps : List Str} {st : Sto} {B : MO} {rest : Sto} {t n : Nat}
theorem more' (ok : Ok w ps st) {ty : Ty} {o : MO} (ho : ObjOk w ty o) : ∃ w', Ok w' ps (st ++ [o]) ∧ Ext w st w' (st ++ [o]) ∧ w'.Θ[st.length]? = some ty ∧ w'.Γ = w.Γ :=
  ⟨w.push ty, ok.push (ho.mono (w := w) (w' := w.push ty) (fun _ _ g => g) fun _ _ g _ => get_push g), Ext.push ok, by rw [← ok.len]; exact get_last, rfl⟩
theorem Full.row {w1 : Wo} {s1 s2 : Sto} {y c x : Str} {l d : Nat} (ok : Ok w ps st) (ht : w.Θ[t]? = some .tab) (hf : Full w st t) (X : Ext w st w1 s1) (et : s1[t]? = st[t]?)
    (hl : w1.Θ[l]? = some (.row y c d)) (hd : HasK s2 d x) (X2 : Ext w1 s1 w1 s2) (e : EntR s2 t y l) (ho : ∀ x l', EntR s2 t x l' → x = y ∨ EntR s1 t x l') : Full w1 s2 t := by
  intro z l' c' d' e' hl' hz
  rcases ho z l' e' with rfl | e0
  · obtain ⟨es, a, b⟩ := e
    obtain ⟨es', a', b'⟩ := e'
    rw [a] at a'
    cases mapD_ref_inj (MO.dic.inj (Option.some.inj a'))
    rw [b] at b'
    cases b'
    rw [hl] at hl'
    cases hl'
    exact ⟨x, hd⟩
  · have e1 := e0.eq (s := st) et.symm
    obtain ⟨_, c2, d2, k2⟩ := tab_ix ok ht e1
    have := X.ty _ _ k2 rfl
    rw [hl'] at this
    cases this
    obtain ⟨x, hx⟩ := hf z l' c' d' e1 k2 hz
    obtain ⟨_, _, _, _, k3⟩ := row_at ok k2
    exact ⟨x, X2.res _ _ _ (X.ty _ _ k3 rfl) (X.res _ _ _ k3 hx)⟩
def p3 : List Str := ["a", "b", "c"]
def r3 : List Str := ["k", "m", "z"]
theorem p3_ok : Pts p3 := ⟨by unfold Srt; decide +kernel, by decide, by decide, by decide +kernel⟩
def sg (j : Nat) : Nat := (j + 1) % 3
/-- three names in some order -/
structure Tri (xs all : List Str) (N : Nat → Str) : Prop where
  at0 : ∀ j : Nat, j < 3 → ∀ s, oIxD (.lst (xs.map .str)) (.int ((0 : Int) + j)) s = some (.str (N j))
  at2 : ∀ j : Nat, j < 3 → ∀ s, oIxD (.lst (xs.map .str)) (.int ((0 : Int) + j - 2)) s = some (.str (N (sg j)))
  mem : ∀ j : Nat, j < 3 → N j ∈ all
  ne : ∀ i j : Nat, i < 3 → j < 3 → N i = N j → i = j
theorem tri_of {xs all : List Str} (h : xs.Perm all) (hl : all.length = 3) (hn : all.Nodup) : ∃ N, Tri xs all N := by
  have hx : xs.length = 3 := h.length_eq.trans hl
  have hnx := h.nodup_iff.mpr hn
  obtain ⟨a, b, c, rfl⟩ : ∃ a b c, xs = [a, b, c] := by
    match xs, hx with
    | [a, b, c], _ => exact ⟨a, b, c, rfl⟩
  refine ⟨fun j => [a, b, c].getD j a, fun j hj s => ?_, fun j hj s => ?_, fun j hj => ?_, fun i j hi hj e => ?_⟩
  · rw [ixD_l]
    match j, hj with
    | 0, _ => rfl
    | 1, _ => rfl
    | 2, _ => rfl
  · rw [ixD_l]
    match j, hj with
    | 0, _ => rfl
    | 1, _ => rfl
    | 2, _ => rfl
  · refine h.mem_iff.mp ?_
    match j, hj with
    | 0, _ => simp
    | 1, _ => simp
    | 2, _ => simp
  · simp only [List.nodup_cons, List.mem_cons, List.not_mem_nil, or_false, not_or] at hnx
    match i, j, hi, hj, e with
    | 0, 0, _, _, _ => rfl
    | 1, 1, _, _, _ => rfl
    | 2, 2, _, _, _ => rfl
    | 0, 1, _, _, e => exact absurd e hnx.1.1
    | 0, 2, _, _, e => exact absurd e hnx.1.2
    | 1, 2, _, _, e => exact absurd e hnx.2.1
    | 1, 0, _, _, e => exact absurd e.symm hnx.1.1
    | 2, 0, _, _, e => exact absurd e.symm hnx.1.2
    | 2, 1, _, _, e => exact absurd e.symm hnx.2.1
theorem sg_lt {j : Nat} : sg j < 3 := Nat.mod_lt _ (by decide)
theorem sg_ne {j : Nat} (h : j < 3) : sg j ≠ j := by
  unfold sg
  omega
def lot2 (N : Nat → Str) (j : Nat) : List Str := sortS [N j, N (sg j)]
theorem lot2_ok {xs all : List Str} {N : Nat → Str} (h : Tri xs all N) {j : Nat} (hj : j < 3) : Srt (lot2 N j) ∧ lot2 N j ≠ [] ∧ (∀ p ∈ lot2 N j, p ∈ all) ∧ N j ∈ lot2 N j ∧ N (sg j) ∈ lot2 N j ∧ ([N j, N (sg j)]).Nodup := by
  have hn : ([N j, N (sg j)]).Nodup := by
    simp only [List.nodup_cons, List.mem_cons, List.not_mem_nil, or_false, not_false_eq_true, List.nodup_nil, and_true]
    exact fun e => sg_ne hj (h.ne _ _ sg_lt hj e.symm)
  have h1 : N j ∈ lot2 N j := sort_mem.mpr (by simp)
  refine ⟨srt_sort hn, fun e => (by rw [e] at h1; cases h1), fun p hp => ?_, h1, sort_mem.mpr (by simp), hn⟩
  have := sort_mem.mp hp
  simp only [List.mem_cons, List.not_mem_nil, or_false] at this
  rcases this with rfl | rfl
  · exact h.mem j hj
  · exact h.mem _ sg_lt
/-- the loop that lays the three rounds -/
structure Pr (N R : Nat → Str) (t k : Nat) (w : Wo) (s : Sto) : Prop where
  ok : Ok w p3 s
  tab : w.Θ[t]? = some .tab
  nk : Nk s t (2 + k)
  lots : ∀ j, j < 3 → w.Γ (R j) = some (lot2 N j)
  done : ∀ z lot, w.Γ z = some lot → (∃ l, EntR s t z l) ∨ ∃ j, k ≤ j ∧ j < 3 ∧ z = R j
  free : ∀ j, k ≤ j → j < 3 → ¬ ∃ l, EntR s t (R j) l
  full : Full w s t
  go : ∃ l c d, EntR s t "first" l ∧ w.Θ[l]? = some (.row "first" c d) ∧ HasK s d "go"
def IvPr (N R : Nat → Str) (ns rs : List Str) (t : Nat) (w0 : Wo) (s0 : Sto) (k : Nat) (e : MEnv) (s : Sto) : Prop :=
  ∃ x5 x6 x7 w, e = [some (.ref 0), some (.lst (ns.map .str)), some (.lst (rs.map .str)), some (.tup (p3.map .str)), some (.ref t), x5, x6, x7, none, none] ∧ Pr N R t k w s ∧ Ext w0 s0 w s
noncomputable def bPair : MS := (mSeq (mPar 6 7 (mCons (mCl oTuple (mCons (mNew (mClF oSorted (mCons (mNew (mLst (mCons (mOp oIxD (mVar 1) (mVar 5)) (mCons (mOp oIxD (mVar 1) (mOp oSub (mVar 5) (mC (.int 2)))) mNil)))) mNil))) mNil)) (mCons (mOp oIxD (mVar 2) (mOp oSub (mVar 5) (mC (.int 2)))) mNil)))
    (mSeq (mPutD (mNewA (mLst (mCons (mVar 6) (mCons (mOp oIxD (mVar 6) (mC (.int 0))) (mCons (mNewD (mDisp [((mC (.str "go")), (mNewD (mDisp [((mOp oIxD (mVar 1) (mVar 5)), (mC (.str "last"))), ((mOp oIxD (mVar 1) (mOp oSub (mVar 5) (mC (.int 2)))), (mVar 7))])))])) mNil))))) (mVar 4) (mOp oIxD (mVar 2) (mVar 5)))
    (mPutD (mOp oIxD (mVar 2) (mVar 5)) (mOp oIxD (mOp oIxD (mOp oIxD (mVar 4) (mC (.str "first"))) (mC (.int 2))) (mC (.str "go"))) (mOp oIxD (mVar 1) (mOp oSub (mVar 5) (mC (.int 2)))))))
theorem keyed2 {a b : Str} {x y : PV} : keyed [(.str a, x), (.str b, y)] = true := rfl
theorem merge2 {a b x y : Str} (h : ([a, b]).Nodup) : mergeP [] [(.str a, .str x), (.str b, .str y)] = mapD .str [(a, x), (b, y)] := by
  have := mergeP_mapD PV.str [(a, x), (b, y)] []
  rw [mergeA_new (more := [(a, x), (b, y)]) (es := []) h] at this
  exact this
theorem pair_step {N R : Nat → Str} {ns rs : List Str} {w0 : Wo} {s0 s : Sto} {j : Nat} {x6 x7 : Option PV} (hN : Tri ns p3 N) (hR : Tri rs r3 R) (hj : j < 3) (h : Pr N R t j w s) (X : Ext w0 s0 w s) {R' : QV} {N' C' : QN} :
    OkS bPair [some (.ref 0), some (.lst (ns.map .str)), some (.lst (rs.map .str)), some (.tup (p3.map .str)), some (.ref t), some (.int ((0 : Int) + j)), x6, x7, none, none] s (IvPr N R ns rs t w0 s0 (j + 1)) R' N' C' := by
  obtain ⟨a1, a2, a3, a4, a5, a6⟩ := lot2_ok hN hj
  have es : ∀ s, oSorted [.lst [.str (N j), .str (N (sg j))]] s = some ((lot2 N j).map .str) := fun s => sorted_l (zs := [N j, N (sg j)]) (show 2 < 64 by decide) fun z hz => by
    have : z ∈ p3 := by
      simp only [List.mem_cons, List.not_mem_nil, or_false] at hz
      rcases hz with rfl | rfl
      · exact hN.mem j hj
      · exact hN.mem _ sg_lt
    exact (p3_ok.nm z this).line
  obtain ⟨c, hc, ec⟩ := ixD_first a2
  simp only [bPair, os_seq, os_skip, os_brk, os_cont, os_retN, os_drop, os_ret, os_retA, os_set, os_setA, os_if, os_asg, os_par, os_aug, os_put, os_augP, os_for, ok_var, ok_c, ok_nil, ok_cons, ok_tup, ok_lst, ok_new, ok_tst, ok_andT, ok_orT, ok_notT, ok_and, ok_or, ok_not, ok_if, ok_op, ok_un, ok_cl, ok_clF, ok_call, ok_mk, ok_noPart, ok_part, ok_cut, ok_mt, ok_chain, ok_it, ok_range1, ok_range2, ok_lc, ok_yes, out_some, out_none, out_add, out_sub, out_neg, out_le, out_gt, out_ge, out_lt, out_eqI, out_neI, out_int, out_abs, out_gcd, List.map_cons, List.map_nil, List.length_cons, List.length_nil, List.replicate, List.cons_append, List.nil_append, List.append_nil, List.getElem?_cons_zero, List.getElem?_cons_succ, List.set_cons_zero, List.set_cons_succ, PV.bl.injEq, PV.int.injEq, PV.str.injEq, exists_eq_left', exists_eq_left, and_true, true_and, if_true, if_false, Bool.false_eq_true, Bool.true_eq_false, decide_eq_true_eq, Nat.sub_self, Nat.reduceAdd, Nat.reduceSub, Nat.reduceLeDiff, List.cons.injEq, hN.at0 j hj, hN.at2 j hj, hR.at0 j hj, hR.at2 j hj, es, tuple_l, os_putD, ok_newA, ok_newD, ok_disp, ok_pairs1, ok_pairs0, ec, sl (show 2 ≤ 1000 by decide), sl (show 3 ≤ 1000 by decide), keyed2, merge2 a6]
  refine ⟨_, _, ⟨rfl, rfl⟩, ?_⟩
  rw [ec, out_some, merge2 a6, merge1]
  refine ⟨rfl, ?_⟩
  have ho1 : ObjOk w (.nex (R j)) (.dic (mapD .str [(N j, ("last" : Str)), (N (sg j), R (sg j))])) := by
    refine ⟨lot2 N j, _, h.lots j hj, rfl, (sortS_perm _).symm, fun e he => ?_⟩
    simp only [List.mem_cons, List.not_mem_nil, or_false] at he
    rcases he with rfl | rfl
    · exact ⟨p3, h.ok.g.lst, hN.mem j hj⟩
    · exact ⟨_, h.lots _ sg_lt, (lot2_ok hN sg_lt).2.2.2.1⟩
  generalize MO.dic (mapD PV.str [(N j, ("last" : Str)), (N (sg j), R (sg j))]) = o1 at ho1 ⊢
  obtain ⟨w1, ok1, X1, r1, g1⟩ := more' h.ok ho1
  have hrj := hR.mem j hj
  have hrn : ∀ z ∈ r3, z ≠ "first" ∧ z ≠ "last" ∧ Nmk z := by decide +kernel
  have ho2 : ObjOk w1 (.res (R j)) (.dic (mapD .ref [("go", s.length)])) := by
    refine ⟨_, rfl, by simp, by simp, fun e he => ?_, fun e => absurd e (hrn _ hrj).2.1⟩
    simp only [List.mem_cons, List.not_mem_nil, or_false] at he
    subst he
    exact ⟨show Nmk "go" by decide +kernel, r1⟩
  have et1 : (s ++ [o1])[t]? = s[t]? := get_old h.ok h.tab
  have tab1 := X1.ty _ _ h.tab rfl
  generalize hq1 : s ++ [o1] = q1 at ok1 X1 et1 ⊢
  obtain ⟨w2, ok2, X2, r2, g2⟩ := more' ok1 ho2
  have go2 : HasK (q1 ++ [.dic (mapD .ref [("go", s.length)])]) q1.length "go" := ⟨_, get_last, by simp⟩
  generalize MO.dic (mapD PV.ref [("go", s.length)]) = o2 at ok2 X2 go2 ⊢
  have et2 : (q1 ++ [o2])[t]? = s[t]? := (get_old ok1 tab1).trans et1
  have tab2 := X2.ty _ _ tab1 rfl
  have ho3 : ObjOk w2 (.row (R j) c q1.length) (.lst [.tup ((lot2 N j).map .str), .str c, .ref q1.length]) := ⟨lot2 N j, by rw [g2, g1]; exact h.lots j hj, rfl, hc, r2⟩
  generalize MO.lst [.tup ((lot2 N j).map .str), .str c, .ref q1.length] = o3 at ho3 ⊢
  generalize hq2 : q1 ++ [o2] = q2 at ok2 X2 go2 et2 ⊢
  obtain ⟨w3, ok3, X3, r3', g3⟩ := more' ok2 ho3
  have et3 : (q2 ++ [o3])[t]? = s[t]? := (get_old ok2 tab2).trans et2
  have tab3 := X3.ty _ _ tab2 rfl
  have go3 := X3.res _ _ _ r2 go2
  generalize hq3 : q2 ++ [o3] = q3 at ok3 X3 et3 go3 ⊢
  have XX : Ext w s w3 q3 := X1.trans (X2.trans X3)
  have gg : w3.Γ = w.Γ := by rw [g3, g2, g1]
  obtain ⟨zs, t1, t2, t3, t4⟩ := tab_list h.ok h.tab
  have hzs : zs.length = 2 + j := Nk.unique t2 h.nk
  have t2n : Nk s t zs.length := t2
  obtain ⟨s9, p1, p2, p3', p4, p5, p6, p7⟩ := tab_put ok3 tab3 r3' (by rw [gg]; exact h.lots j hj) (zs := zs) (by omega) (fun x => (t4 x).trans ⟨fun ⟨l, e⟩ => ⟨l, e.eq et3⟩, fun ⟨l, e⟩ => ⟨l, e.eq et3.symm⟩⟩) (t2n.eq et3) fun k => h.free j (Nat.le_refl _) hj ((t4 _).mp k)
  rw [p1, out_some]
  have XY : Ext w s w3 s9 := XX.trans p3'
  have tab9 := XY.ty _ _ h.tab rfl
  obtain ⟨l0, c0, d0, f1, f2, f3⟩ := h.go
  have f1' := XY.tab _ _ _ h.tab f1
  have f2' := XY.ty _ _ f2 rfl
  obtain ⟨lo, e1, e2, e3, e4, e5, e6, e7⟩ := rd0 p2 tab9 f1' f2'
  have f3' : HasK s9 d0 "go" := by
    obtain ⟨_, _, _, _, k⟩ := row_at h.ok f2
    exact XY.res _ _ _ k f3
  obtain ⟨m, u1, u2⟩ := res_ix p2 e3 f3'
  have hlo : lo = p3 := by
    have := p2.g.fst
    rw [e1] at this
    exact Option.some.inj this
  subst hlo
  obtain ⟨s10, v1, v2, v3, v4⟩ := nex_put p2 u2 e1 (hN.mem _ sg_lt) (y := R j) ⟨_, by rw [gg]; exact h.lots j hj, a5⟩
  simp only [e4, e6, u1, v1, out_some]
  have et10 : s10[t]? = s9[t]? := v4 t (ne_of_ty tab9 u2 (by simp))
  have hnk : Nk s9 t (2 + j + 1) := by rw [← hzs]; exact p5
  have full9 : Full w3 s9 t := h.full.row h.ok h.tab XX et3 r3' (p3'.res _ _ _ (X3.ty _ _ r2 rfl) go3) p3' p4 p6
  refine ⟨_, _, _, w3, rfl, ⟨v2, tab9, hnk.eq et10, fun i hi => by rw [gg]; exact h.lots i hi, fun z lot e => ?_, fun i hi hi3 ⟨l, e⟩ => ?_, full9.ext p2 tab9 v3 (.of_eq et10), l0, c0, d0, f1'.eq et10, f2', v3.res _ _ _ e3 f3'⟩, X.trans (XY.trans v3)⟩
  · rw [gg] at e
    rcases h.done z lot e with ⟨l, k⟩ | ⟨i, h1, h2, rfl⟩
    · exact .inl ⟨l, (XY.tab _ _ _ h.tab k).eq et10⟩
    · by_cases hij : i = j
      · subst hij
        exact .inl ⟨_, p4.eq et10⟩
      · exact .inr ⟨i, by omega, h2, rfl⟩
  · rcases p6 _ _ (e.eq et10.symm) with k | k
    · have := hR.ne _ _ hi3 hj k
      omega
    · exact h.free i (by omega) hi3 ⟨l, k.eq et3.symm⟩
end
end Ge

/-! Ge13: three in pairs, whole (plain). -/
namespace Ge
open PySem PySem.Spec PyProof.Rows L2 Mi
section
variable {w : Wo} {ps : List Str} {st : Sto} {B : MO} {rest : Sto} {t n : Nat}
theorem add_ne {z y : Str} {lot : List Str} (h : z ≠ y) : (w.add y lot).Γ z = w.Γ z := if_neg h
theorem pairs_begin {N R : Nat → Str} {ns rs : List Str} {s : Sto} (hN : Tri ns p3 N) (hR : Tri rs r3 R) (h : Tb w p3 s t 2) (gam : w.Γ = (w00 p3 rest).Γ) (go : ∃ l c d, EntR s t "first" l ∧ w.Θ[l]? = some (.row "first" c d) ∧ HasK s d "go") :
    ∃ wx, Pr N R t 0 wx s ∧ Ext w s wx s := by
  have hrn : ∀ z ∈ r3, z ≠ "first" ∧ z ≠ "last" ∧ Nmk z := by decide +kernel
  have gn : ∀ z ∈ r3, w.Γ z = none := fun z hz => by
    rw [gam]
    show (if z = "first" ∨ z = "last" then some p3 else none) = none
    rw [if_neg]
    rintro (k | k)
    · exact (hrn z hz).1 k
    · exact (hrn z hz).2.1 k
  have rne : ∀ i j : Nat, i < 3 → j < 3 → i ≠ j → R i ≠ R j := fun i j hi hj hij e => hij (hR.ne i j hi hj e)
  have m0 := hR.mem 0 (by decide)
  have m1 := hR.mem 1 (by decide)
  have m2 := hR.mem 2 (by decide)
  obtain ⟨a1, a2, a3, _⟩ := lot2_ok hN (show 0 < 3 by decide)
  obtain ⟨b1, b2, b3, _⟩ := lot2_ok hN (show 1 < 3 by decide)
  obtain ⟨c1, c2, c3, _⟩ := lot2_ok hN (show 2 < 3 by decide)
  obtain ⟨ok1, X1⟩ := h.ok.add (gn _ m0) (hrn _ m0).2.2 a1 a2 a3
  obtain ⟨ok2, X2⟩ := ok1.add (z := R 1) (lot := lot2 N 1) (by rw [add_ne (rne 1 0 (by decide) (by decide) (by decide))]; exact gn _ m1) (hrn _ m1).2.2 b1 b2 b3
  obtain ⟨ok3, X3⟩ := ok2.add (z := R 2) (lot := lot2 N 2) (by rw [add_ne (rne 2 1 (by decide) (by decide) (by decide)), add_ne (rne 2 0 (by decide) (by decide) (by decide))]; exact gn _ m2) (hrn _ m2).2.2 c1 c2 c3
  refine ⟨((w.add (R 0) (lot2 N 0)).add (R 1) (lot2 N 1)).add (R 2) (lot2 N 2), ⟨ok3, h.tab, h.nk, fun j hj => ?_, fun z lot e => ?_, fun j _ hj ⟨l, e⟩ => ?_, h.full, go⟩, X1.trans (X2.trans X3)⟩
  · match j, hj with
    | 0, _ => rw [add_ne (rne 0 2 (by decide) (by decide) (by decide)), add_ne (rne 0 1 (by decide) (by decide) (by decide))]; exact Wo.add_self
    | 1, _ => rw [add_ne (rne 1 2 (by decide) (by decide) (by decide))]; exact Wo.add_self
    | 2, _ => exact Wo.add_self
  · by_cases h2 : z = R 2
    · exact .inr ⟨2, by omega, by omega, h2⟩
    · rw [add_ne h2] at e
      by_cases h1 : z = R 1
      · exact .inr ⟨1, by omega, by omega, h1⟩
      · rw [add_ne h1] at e
        by_cases h0 : z = R 0
        · exact .inr ⟨0, by omega, by omega, h0⟩
        · rw [add_ne h0] at e
          exact .inl (h.done z lot e)
  · obtain ⟨es, g1, g2, g3, g4, g5⟩ := tab_at h.ok h.tab
    have := (g5 (R j)).mpr ⟨l, e⟩
    obtain ⟨x, hx, k⟩ := List.mem_map.mp this
    obtain ⟨⟨lot, q⟩, _⟩ := g4 x hx
    rw [k, gn _ (hR.mem j hj)] at q
    cases q
/-- the turns behind -/
def IvIn (w0 : Wo) (s0 : Sto) (t : Nat) (env : MEnv) (k : Nat) (e : MEnv) (s : Sto) : Prop :=
  ∃ x8 x9 w n, e = env ++ [x8, x9] ∧ Tb w p3 s t n ∧ n ≤ 5 + k ∧ Ext w0 s0 w s
theorem k_in_pairs (hB : BagO B) : OkF f__law_in_pairs [.ref 0] (B :: rest) fun v s => ∃ w t n, v = .tup [.tup (p3.map .str), .ref t] ∧ Tb w p3 s t n ∧ n ≤ 24 ∧ Ext (w00 p3 rest) (B :: rest) w s := by
  refine of_defN rfl ?_
  simp only [b__law_in_pairs, os_seq, os_skip, os_brk, os_cont, os_retN, os_drop, os_ret, os_retA, os_set, os_setA, os_if, os_asg, os_par, os_aug, os_put, os_augP, os_for, ok_var, ok_c, ok_nil, ok_cons, ok_tup, ok_lst, ok_new, ok_tst, ok_andT, ok_orT, ok_notT, ok_and, ok_or, ok_not, ok_if, ok_op, ok_un, ok_cl, ok_clF, ok_call, ok_mk, ok_noPart, ok_part, ok_cut, ok_mt, ok_chain, ok_it, ok_range1, ok_range2, ok_lc, ok_yes, out_some, out_none, out_add, out_sub, out_neg, out_le, out_gt, out_ge, out_lt, out_eqI, out_neI, out_int, out_abs, out_gcd, List.map_cons, List.map_nil, List.length_cons, List.length_nil, List.replicate, List.cons_append, List.nil_append, List.append_nil, List.getElem?_cons_zero, List.getElem?_cons_succ, List.set_cons_zero, List.set_cons_succ, PV.bl.injEq, PV.int.injEq, PV.str.injEq, exists_eq_left', exists_eq_left, and_true, true_and, if_true, if_false, Bool.false_eq_true, Bool.true_eq_false, decide_eq_true_eq, Nat.sub_self, Nat.reduceAdd, Nat.reduceSub, Nat.reduceLeDiff, List.cons.injEq, sl (show 3 ≤ 1000 by decide)]
  refine (k_mixed (xs := p3.map .str) hB (pure_strs _) (by decide)).imp fun v s q => ?_
  obtain ⟨ys, B1, rfl, hy, rfl, hB1⟩ := q
  obtain ⟨ns, rfl, hns⟩ := perm_strs hy
  obtain ⟨N, hN⟩ := tri_of hns rfl p3_ok.srt.nodup
  refine (k_mixed (xs := r3.map .str) hB1 (pure_strs _) (by decide)).imp fun v s q => ?_
  obtain ⟨ys, B2, rfl, hy, rfl, hB2⟩ := q
  obtain ⟨rs, rfl, hrs⟩ := perm_strs hy
  obtain ⟨R, hR⟩ := tri_of hrs rfl (by decide +kernel)
  refine ⟨_, _, ⟨rfl, rfl⟩, ?_⟩
  refine (k_begun (ps := p3) p3_ok hB2).imp fun v s q => ?_
  obtain ⟨w, t, rfl, h, X, gam, few, go⟩ := q
  obtain ⟨wx, hx, Xx⟩ := pairs_begin hN hR h gam go
  have X0 : Ext (w00 p3 rest) (B :: rest) (w00 p3 rest) (B2 :: rest) := Ext.bg (w00_ok p3_ok hB)
  refine ⟨_, _, ⟨rfl, rfl⟩, ?_⟩
  refine ⟨⟨by decide, by have := small_line (n := 100) (by decide); omega⟩, ?_⟩
  refine for_inv (IvPr N R ns rs t (w00 p3 rest) (B :: rest)) _ _ 0 _ _ ?_ ?_ ⟨none, none, none, wx, rfl, hx, X0.trans (X.trans Xx)⟩
  · rintro j v e s hv ⟨x5, x6, x7, w, rfl, h, X⟩
    obtain ⟨rfl, hj⟩ := ints_get hv
    rw [Nat.zero_add] at *
    exact pair_step hN hR hj h X
  · rintro e s ⟨x5, x6, x7, w, rfl, h, X⟩
    have hT : Tb w p3 s t 5 := ⟨h.ok, h.tab, fun z lot e => by
      rcases h.done z lot e with k | ⟨j, h1, h2, _⟩
      · exact k
      · have h1 : 3 ≤ j := h1
        omega, h.full, h.nk⟩
    obtain ⟨B3, q3, rfl, hB3⟩ := hT.ok.bagAt
    simp only [os_seq, os_skip, os_brk, os_cont, os_retN, os_drop, os_ret, os_retA, os_set, os_setA, os_if, os_asg, os_par, os_aug, os_put, os_augP, os_for, ok_var, ok_c, ok_nil, ok_cons, ok_tup, ok_lst, ok_new, ok_tst, ok_andT, ok_orT, ok_notT, ok_and, ok_or, ok_not, ok_if, ok_op, ok_un, ok_cl, ok_clF, ok_call, ok_mk, ok_noPart, ok_part, ok_cut, ok_mt, ok_chain, ok_it, ok_range1, ok_range2, ok_lc, ok_yes, out_some, out_none, out_add, out_sub, out_neg, out_le, out_gt, out_ge, out_lt, out_eqI, out_neI, out_int, out_abs, out_gcd, List.map_cons, List.map_nil, List.length_cons, List.length_nil, List.replicate, List.cons_append, List.nil_append, List.append_nil, List.getElem?_cons_zero, List.getElem?_cons_succ, List.set_cons_zero, List.set_cons_succ, PV.bl.injEq, PV.int.injEq, PV.str.injEq, exists_eq_left', exists_eq_left, and_true, true_and, if_true, if_false, Bool.false_eq_true, Bool.true_eq_false, decide_eq_true_eq, Nat.sub_self, Nat.reduceAdd, Nat.reduceSub, Nat.reduceLeDiff, List.cons.injEq]
    refine (k_take hB3 (by decide) (logOk_lt (k := 5) (by decide) (by decide))).imp fun v s q => ?_
    obtain ⟨i, B4, rfl, rfl, hB4, g0, g1⟩ := q
    have X4 : Ext w (B3 :: q3) w (B4 :: q3) := Ext.bg hT.ok
    simp only [os_seq, os_skip, os_brk, os_cont, os_retN, os_drop, os_ret, os_retA, os_set, os_setA, os_if, os_asg, os_par, os_aug, os_put, os_augP, os_for, ok_var, ok_c, ok_nil, ok_cons, ok_tup, ok_lst, ok_new, ok_tst, ok_andT, ok_orT, ok_notT, ok_and, ok_or, ok_not, ok_if, ok_op, ok_un, ok_cl, ok_clF, ok_call, ok_mk, ok_noPart, ok_part, ok_cut, ok_mt, ok_chain, ok_it, ok_range1, ok_range2, ok_lc, ok_yes, out_some, out_none, out_add, out_sub, out_neg, out_le, out_gt, out_ge, out_lt, out_eqI, out_neI, out_int, out_abs, out_gcd, List.map_cons, List.map_nil, List.length_cons, List.length_nil, List.replicate, List.cons_append, List.nil_append, List.append_nil, List.getElem?_cons_zero, List.getElem?_cons_succ, List.set_cons_zero, List.set_cons_succ, PV.bl.injEq, PV.int.injEq, PV.str.injEq, exists_eq_left', exists_eq_left, and_true, true_and, if_true, if_false, Bool.false_eq_true, Bool.true_eq_false, decide_eq_true_eq, Nat.sub_self, Nat.reduceAdd, Nat.reduceSub, Nat.reduceLeDiff, List.cons.injEq]
    refine ⟨⟨by omega, by have := small_line (n := 100) (by decide); omega⟩, ?_⟩
    refine for_inv (IvIn (w00 p3 rest) (B :: rest) t [some (.ref 0), some (.lst (ns.map .str)), some (.lst (rs.map .str)), some (.tup (p3.map .str)), some (.ref t), x5, x6, x7]) _ _ 0 _ _ ?_ ?_ ⟨none, none, w, 5, rfl, hT.bg hB4, Nat.le_refl _, X.trans X4⟩
    · rintro j v e s hv ⟨x8, x9, w, n, rfl, h, hn, X⟩
      obtain ⟨rfl, hj⟩ := ints_get hv
      have hj3 : j < 4 := by omega
      obtain ⟨B1, r1, rfl, hB1⟩ := h.ok.bagAt
      simp only [os_seq, os_skip, os_brk, os_cont, os_retN, os_drop, os_ret, os_retA, os_set, os_setA, os_if, os_asg, os_par, os_aug, os_put, os_augP, os_for, ok_var, ok_c, ok_nil, ok_cons, ok_tup, ok_lst, ok_new, ok_tst, ok_andT, ok_orT, ok_notT, ok_and, ok_or, ok_not, ok_if, ok_op, ok_un, ok_cl, ok_clF, ok_call, ok_mk, ok_noPart, ok_part, ok_cut, ok_mt, ok_chain, ok_it, ok_range1, ok_range2, ok_lc, ok_yes, out_some, out_none, out_add, out_sub, out_neg, out_le, out_gt, out_ge, out_lt, out_eqI, out_neI, out_int, out_abs, out_gcd, List.map_cons, List.map_nil, List.length_cons, List.length_nil, List.replicate, List.cons_append, List.nil_append, List.append_nil, List.getElem?_cons_zero, List.getElem?_cons_succ, List.set_cons_zero, List.set_cons_succ, PV.bl.injEq, PV.int.injEq, PV.str.injEq, exists_eq_left', exists_eq_left, and_true, true_and, if_true, if_false, Bool.false_eq_true, Bool.true_eq_false, decide_eq_true_eq, Nat.sub_self, Nat.reduceAdd, Nat.reduceSub, Nat.reduceLeDiff, List.cons.injEq]
      refine (k_take hB1 (by decide) (logOk_lt (k := 5) (by decide) (by decide))).imp fun v2 s q => ?_
      obtain ⟨i, B2, rfl, rfl, hB2, g0, g1⟩ := q
      have X2 : Ext w (B1 :: r1) w (B2 :: r1) := Ext.bg h.ok
      have h2 := h.bg hB2
      simp only [os_seq, os_skip, os_brk, os_cont, os_retN, os_drop, os_ret, os_retA, os_set, os_setA, os_if, os_asg, os_par, os_aug, os_put, os_augP, os_for, ok_var, ok_c, ok_nil, ok_cons, ok_tup, ok_lst, ok_new, ok_tst, ok_andT, ok_orT, ok_notT, ok_and, ok_or, ok_not, ok_if, ok_op, ok_un, ok_cl, ok_clF, ok_call, ok_mk, ok_noPart, ok_part, ok_cut, ok_mt, ok_chain, ok_it, ok_range1, ok_range2, ok_lc, ok_yes, out_some, out_none, out_add, out_sub, out_neg, out_le, out_gt, out_ge, out_lt, out_eqI, out_neI, out_int, out_abs, out_gcd, List.map_cons, List.map_nil, List.length_cons, List.length_nil, List.replicate, List.cons_append, List.nil_append, List.append_nil, List.getElem?_cons_zero, List.getElem?_cons_succ, List.set_cons_zero, List.set_cons_succ, PV.bl.injEq, PV.int.injEq, PV.str.injEq, exists_eq_left', exists_eq_left, and_true, true_and, if_true, if_false, Bool.false_eq_true, Bool.true_eq_false, decide_eq_true_eq, Nat.sub_self, Nat.reduceAdd, Nat.reduceSub, Nat.reduceLeDiff, List.cons.injEq]
      split
      · exact (k_copy h2).imp fun _ s ⟨w', h', X'⟩ => ⟨_, _, w', n, rfl, h', by omega, X.trans (X2.trans X')⟩
      · split
        · exact (k_loop h2).imp fun _ s ⟨w', h', X'⟩ => ⟨_, _, w', n, rfl, h', by omega, X.trans (X2.trans X')⟩
        · exact (k_round h2 (by omega)).imp fun _ s ⟨w', h', X'⟩ => ⟨_, _, w', n + 1, rfl, h', by omega, X.trans (X2.trans X')⟩
    · rintro e s ⟨x8, x9, w, n, rfl, h, hn, X⟩
      rw [Nat.zero_add, intsF_len] at hn
      simp only [os_seq, os_skip, os_brk, os_cont, os_retN, os_drop, os_ret, os_retA, os_set, os_setA, os_if, os_asg, os_par, os_aug, os_put, os_augP, os_for, ok_var, ok_c, ok_nil, ok_cons, ok_tup, ok_lst, ok_new, ok_tst, ok_andT, ok_orT, ok_notT, ok_and, ok_or, ok_not, ok_if, ok_op, ok_un, ok_cl, ok_clF, ok_call, ok_mk, ok_noPart, ok_part, ok_cut, ok_mt, ok_chain, ok_it, ok_range1, ok_range2, ok_lc, ok_yes, out_some, out_none, out_add, out_sub, out_neg, out_le, out_gt, out_ge, out_lt, out_eqI, out_neI, out_int, out_abs, out_gcd, List.map_cons, List.map_nil, List.length_cons, List.length_nil, List.replicate, List.cons_append, List.nil_append, List.append_nil, List.getElem?_cons_zero, List.getElem?_cons_succ, List.set_cons_zero, List.set_cons_succ, PV.bl.injEq, PV.int.injEq, PV.str.injEq, exists_eq_left', exists_eq_left, and_true, true_and, if_true, if_false, Bool.false_eq_true, Bool.true_eq_false, decide_eq_true_eq, Nat.sub_self, Nat.reduceAdd, Nat.reduceSub, Nat.reduceLeDiff, List.cons.injEq, sl (show 2 ≤ 1000 by decide)]
      exact ⟨w, t, n, rfl, h, by omega, X⟩
end
end Ge

/-! Ge14: a dealing of a table (plain). -/
namespace Ge
open PySem PySem.Spec PyProof.Rows L2 Mi
structure Rnd where
  name : Str
  lot : List Str
  ch : Str
  res : List (Str × List (Str × Str))
structure Dl where
  ps : List Str
  rs : List Rnd
def pvN (e : Str × Str) : PV := .tup [.str e.1, .str e.2]
def pvR (e : Str × List (Str × Str)) : PV := .tup [.str e.1, .tup (e.2.map pvN)]
def pvRnd (r : Rnd) : PV := .tup [.str r.name, .tup (r.lot.map .str), .str r.ch, .tup (r.res.map pvR)]
def pvD (D : Dl) : PV := .tup [.tup (D.ps.map .str), .tup (D.rs.map pvRnd)]
/-- a round as it should be, its nexts by G -/
structure RndOk (ps : List Str) (G : Str → Str → Prop) (r : Rnd) : Prop where
  nm : Nmk r.name
  srt : Srt r.lot
  ne : r.lot ≠ []
  sub : ∀ p ∈ r.lot, p ∈ ps
  ch : r.ch ∈ r.lot
  rsrt : Srt (r.res.map (·.1))
  rlen : r.res.length ≤ 4
  rnm : ∀ e ∈ r.res, Nmk e.1
  keys : ∀ e ∈ r.res, e.2.map (·.1) = r.lot
  tgt : ∀ e ∈ r.res, ∀ x ∈ e.2, G x.2 x.1
  lst : r.name = "last" → r.res = []
  some : r.name ≠ "last" → r.res ≠ []
/-- a dealing as it should be -/
structure DlOk (D : Dl) : Prop where
  pts : Pts D.ps
  srt : Srt (D.rs.map (·.name))
  len : D.rs.length ≤ 24
  rnd : ∀ r ∈ D.rs, RndOk D.ps (fun n p => ∃ r' ∈ D.rs, r'.name = n ∧ p ∈ r'.lot) r
  fst : ∃ r ∈ D.rs, r.name = "first" ∧ r.lot = D.ps
  lst : ∃ r ∈ D.rs, r.name = "last" ∧ r.lot = D.ps
section
variable {w : Wo} {ps : List Str} {st : Sto} {B : MO} {rest : Sto} {t n : Nat}
theorem pick {α β : Type} [Inhabited β] {P : α → β → Prop} {xs : List α} (h : ∀ x ∈ xs, ∃ y, P x y) : ∃ f : α → β, ∀ x ∈ xs, P x (f x) := by
  classical
  refine ⟨fun x => if hx : ∃ y, P x y then hx.choose else default, fun x hx => ?_⟩
  have := h x hx
  simp only [dif_pos this]
  exact this.choose_spec
theorem sortI_perm (ks : List (Str × Str)) : (sortI ks).Perm ks := List.mergeSort_perm _ _
theorem sortI_pw (ks : List (Str × Str)) : (sortI ks).Pairwise fun a b => leS a.1 b.1 = true :=
  List.pairwise_mergeSort (le := leI) (fun a b c => leS_trans a.1 b.1 c.1) (fun a b => leS_total a.1 b.1) ks
theorem sortI_keys {ks : List (Str × Str)} {lot : List Str} (h : (ks.map (·.1)).Perm lot) (hs : Srt lot) : (sortI ks).map (·.1) = lot := by
  refine List.Perm.eq_of_pairwise (le := fun a b => leS a b = true) (fun a b _ _ h1 h2 => leS_anti h1 h2) ?_ (List.Pairwise.imp (fun h => h.1) hs) (((sortI_perm ks).map _).trans h)
  rw [List.pairwise_map]
  exact sortI_pw ks
theorem sortI_ref {m : Nat} {qs : List (Str × Str)} (e : st[m]? = some (.dic (mapD .str qs))) (h : qs.length < 64) (hz : ∀ e ∈ qs, e.1.length ≤ sizeLine) : oSortI (.ref m) st = some ((sortI qs).map pvN) := by
  have : okI qs = true := by
    simp only [okI, Bool.and_eq_true, decide_eq_true_eq, List.all_eq_true]
    exact ⟨h, hz⟩
  simp only [oSortI, e, prsOf_mapD, this, if_true]
  rfl
theorem tuple_end {xs : List PV} : oTuple [.ref (rest.length + 1)] (B :: (rest ++ [.lst xs])) = some (.tup xs) := by
  simp only [oTuple, asS, asL, get_end]
theorem pvN_pure (e : Str × Str) : (pvN e).pure = true := rfl
theorem pvR_pure (e : Str × List (Str × Str)) : (pvR e).pure = true := by
  have : PV.pureL (e.2.map pvN) = true := pureL_mem.mpr fun x hx => by
    obtain ⟨y, _, rfl⟩ := List.mem_map.mp hx
    exact pvN_pure y
  simp only [pvR, PV.pure, PV.pureL, this, Bool.and_self]
theorem pvRnd_pure (r : Rnd) : (pvRnd r).pure = true := by
  have h1 : PV.pureL (r.res.map pvR) = true := pureL_mem.mpr fun x hx => by
    obtain ⟨y, _, rfl⟩ := List.mem_map.mp hx
    exact pvR_pure y
  simp only [pvRnd, PV.pure, PV.pureL, h1, pure_strs, Bool.and_self]
theorem pvD_pure (D : Dl) : (pvD D).pure = true := by
  have h1 : PV.pureL (D.rs.map pvRnd) = true := pureL_mem.mpr fun x hx => by
    obtain ⟨y, _, rfl⟩ := List.mem_map.mp hx
    exact pvRnd_pure y
  simp only [pvD, PV.pure, PV.pureL, h1, pure_strs, Bool.and_self]
/-- the loop of dealing -/
def IvDe (ps : List Str) (w : Wo) (B : MO) (rest : Sto) (t : Nat) (zs : List Str) (k : Nat) (e : MEnv) (s : Sto) : Prop :=
  ∃ (rs : List Rnd) (x3 x4 x5 x6 x7 : Option PV), e = [some (.tup (ps.map .str)), some (.ref t), some (.ref (rest.length + 1)), x3, x4, x5, x6, x7, none] ∧ s = B :: (rest ++ [.lst (rs.map pvRnd)]) ∧
    rs.map (·.name) = zs.take k ∧ ∀ r ∈ rs, RndOk ps (Tgt w) r ∧ w.Γ r.name = some r.lot
theorem k_dealing (h : Tb w ps (B :: rest) t n) (hn : n ≤ 24) : OkF f__law_dealing [.tup (ps.map .str), .ref t] (B :: rest) fun v s => ∃ D, v = pvD D ∧ DlOk D ∧ D.ps = ps ∧ s = B :: rest := by
  have hB : BagO B := by
    obtain ⟨_, _, e, hB⟩ := h.ok.bagAt
    cases e; exact hB
  refine of_defT (of_defN rfl ?_)
  simp only [b__law_dealing, os_seq, os_skip, os_brk, os_cont, os_retN, os_drop, os_ret, os_retA, os_set, os_setA, os_if, os_asg, os_par, os_aug, os_put, os_augP, os_for, ok_var, ok_c, ok_nil, ok_cons, ok_tup, ok_lst, ok_new, ok_tst, ok_andT, ok_orT, ok_notT, ok_and, ok_or, ok_not, ok_if, ok_op, ok_un, ok_cl, ok_clF, ok_call, ok_mk, ok_noPart, ok_part, ok_cut, ok_mt, ok_chain, ok_it, ok_range1, ok_range2, ok_lc, ok_yes, out_some, out_none, out_add, out_sub, out_neg, out_le, out_gt, out_ge, out_lt, out_eqI, out_neI, out_int, out_abs, out_gcd, List.map_cons, List.map_nil, List.length_cons, List.length_nil, List.replicate, List.cons_append, List.nil_append, List.append_nil, List.getElem?_cons_zero, List.getElem?_cons_succ, List.set_cons_zero, List.set_cons_succ, PV.bl.injEq, PV.int.injEq, PV.str.injEq, exists_eq_left', exists_eq_left, and_true, true_and, if_true, if_false, Bool.false_eq_true, Bool.true_eq_false, decide_eq_true_eq, Nat.sub_self, Nat.reduceAdd, Nat.reduceSub, Nat.reduceLeDiff, List.cons.injEq, List.cons_append, ok_sortItems]
  refine ⟨Nat.zero_le _, ?_⟩
  have hp : ∀ xs, Tb (w.push .oth) ps (B :: (rest ++ [.lst xs])) t n := fun xs => h.push (o := .lst xs) trivial
  obtain ⟨zs, e1, e2, e3, e4⟩ := tab_sorted (hp []).ok (hp []).tab
  have hzn : zs.length ≤ 24 := by
    obtain ⟨zs2, u1, u2, u3, u4⟩ := tab_list (hp []).ok (hp []).tab
    have h1 : zs2.length = n := Nk.unique u2 (hp []).nk
    have h2 := nodup_len (xs := zs) (ys := zs2) e2.nodup fun z hz => (u4 z).mpr ((e4 z).mp hz)
    omega
  rw [e1, out_some]
  simp only [it_l, out_some]
  have e5 : ∀ z, z ∈ zs ↔ ∃ l, EntR (B :: rest) t z l := fun z => by
    have g : (B :: (rest ++ [.lst []]))[t]? = (B :: rest)[t]? := get_old h.ok h.tab
    exact (e4 z).trans ⟨fun ⟨l, e⟩ => ⟨l, e.eq g.symm⟩, fun ⟨l, e⟩ => ⟨l, e.eq g⟩⟩
  refine for_inv (IvDe ps w B rest t zs) (zs.map .str) (zs.map .str) 0 _ _ ?_ ?_ ⟨[], none, none, none, none, none, rfl, rfl, rfl, fun r hr => (by cases hr)⟩
  · rintro j x e s hx ⟨rs, x3, x4, x5, x6, x7, rfl, rfl, i1, i2⟩
    rw [List.getElem?_map, Option.map_eq_some_iff] at hx
    obtain ⟨z, hz, rfl⟩ := hx
    rw [Nat.zero_add] at *
    have hj : j < zs.length := (List.getElem?_eq_some_iff.mp hz).1
    obtain ⟨l, hl⟩ := (e5 z).mp (List.mem_of_getElem? hz)
    obtain ⟨_, c, d, hr⟩ := tab_ix h.ok h.tab hl
    have hP := hp (rs.map pvRnd)
    have X : Ext w (B :: rest) (w.push .oth) (B :: (rest ++ [.lst (rs.map pvRnd)])) := Ext.push h.ok
    obtain ⟨lot, a1, a2, a3, a4, a5, a6, a7⟩ := rd hP (X.tab _ _ _ h.tab hl) (X.ty _ _ hr rfl)
    have hlot := hP.ok.g.lot z lot a1
    have hl6 := lot_len hP.ok a1
    obtain ⟨xs, c1, c2, c3, c4, c5, c6⟩ := res_sorted hP.ok a3
    obtain ⟨f, hf⟩ : ∃ f : Str → List (Str × Str), ∀ x ∈ xs, (∃ m, oIxD (.ref d) (.str x) (B :: (rest ++ [.lst (rs.map pvRnd)])) = some (.ref m) ∧ oSortI (.ref m) (B :: (rest ++ [.lst (rs.map pvRnd)])) = some ((f x).map pvN)) ∧ (f x).map (·.1) = lot ∧ ∀ e ∈ f x, Tgt w e.2 e.1 := by
      refine pick (xs := xs) (P := fun x (y : List (Str × Str)) => (∃ m, oIxD (.ref d) (.str x) (B :: (rest ++ [.lst (rs.map pvRnd)])) = some (.ref m) ∧ oSortI (.ref m) (B :: (rest ++ [.lst (rs.map pvRnd)])) = some (y.map pvN)) ∧ y.map (·.1) = lot ∧ ∀ e ∈ y, Tgt w e.2 e.1) fun x hx => ?_
      obtain ⟨m, q1, q2⟩ := res_ix hP.ok a3 ((c6 x).mp hx)
      obtain ⟨lot', qs, d1, d2, d3, d4⟩ := nex_at hP.ok q2
      rw [a1] at d1; cases d1
      have hql : qs.length = lot.length := by
        have := d3.length_eq
        rwa [List.length_map] at this
      refine ⟨sortI qs, ⟨m, q1, sortI_ref d2 (by omega) fun e he => ?_⟩, sortI_keys d3 hlot.2.1, fun e he => d4 e ((sortI_perm qs).mem_iff.mp he)⟩
      have : e.1 ∈ lot := d3.mem_iff.mp (List.mem_map.mpr ⟨e, he, rfl⟩)
      exact (h.ok.g.pts.nm _ (hlot.2.2.2 _ this)).line
    simp only [os_seq, os_skip, os_brk, os_cont, os_retN, os_drop, os_ret, os_retA, os_set, os_setA, os_if, os_asg, os_par, os_aug, os_put, os_augP, os_for, ok_var, ok_c, ok_nil, ok_cons, ok_tup, ok_lst, ok_new, ok_tst, ok_andT, ok_orT, ok_notT, ok_and, ok_or, ok_not, ok_if, ok_op, ok_un, ok_cl, ok_clF, ok_call, ok_mk, ok_noPart, ok_part, ok_cut, ok_mt, ok_chain, ok_it, ok_range1, ok_range2, ok_lc, ok_yes, out_some, out_none, out_add, out_sub, out_neg, out_le, out_gt, out_ge, out_lt, out_eqI, out_neI, out_int, out_abs, out_gcd, List.map_cons, List.map_nil, List.length_cons, List.length_nil, List.replicate, List.cons_append, List.nil_append, List.append_nil, List.getElem?_cons_zero, List.getElem?_cons_succ, List.set_cons_zero, List.set_cons_succ, PV.bl.injEq, PV.int.injEq, PV.str.injEq, exists_eq_left', exists_eq_left, and_true, true_and, if_true, if_false, Bool.false_eq_true, Bool.true_eq_false, decide_eq_true_eq, Nat.sub_self, Nat.reduceAdd, Nat.reduceSub, Nat.reduceLeDiff, List.cons.injEq, a4, tg3 a7, c1, it_l, wipeM, ok_sortItems]
    rw [comp_strs (p := fun _ => true) (g := fun x => .tup [.str x, .tup ((f x).map pvN)]) chk_none xs fun x hx => ⟨rfl, fun _ => ok_eq (by
      obtain ⟨⟨m, q1, q2⟩, _⟩ := hf x hx
      simp only [os_seq, os_skip, os_brk, os_cont, os_retN, os_drop, os_ret, os_retA, os_set, os_setA, os_if, os_asg, os_par, os_aug, os_put, os_augP, os_for, ok_var, ok_c, ok_nil, ok_cons, ok_tup, ok_lst, ok_new, ok_tst, ok_andT, ok_orT, ok_notT, ok_and, ok_or, ok_not, ok_if, ok_op, ok_un, ok_cl, ok_clF, ok_call, ok_mk, ok_noPart, ok_part, ok_cut, ok_mt, ok_chain, ok_it, ok_range1, ok_range2, ok_lc, ok_yes, out_some, out_none, out_add, out_sub, out_neg, out_le, out_gt, out_ge, out_lt, out_eqI, out_neI, out_int, out_abs, out_gcd, List.map_cons, List.map_nil, List.length_cons, List.length_nil, List.replicate, List.cons_append, List.nil_append, List.append_nil, List.getElem?_cons_zero, List.getElem?_cons_succ, List.set_cons_zero, List.set_cons_succ, PV.bl.injEq, PV.int.injEq, PV.str.injEq, exists_eq_left', exists_eq_left, and_true, true_and, if_true, if_false, Bool.false_eq_true, Bool.true_eq_false, decide_eq_true_eq, Nat.sub_self, Nat.reduceAdd, Nat.reduceSub, Nat.reduceLeDiff, List.cons.injEq, q1, q2, ok_sortItems, tuple_l, sl (show 2 ≤ 1000 by decide)])⟩, out_some]
    have hrl : rs.length ≤ 40 := by
      have := congrArg List.length i1
      rw [List.length_map, List.length_take] at this
      omega
    simp only [filt, rcv_end, tuple_l, app_end, out_iff1, out_some, List.map_cons, List.map_nil, List.length_cons, List.length_nil, List.replicate, List.cons_append, List.nil_append, List.append_nil, List.getElem?_cons_zero, List.getElem?_cons_succ, List.set_cons_zero, List.set_cons_succ, PV.bl.injEq, PV.int.injEq, PV.str.injEq, exists_eq_left', exists_eq_left, and_true, true_and, if_true, if_false, Bool.false_eq_true, Bool.true_eq_false, decide_eq_true_eq, Nat.sub_self, Nat.reduceAdd, Nat.reduceSub, Nat.reduceLeDiff, List.cons.injEq, sl (show 4 ≤ 1000 by decide)]
    have hnew : RndOk ps (Tgt w) ⟨z, lot, c, xs.map fun x => (x, f x)⟩ := by
      refine ⟨hlot.1, hlot.2.1, hlot.2.2.1, hlot.2.2.2, a2, ?_, by rw [List.length_map]; exact c3, fun e he => ?_, fun e he => ?_, fun e he => ?_, fun k => ?_, fun k => ?_⟩
      · show Srt ((xs.map fun x => (x, f x)).map (·.1))
        rw [keys_fun]; exact c2
      · obtain ⟨x, hx, rfl⟩ := List.mem_map.mp he
        exact c5 x hx
      · obtain ⟨x, hx, rfl⟩ := List.mem_map.mp he
        exact (hf x hx).2.1
      · obtain ⟨x, hx, rfl⟩ := List.mem_map.mp he
        exact (hf x hx).2.2
      · show (xs.map fun x => (x, f x)) = []
        rw [c4 k]; rfl
      · obtain ⟨x, hx⟩ := hP.full z l c d (X.tab _ _ _ h.tab hl) (X.ty _ _ hr rfl) k
        intro e
        have e : (xs.map fun x => (x, f x)) = [] := e
        rw [List.map_eq_nil_iff] at e
        have := (c6 x).mpr hx
        rw [e] at this
        cases this
    refine ⟨(sl' (by rw [List.length_map]; omega)).mpr trivial, rs ++ [⟨z, lot, c, xs.map fun x => (x, f x)⟩], _, _, _, _, _, rfl, ?_, ?_, fun r hr => ?_⟩
    · rw [List.map_append]
      simp only [List.map_cons, List.map_nil, pvRnd, List.map_map]
      rfl
    · rw [List.map_append, i1, List.take_succ, hz]; rfl
    · rcases List.mem_append.mp hr with hr | hr
      · exact i2 r hr
      · rw [List.mem_singleton] at hr
        subst hr
        exact ⟨hnew, a1⟩
  · rintro e s ⟨rs, x3, x4, x5, x6, x7, rfl, rfl, i1, i2⟩
    rw [Nat.zero_add, List.length_map, List.take_length] at i1
    simp only [os_seq, os_skip, os_brk, os_cont, os_retN, os_drop, os_ret, os_retA, os_set, os_setA, os_if, os_asg, os_par, os_aug, os_put, os_augP, os_for, ok_var, ok_c, ok_nil, ok_cons, ok_tup, ok_lst, ok_new, ok_tst, ok_andT, ok_orT, ok_notT, ok_and, ok_or, ok_not, ok_if, ok_op, ok_un, ok_cl, ok_clF, ok_call, ok_mk, ok_noPart, ok_part, ok_cut, ok_mt, ok_chain, ok_it, ok_range1, ok_range2, ok_lc, ok_yes, out_some, out_none, out_add, out_sub, out_neg, out_le, out_gt, out_ge, out_lt, out_eqI, out_neI, out_int, out_abs, out_gcd, List.map_cons, List.map_nil, List.length_cons, List.length_nil, List.replicate, List.cons_append, List.nil_append, List.append_nil, List.getElem?_cons_zero, List.getElem?_cons_succ, List.set_cons_zero, List.set_cons_succ, PV.bl.injEq, PV.int.injEq, PV.str.injEq, exists_eq_left', exists_eq_left, and_true, true_and, if_true, if_false, Bool.false_eq_true, Bool.true_eq_false, decide_eq_true_eq, Nat.sub_self, Nat.reduceAdd, Nat.reduceSub, Nat.reduceLeDiff, List.cons.injEq, tuple_end, sl (show 2 ≤ 1000 by decide)]
    refine ⟨closed_end hB, ?_⟩
    have hv : PV.tup [.tup (ps.map .str), .tup (rs.map pvRnd)] = pvD ⟨ps, rs⟩ := rfl
    rw [hv, frz_pure (pvD_pure _), out_some]
    have hin : ∀ z lot, w.Γ z = some lot → ∃ r ∈ rs, r.name = z ∧ r.lot = lot := fun z lot e => by
      have : z ∈ zs := (e5 z).mpr (h.done z lot e)
      rw [← i1] at this
      obtain ⟨r, hr, rfl⟩ := List.mem_map.mp this
      refine ⟨r, hr, rfl, ?_⟩
      have := (i2 r hr).2
      rw [e] at this
      exact (Option.some.inj this).symm
    refine ⟨⟨ps, rs⟩, rfl, ⟨h.ok.g.pts, by show Srt (rs.map _); rw [i1]; exact e2, ?_, fun r hr => ?_, hin _ _ h.ok.g.fst, hin _ _ h.ok.g.lst⟩, rfl, take_end⟩
    · have := congrArg List.length i1
      rw [List.length_map] at this
      show rs.length ≤ 24
      omega
    · obtain ⟨q, _⟩ := i2 r hr
      refine ⟨q.nm, q.srt, q.ne, q.sub, q.ch, q.rsrt, q.rlen, q.rnm, q.keys, fun e he x hx => ?_, q.lst, q.some⟩
      obtain ⟨lot, k1, k2⟩ := q.tgt e he x hx
      obtain ⟨r', hr', e1, e2⟩ := hin _ _ k1
      exact ⟨r', hr', e1, by rw [e2]; exact k2⟩
end
end Ge

/-! Ge15: a drawn dealing (plain). -/
namespace Ge
open PySem PySem.Spec PyProof.Rows L2 Mi
section
variable {w : Wo} {ps : List Str} {st : Sto} {B : MO} {rest : Sto} {t n : Nat}
theorem OkS.impR {m : MS} {env : MEnv} {st : Sto} {N B C : QN} {R R' : QV} (h : OkS m env st N R B C) (k : ∀ v s, R v s → R' v s) : OkS m env st N R' B C := by
  obtain ⟨r, e, q⟩ := h
  refine ⟨r, e, ?_⟩
  cases r with
  | ret v s => exact k v s q
  | next e s => exact q
  | brk e s => exact q
  | cont e s => exact q
  | exc x e s => exact q
/-- what lay behind the bag lies there still -/
def Fr (rest : Sto) (s : Sto) : Prop := ∀ i : Nat, i < rest.length → s[i + 1]? = rest[i]?
theorem Fr.ext {w : Wo} {s : Sto} (X : Ext (w00 ps rest) (B :: rest) w s) : Fr rest s := fun i hi => by
  have := X.oth (i + 1) (by
    show (rest.map fun _ => Ty.oth)[i]? = _
    rw [List.getElem?_map, List.getElem?_eq_getElem hi]
    rfl)
  rw [this]
  rfl
theorem Fr.trans {s : Sto} {B1 : MO} {r1 : Sto} (h : Fr rest (B1 :: r1)) (k : Fr r1 s) : Fr rest s := fun i hi => by
  have e1 := h i hi
  have e1 : r1[i]? = rest[i]? := e1
  have hlt : i < r1.length := by
    have : r1[i]? = some rest[i] := by rw [e1]; exact List.getElem?_eq_getElem hi
    exact (List.getElem?_eq_some_iff.mp this).1
  exact (k i hlt).trans e1
theorem Fr.ext2 {w w' : Wo} {s s' : Sto} (h : Fr rest s) (X : Ext w s w' s') (hw : ∀ i : Nat, i < rest.length → w.Θ[i + 1]? = some .oth) : Fr rest s' := fun i hi => (X.oth _ (hw i hi)).trans (h i hi)
theorem Fr.take {B' : MO} {r : Sto} (h : Fr rest (B' :: r)) : (B' :: r).take (rest.length + 1) = B' :: rest := by
  rw [List.take_succ_cons]
  congr 1
  apply List.ext_getElem?
  intro i
  rw [List.getElem?_take]
  split
  · exact h i (by assumption)
  · rw [List.getElem?_eq_none (by omega)]
theorem Fr.closed {B' : MO} {r : Sto} (h : Fr rest (B' :: r)) (hB : BagO B') : Closed (B :: rest) (B' :: r) := by
  intro i hi
  cases i with
  | zero => exact .inr ⟨B', rfl, bag_pure hB⟩
  | succ i => exact .inl (h i (by simpa using hi))
noncomputable def bTail : MS := (mSeq (mFor (.nm 7) (mRange1 (mCons (mOp oIxD (mNew (mLst (mCons (mC (.int 0)) (mCons (mC (.int 0)) (mCons (mC (.int 0)) (mCons (mC (.int 1)) (mCons (mC (.int 1)) (mCons (mC (.int 2)) (mCons (mC (.int 0)) (mCons (mCall0 f__law_take (mCons (mVar 0) (mCons (mC (.int 2)) mNil))) mNil)))))))))) (mVar 3)) mNil)) (mSet 6 (mCall0 f__law_turned (mCons (mVar 0) (mCons (mVar 6) mNil)))))
    (mRet (mCall0 f__law_dealing (mCons (mVar 4) (mCons (mVar 6) mNil)))))
def IvDr (mp mr way : Int) (ps : List Str) (x5 : Option PV) (t n : Nat) (w1 : Wo) (s1 : Sto) (_ : Nat) (e : MEnv) (s : Sto) : Prop :=
  ∃ x7 w, e = [some (.ref 0), some (.int mp), some (.int mr), some (.int way), some (.tup (ps.map .str)), x5, some (.ref t), x7] ∧ Tb w ps s t n ∧ Ext w1 s1 w s
theorem drawn_tail {mp mr way : Int} {x5 : Option PV} {s : Sto} (h : Tb w ps s t n) (hn : n ≤ 24) (hf : Fr rest s) (hw : ∀ i : Nat, i < rest.length → w.Θ[i + 1]? = some .oth) (hy : 0 ≤ way ∧ way < 8) {N B' C : QN} :
    OkS bTail [some (.ref 0), some (.int mp), some (.int mr), some (.int way), some (.tup (ps.map .str)), x5, some (.ref t), none] s N
      (fun v s => Closed (B :: rest) s ∧ Out (frz (rest.length + 1) s v) fun v' => ∃ D B', v' = pvD D ∧ DlOk D ∧ D.ps = ps ∧ s.take (rest.length + 1) = B' :: rest ∧ BagO B') B' C := by
  obtain ⟨B1, r1, rfl, hB1⟩ := h.ok.bagAt
  simp only [bTail, os_seq, os_skip, os_brk, os_cont, os_retN, os_drop, os_ret, os_retA, os_set, os_setA, os_if, os_asg, os_par, os_aug, os_put, os_augP, os_for, ok_var, ok_c, ok_nil, ok_cons, ok_tup, ok_lst, ok_new, ok_tst, ok_andT, ok_orT, ok_notT, ok_and, ok_or, ok_not, ok_if, ok_op, ok_un, ok_cl, ok_clF, ok_call, ok_mk, ok_noPart, ok_part, ok_cut, ok_mt, ok_chain, ok_it, ok_range1, ok_range2, ok_lc, ok_yes, out_some, out_none, out_add, out_sub, out_neg, out_le, out_gt, out_ge, out_lt, out_eqI, out_neI, out_int, out_abs, out_gcd, List.map_cons, List.map_nil, List.length_cons, List.length_nil, List.replicate, List.cons_append, List.nil_append, List.append_nil, List.getElem?_cons_zero, List.getElem?_cons_succ, List.set_cons_zero, List.set_cons_succ, PV.bl.injEq, PV.int.injEq, PV.str.injEq, exists_eq_left', exists_eq_left, and_true, true_and, if_true, if_false, Bool.false_eq_true, Bool.true_eq_false, decide_eq_true_eq, Nat.sub_self, Nat.reduceAdd, Nat.reduceSub, Nat.reduceLeDiff, List.cons.injEq]
  refine (k_take hB1 (by decide) (logOk_lt (k := 5) (by decide) (by decide))).imp fun v s q => ?_
  obtain ⟨i, B2, rfl, rfl, hB2, g0, g1⟩ := q
  have X2 : Ext w (B1 :: r1) w (B2 :: r1) := Ext.bg h.ok
  have h2 := h.bg hB2
  obtain ⟨x, hx, ex⟩ := atI_mem (xs := [PV.int 0, .int 0, .int 0, .int 1, .int 1, .int 2, .int 0, .int i]) (i := way) hy.1 (by simpa using hy.2)
  obtain ⟨k, rfl, k0, k1⟩ : ∃ k, x = .int k ∧ 0 ≤ k ∧ k ≤ 2 := by
    simp only [List.mem_cons, List.not_mem_nil, or_false] at hx
    rcases hx with rfl | rfl | rfl | rfl | rfl | rfl | rfl | rfl <;> exact ⟨_, rfl, by omega, by omega⟩
  simp only [os_seq, os_skip, os_brk, os_cont, os_retN, os_drop, os_ret, os_retA, os_set, os_setA, os_if, os_asg, os_par, os_aug, os_put, os_augP, os_for, ok_var, ok_c, ok_nil, ok_cons, ok_tup, ok_lst, ok_new, ok_tst, ok_andT, ok_orT, ok_notT, ok_and, ok_or, ok_not, ok_if, ok_op, ok_un, ok_cl, ok_clF, ok_call, ok_mk, ok_noPart, ok_part, ok_cut, ok_mt, ok_chain, ok_it, ok_range1, ok_range2, ok_lc, ok_yes, out_some, out_none, out_add, out_sub, out_neg, out_le, out_gt, out_ge, out_lt, out_eqI, out_neI, out_int, out_abs, out_gcd, List.map_cons, List.map_nil, List.length_cons, List.length_nil, List.replicate, List.cons_append, List.nil_append, List.append_nil, List.getElem?_cons_zero, List.getElem?_cons_succ, List.set_cons_zero, List.set_cons_succ, PV.bl.injEq, PV.int.injEq, PV.str.injEq, exists_eq_left', exists_eq_left, and_true, true_and, if_true, if_false, Bool.false_eq_true, Bool.true_eq_false, decide_eq_true_eq, Nat.sub_self, Nat.reduceAdd, Nat.reduceSub, Nat.reduceLeDiff, List.cons.injEq, ixD_l, ex, sl (show 8 ≤ 1000 by decide)]
  refine ⟨⟨by omega, by have := small_line (n := 100) (by decide); omega⟩, ?_⟩
  refine for_inv (IvDr mp mr way ps x5 t n w (B2 :: r1)) _ _ 0 _ _ ?_ ?_ ⟨none, w, rfl, h2, Ext.rfl'⟩
  · rintro j v e s hv ⟨x7, w3, rfl, h3, X3⟩
    obtain ⟨B3, r3, rfl, hB3⟩ := h3.ok.bagAt
    simp only [os_seq, os_skip, os_brk, os_cont, os_retN, os_drop, os_ret, os_retA, os_set, os_setA, os_if, os_asg, os_par, os_aug, os_put, os_augP, os_for, ok_var, ok_c, ok_nil, ok_cons, ok_tup, ok_lst, ok_new, ok_tst, ok_andT, ok_orT, ok_notT, ok_and, ok_or, ok_not, ok_if, ok_op, ok_un, ok_cl, ok_clF, ok_call, ok_mk, ok_noPart, ok_part, ok_cut, ok_mt, ok_chain, ok_it, ok_range1, ok_range2, ok_lc, ok_yes, out_some, out_none, out_add, out_sub, out_neg, out_le, out_gt, out_ge, out_lt, out_eqI, out_neI, out_int, out_abs, out_gcd, List.map_cons, List.map_nil, List.length_cons, List.length_nil, List.replicate, List.cons_append, List.nil_append, List.append_nil, List.getElem?_cons_zero, List.getElem?_cons_succ, List.set_cons_zero, List.set_cons_succ, PV.bl.injEq, PV.int.injEq, PV.str.injEq, exists_eq_left', exists_eq_left, and_true, true_and, if_true, if_false, Bool.false_eq_true, Bool.true_eq_false, decide_eq_true_eq, Nat.sub_self, Nat.reduceAdd, Nat.reduceSub, Nat.reduceLeDiff, List.cons.injEq]
    refine (k_turned h3).imp fun v s q => ?_
    obtain ⟨rfl, w4, h4, X4⟩ := q
    exact ⟨_, w4, rfl, h4, X3.trans X4⟩
  · rintro e s ⟨x7, w3, rfl, h3, X3⟩
    obtain ⟨B3, r3, rfl, hB3⟩ := h3.ok.bagAt
    have hf3 : Fr rest (B3 :: r3) := hf.ext2 (X2.trans X3) hw
    simp only [os_seq, os_skip, os_brk, os_cont, os_retN, os_drop, os_ret, os_retA, os_set, os_setA, os_if, os_asg, os_par, os_aug, os_put, os_augP, os_for, ok_var, ok_c, ok_nil, ok_cons, ok_tup, ok_lst, ok_new, ok_tst, ok_andT, ok_orT, ok_notT, ok_and, ok_or, ok_not, ok_if, ok_op, ok_un, ok_cl, ok_clF, ok_call, ok_mk, ok_noPart, ok_part, ok_cut, ok_mt, ok_chain, ok_it, ok_range1, ok_range2, ok_lc, ok_yes, out_some, out_none, out_add, out_sub, out_neg, out_le, out_gt, out_ge, out_lt, out_eqI, out_neI, out_int, out_abs, out_gcd, List.map_cons, List.map_nil, List.length_cons, List.length_nil, List.replicate, List.cons_append, List.nil_append, List.append_nil, List.getElem?_cons_zero, List.getElem?_cons_succ, List.set_cons_zero, List.set_cons_succ, PV.bl.injEq, PV.int.injEq, PV.str.injEq, exists_eq_left', exists_eq_left, and_true, true_and, if_true, if_false, Bool.false_eq_true, Bool.true_eq_false, decide_eq_true_eq, Nat.sub_self, Nat.reduceAdd, Nat.reduceSub, Nat.reduceLeDiff, List.cons.injEq]
    refine (k_dealing h3 hn).imp fun v s q => ?_
    obtain ⟨D, rfl, hD, hps, rfl⟩ := q
    refine ⟨hf3.closed hB3, ?_⟩
    rw [frz_pure (pvD_pure D), out_some]
    exact ⟨D, B3, rfl, hD, hps, hf3.take, hB3⟩
theorem w00_oth {i : Nat} (hi : i < rest.length) : (w00 ps rest).Θ[i + 1]? = some .oth := by
  show (rest.map fun _ => Ty.oth)[i]? = _
  rw [List.getElem?_map, List.getElem?_eq_getElem hi]
  rfl
theorem Fr.lt {B1 : MO} {r1 : Sto} (h : Fr rest (B1 :: r1)) : rest.length ≤ r1.length := by
  by_cases h0 : rest.length = 0
  · omega
  · have hi : rest.length - 1 < rest.length := by omega
    have e1 := h _ hi
    have e1 : r1[rest.length - 1]? = rest[rest.length - 1]? := e1
    rw [List.getElem?_eq_getElem hi] at e1
    have := (List.getElem?_eq_some_iff.mp e1).1
    omega
noncomputable def bD1 : MS := (mPar 3 4 (mCons (mCall0 f__law_take (mCons (mVar 0) (mCons (mC (.int 8)) mNil))) (mCons (mCall0 f__law_parties (mCons (mVar 0) (mCons (mVar 1) mNil))) mNil)))
noncomputable def bD2 : MS := (mIfS (mTst (mOp oEq (mVar 3) (mC (.int 7)))) (mSeq (mSet 5 (mCall0 f__law_in_pairs (mCons (mVar 0) mNil)))
    (mAsg (.tup [(.nm 4), (.nm 6)]) (mIf (mTst (mOp oGt (mVar 1) (mC (.int 2)))) (mVar 5) (mTup (mCons (mVar 4) (mCons (mCall0 f__law_any (mCons (mVar 0) (mCons (mVar 4) (mCons (mVar 2) mNil)))) mNil)))))) (mIfS (mTst (mOp oEq (mVar 3) (mC (.int 6)))) (mSet 6 (mCall0 f__law_any (mCons (mVar 0) (mCons (mVar 4) (mCons (mVar 2) mNil))))) (mSet 6 (mCall0 f__law_grown (mCons (mVar 0) (mCons (mVar 4) (mCons (mCall0 f__law_some (mCons (mVar 0) (mCons (mNew (mLst (mCons (mC (.int 12)) (mCons (mC (.int 3)) (mCons (mC (.int 7)) (mCons (mC (.int 20)) (mCons (mC (.int 0)) mNil))))))) mNil))) (mCons (mVar 2) mNil))))))))
theorem e_drawn : b__law_drawn = mSeq bD1 (mSeq bD2 bTail) := rfl
theorem k_drawn {mp mr : Int} (hB : BagO B) (hp : 1 ≤ mp ∧ mp ≤ 6) (hr : 2 ≤ mr ∧ mr ≤ 24) : OkF f__law_drawn [.ref 0, .int mp, .int mr] (B :: rest) fun v s => ∃ D B', v = pvD D ∧ DlOk D ∧ D.ps.length ≤ mp.toNat ∧ s = B' :: rest ∧ BagO B' := by
  refine of_defT (of_defN rfl ?_)
  rw [e_drawn]
  simp only [bD1, bD2, os_seq, os_skip, os_brk, os_cont, os_retN, os_drop, os_ret, os_retA, os_set, os_setA, os_if, os_asg, os_par, os_aug, os_put, os_augP, os_for, ok_var, ok_c, ok_nil, ok_cons, ok_tup, ok_lst, ok_new, ok_tst, ok_andT, ok_orT, ok_notT, ok_and, ok_or, ok_not, ok_if, ok_op, ok_un, ok_cl, ok_clF, ok_call, ok_mk, ok_noPart, ok_part, ok_cut, ok_mt, ok_chain, ok_it, ok_range1, ok_range2, ok_lc, ok_yes, out_some, out_none, out_add, out_sub, out_neg, out_le, out_gt, out_ge, out_lt, out_eqI, out_neI, out_int, out_abs, out_gcd, List.map_cons, List.map_nil, List.length_cons, List.length_nil, List.replicate, List.cons_append, List.nil_append, List.append_nil, List.getElem?_cons_zero, List.getElem?_cons_succ, List.set_cons_zero, List.set_cons_succ, PV.bl.injEq, PV.int.injEq, PV.str.injEq, exists_eq_left', exists_eq_left, and_true, true_and, if_true, if_false, Bool.false_eq_true, Bool.true_eq_false, decide_eq_true_eq, Nat.sub_self, Nat.reduceAdd, Nat.reduceSub, Nat.reduceLeDiff, List.cons.injEq]
  refine (k_take hB (by decide) (logOk_lt (k := 5) (by decide) (by decide))).imp fun v s q => ?_
  obtain ⟨way, B1, rfl, rfl, hB1, g0, g1⟩ := q
  refine (k_parties hB1 (by omega) hp.2).imp fun v s q => ?_
  obtain ⟨ps, B2, rfl, hps, hpl, rfl, hB2⟩ := q
  refine ⟨_, _, ⟨rfl, rfl⟩, ?_⟩
  simp only [os_seq, os_skip, os_brk, os_cont, os_retN, os_drop, os_ret, os_retA, os_set, os_setA, os_if, os_asg, os_par, os_aug, os_put, os_augP, os_for, ok_var, ok_c, ok_nil, ok_cons, ok_tup, ok_lst, ok_new, ok_tst, ok_andT, ok_orT, ok_notT, ok_and, ok_or, ok_not, ok_if, ok_op, ok_un, ok_cl, ok_clF, ok_call, ok_mk, ok_noPart, ok_part, ok_cut, ok_mt, ok_chain, ok_it, ok_range1, ok_range2, ok_lc, ok_yes, out_some, out_none, out_add, out_sub, out_neg, out_le, out_gt, out_ge, out_lt, out_eqI, out_neI, out_int, out_abs, out_gcd, List.map_cons, List.map_nil, List.length_cons, List.length_nil, List.replicate, List.cons_append, List.nil_append, List.append_nil, List.getElem?_cons_zero, List.getElem?_cons_succ, List.set_cons_zero, List.set_cons_succ, PV.bl.injEq, PV.int.injEq, PV.str.injEq, exists_eq_left', exists_eq_left, and_true, true_and, if_true, if_false, Bool.false_eq_true, Bool.true_eq_false, decide_eq_true_eq, Nat.sub_self, Nat.reduceAdd, Nat.reduceSub, Nat.reduceLeDiff, List.cons.injEq]
  have fin : ∀ {ps' : List Str} {x5 : Option PV} {w : Wo} {t n : Nat} {s : Sto} {N B' C : QN}, ps'.length ≤ mp.toNat → Tb w ps' s t n → n ≤ 24 → Fr rest s → (∀ i : Nat, i < rest.length → w.Θ[i + 1]? = some .oth) →
      OkS bTail [some (.ref 0), some (.int mp), some (.int mr), some (.int way), some (.tup (ps'.map .str)), x5, some (.ref t), none] s N
      (fun v s => Closed (B :: rest) s ∧ Out (frz (rest.length + 1) s v) fun v' => ∃ D B', v' = pvD D ∧ DlOk D ∧ D.ps.length ≤ mp.toNat ∧ s.take (rest.length + 1) = B' :: rest ∧ BagO B') B' C := fun hl h hn hf hw =>
    OkS.impR (drawn_tail h hn hf hw ⟨g0, g1⟩) fun v s ⟨hc, v', e, D, B', h1, h2, h3, h4, h5⟩ => ⟨hc, v', e, D, B', h1, h2, by rw [h3]; exact hl, h4, h5⟩
  split
  · refine (k_in_pairs hB2).imp fun v s q => ?_
    obtain ⟨w, t, n, rfl, h, hn, X⟩ := q
    split
    · rename_i h2
      simp only [os_seq, os_skip, os_brk, os_cont, os_retN, os_drop, os_ret, os_retA, os_set, os_setA, os_if, os_asg, os_par, os_aug, os_put, os_augP, os_for, ok_var, ok_c, ok_nil, ok_cons, ok_tup, ok_lst, ok_new, ok_tst, ok_andT, ok_orT, ok_notT, ok_and, ok_or, ok_not, ok_if, ok_op, ok_un, ok_cl, ok_clF, ok_call, ok_mk, ok_noPart, ok_part, ok_cut, ok_mt, ok_chain, ok_it, ok_range1, ok_range2, ok_lc, ok_yes, out_some, out_none, out_add, out_sub, out_neg, out_le, out_gt, out_ge, out_lt, out_eqI, out_neI, out_int, out_abs, out_gcd, List.map_cons, List.map_nil, List.length_cons, List.length_nil, List.replicate, List.cons_append, List.nil_append, List.append_nil, List.getElem?_cons_zero, List.getElem?_cons_succ, List.set_cons_zero, List.set_cons_succ, PV.bl.injEq, PV.int.injEq, PV.str.injEq, exists_eq_left', exists_eq_left, and_true, true_and, if_true, if_false, Bool.false_eq_true, Bool.true_eq_false, decide_eq_true_eq, Nat.sub_self, Nat.reduceAdd, Nat.reduceSub, Nat.reduceLeDiff, List.cons.injEq, tg2]
      have h3 : p3.length ≤ mp.toNat := by show 3 ≤ _; omega
      exact fin h3 h hn (Fr.ext X) fun i hi => X.ty _ _ (w00_oth hi) rfl
    · obtain ⟨B3, r3, rfl, hB3⟩ := h.ok.bagAt
      refine (k_any hps hB3 hr).imp fun v s q => ?_
      obtain ⟨w', t', n', rfl, h', hn', X'⟩ := q
      simp only [os_seq, os_skip, os_brk, os_cont, os_retN, os_drop, os_ret, os_retA, os_set, os_setA, os_if, os_asg, os_par, os_aug, os_put, os_augP, os_for, ok_var, ok_c, ok_nil, ok_cons, ok_tup, ok_lst, ok_new, ok_tst, ok_andT, ok_orT, ok_notT, ok_and, ok_or, ok_not, ok_if, ok_op, ok_un, ok_cl, ok_clF, ok_call, ok_mk, ok_noPart, ok_part, ok_cut, ok_mt, ok_chain, ok_it, ok_range1, ok_range2, ok_lc, ok_yes, out_some, out_none, out_add, out_sub, out_neg, out_le, out_gt, out_ge, out_lt, out_eqI, out_neI, out_int, out_abs, out_gcd, List.map_cons, List.map_nil, List.length_cons, List.length_nil, List.replicate, List.cons_append, List.nil_append, List.append_nil, List.getElem?_cons_zero, List.getElem?_cons_succ, List.set_cons_zero, List.set_cons_succ, PV.bl.injEq, PV.int.injEq, PV.str.injEq, exists_eq_left', exists_eq_left, and_true, true_and, if_true, if_false, Bool.false_eq_true, Bool.true_eq_false, decide_eq_true_eq, Nat.sub_self, Nat.reduceAdd, Nat.reduceSub, Nat.reduceLeDiff, List.cons.injEq, tg2, sl (show 2 ≤ 1000 by decide)]
      have hf : Fr rest (B3 :: r3) := Fr.ext X
      have := hf.lt
      exact fin hpl h' hn' (hf.trans (Fr.ext X')) fun i hi => X'.ty _ _ (w00_oth (by omega)) rfl
  · split
    · refine (k_any hps hB2 hr).imp fun v s q => ?_
      obtain ⟨w', t', n', rfl, h', hn', X'⟩ := q
      exact fin hpl h' hn' (Fr.ext X') fun i hi => X'.ty _ _ (w00_oth hi) rfl
    · simp only [os_seq, os_skip, os_brk, os_cont, os_retN, os_drop, os_ret, os_retA, os_set, os_setA, os_if, os_asg, os_par, os_aug, os_put, os_augP, os_for, ok_var, ok_c, ok_nil, ok_cons, ok_tup, ok_lst, ok_new, ok_tst, ok_andT, ok_orT, ok_notT, ok_and, ok_or, ok_not, ok_if, ok_op, ok_un, ok_cl, ok_clF, ok_call, ok_mk, ok_noPart, ok_part, ok_cut, ok_mt, ok_chain, ok_it, ok_range1, ok_range2, ok_lc, ok_yes, out_some, out_none, out_add, out_sub, out_neg, out_le, out_gt, out_ge, out_lt, out_eqI, out_neI, out_int, out_abs, out_gcd, List.map_cons, List.map_nil, List.length_cons, List.length_nil, List.replicate, List.cons_append, List.nil_append, List.append_nil, List.getElem?_cons_zero, List.getElem?_cons_succ, List.set_cons_zero, List.set_cons_succ, PV.bl.injEq, PV.int.injEq, PV.str.injEq, exists_eq_left', exists_eq_left, and_true, true_and, if_true, if_false, Bool.false_eq_true, Bool.true_eq_false, decide_eq_true_eq, Nat.sub_self, Nat.reduceAdd, Nat.reduceSub, Nat.reduceLeDiff, List.cons.injEq, sl (show 5 ≤ 1000 by decide)]
      refine (some_lst hB2 (by simp) (by simp)).imp fun v s q => ?_
      obtain ⟨B3, hv, rfl, hB3⟩ := q
      obtain ⟨k, rfl, k0, k1⟩ : ∃ k, v = .int k ∧ 0 ≤ k ∧ k ≤ 100 := by
        simp only [List.mem_cons, List.not_mem_nil, or_false] at hv
        rcases hv with rfl | rfl | rfl | rfl | rfl <;> exact ⟨_, rfl, by omega, by omega⟩
      refine (k_grown hps hB3 ⟨k0, k1⟩ hr.2).imp fun v s q => ?_
      obtain ⟨w', t', n', rfl, h', hn', X'⟩ := q
      exact fin hpl h' hn' (Fr.ext X') fun i hi => X'.ty _ _ (w00_oth hi) rfl
end
end Ge

/-! Ge16: what is small enough to be shown; the data of a dealing (plain). -/
namespace Ge
open PySem PySem.Spec PyProof.Rows L2 Mi
/-- small data: of weight k and depth h at most -/
structure Sm (d : PyData) (k h : Nat) : Prop where
  sh : d.showable = true
  pl : d.plain = true
  lv : d.leavesShort 8 = true
  w : d.weight ≤ k
  dp : d.depth ≤ h
theorem Sm.mono {d : PyData} {k h k' h' : Nat} (s : Sm d k h) (h1 : k ≤ k') (h2 : h ≤ h') : Sm d k' h' := ⟨s.sh, s.pl, s.lv, Nat.le_trans s.w h1, Nat.le_trans s.dp h2⟩
theorem Sm.shows {d : PyData} {k h : Nat} (s : Sm d k h) (h1 : k ≤ 2 ^ 20) (h2 : h ≤ 64) : shows d = true := by
  have h3 := PyData.shown_fits (by decide) (by decide) s.lv (Nat.le_trans s.w h1)
  simp only [Mi.shows, s.sh, Bool.true_and, Bool.and_eq_true, decide_eq_true_eq]
  exact ⟨Nat.le_trans s.dp h2, h3⟩
theorem sm_str {z : Str} (h : Nmk z) : Sm (.str z) 8 0 := by
  refine ⟨rfl, rfl, ?_, h.2.1, Nat.le_refl _⟩
  simp only [PyData.leavesShort, List.all_eq_true, decide_eq_true_eq]
  intro c hc
  have := (h.2.2 c hc).2
  have : (16 : Nat) ^ 8 = 4294967296 := by decide
  omega
theorem sm_bool {b : Bool} : Sm (.bool b) 0 0 := ⟨rfl, rfl, rfl, Nat.le_refl _, Nat.le_refl _⟩
theorem sm_all {k h : Nat} : ∀ {xs : List PyData}, (∀ x ∈ xs, Sm x k h) → PyData.showableAll xs = true ∧ PyData.plainAll xs = true ∧ PyData.leavesShortAll 8 xs = true ∧ PyData.weightAll xs ≤ (k + 1) * xs.length ∧ PyData.depthAll xs ≤ h
  | [], _ => ⟨rfl, rfl, rfl, Nat.zero_le _, Nat.zero_le _⟩
  | x :: xs, hx => by
    obtain ⟨a, b, c, d, e⟩ := sm_all (xs := xs) fun y hy => hx y (List.mem_cons_of_mem _ hy)
    have s := hx x List.mem_cons_self
    refine ⟨by simp only [PyData.showableAll, s.sh, a, Bool.and_self], by simp only [PyData.plainAll, s.pl, b, Bool.and_self], by simp only [PyData.leavesShortAll, s.lv, c, Bool.and_self], ?_, ?_⟩
    · simp only [PyData.weightAll, List.length_cons]
      have := s.w
      rw [Nat.mul_add, Nat.mul_one]
      omega
    · simp only [PyData.depthAll]
      exact Nat.max_le.mpr ⟨s.dp, e⟩
theorem sm_tup {k h n : Nat} {xs : List PyData} (hx : ∀ x ∈ xs, Sm x k h) (hn : xs.length ≤ n) : Sm (.tuple xs) ((k + 1) * n) (h + 1) := by
  obtain ⟨a, b, c, d, e⟩ := sm_all hx
  refine ⟨by simpa only [PyData.showable] using a, by simpa only [PyData.plain] using b, by simpa only [PyData.leavesShort] using c, ?_, ?_⟩
  · simp only [PyData.weight]
    exact Nat.le_trans d (Nat.mul_le_mul_left _ hn)
  · simp only [PyData.depth]
    omega
theorem sm_lst {k h n : Nat} {xs : List PyData} (hx : ∀ x ∈ xs, Sm x k h) (hn : xs.length ≤ n) : Sm (.list xs) ((k + 1) * n) (h + 1) := by
  obtain ⟨a, b, c, d, e⟩ := sm_all hx
  refine ⟨by simpa only [PyData.showable] using a, by simpa only [PyData.plain] using b, by simpa only [PyData.leavesShort] using c, ?_, ?_⟩
  · simp only [PyData.weight]
    exact Nat.le_trans d (Nat.mul_le_mul_left _ hn)
  · simp only [PyData.depth]
    omega
theorem sm_map {α : Type} {f : α → PyData} {xs : List α} {k h n : Nat} (hx : ∀ x ∈ xs, Sm (f x) k h) (hn : xs.length ≤ n) : Sm (.tuple (xs.map f)) ((k + 1) * n) (h + 1) :=
  sm_tup (fun y hy => by
    obtain ⟨x, hx', rfl⟩ := List.mem_map.mp hy
    exact hx x hx') (by rw [List.length_map]; exact hn)
theorem sm_strs {zs : List Str} {n : Nat} (h : ∀ z ∈ zs, Nmk z) (hn : zs.length ≤ n) : Sm (.tuple (zs.map .str)) (9 * n) 1 := sm_map (fun z hz => sm_str (h z hz)) hn
/-! ### the data of a dealing -/
def dN (e : Str × Str) : PyData := .tuple [.str e.1, .str e.2]
def dR (e : Str × List (Str × Str)) : PyData := .tuple [.str e.1, .tuple (e.2.map dN)]
def dRnd (r : Rnd) : PyData := .tuple [.str r.name, .tuple (r.lot.map .str), .str r.ch, .tuple (r.res.map dR)]
def dD (D : Dl) : PyData := .tuple [.tuple (D.ps.map .str), .tuple (D.rs.map dRnd)]
theorem dataPL_map {α : Type} {f : α → PV} {g : α → PyData} : ∀ {xs : List α}, (∀ x ∈ xs, dataP (f x) = some (g x)) → dataPL (xs.map f) = some (xs.map g)
  | [], _ => rfl
  | x :: xs, h => by
    simp only [List.map_cons, dataPL, h x List.mem_cons_self, dataPL_map (xs := xs) fun y hy => h y (List.mem_cons_of_mem _ hy)]
theorem dataP_N (e : Str × Str) : dataP (pvN e) = some (dN e) := rfl
theorem dataP_R (e : Str × List (Str × Str)) : dataP (pvR e) = some (dR e) := by
  simp only [pvR, dataP, dataPL, dataPL_map fun x _ => dataP_N x, Option.map_some]
  rfl
theorem dataP_Rnd (r : Rnd) : dataP (pvRnd r) = some (dRnd r) := by
  simp only [pvRnd, dataP, dataPL, dataPL_strs, dataPL_map fun x _ => dataP_R x, Option.map_some]
  rfl
theorem dataP_D (D : Dl) : dataP (pvD D) = some (dD D) := by
  simp only [pvD, dataP, dataPL, dataPL_strs, dataPL_map fun x _ => dataP_Rnd x, Option.map_some]
  rfl
section
variable {D : Dl}
theorem rnd_len (h : DlOk D) {r : Rnd} (hr : r ∈ D.rs) : r.lot.length ≤ 6 := by
  have h1 := (h.rnd r hr)
  have h2 := nodup_len h1.srt.nodup h1.sub
  have h3 := h.pts.len
  omega
theorem rnd_nm (h : DlOk D) {r : Rnd} (hr : r ∈ D.rs) : ∀ p ∈ r.lot, Nmk p := fun p hp => h.pts.nm p ((h.rnd r hr).sub p hp)
theorem nex_nm (h : DlOk D) {r : Rnd} (hr : r ∈ D.rs) {e : Str × List (Str × Str)} (he : e ∈ r.res) : (∀ x ∈ e.2, Nmk x.1 ∧ Nmk x.2) ∧ e.2.length ≤ 6 := by
  have h1 := h.rnd r hr
  refine ⟨fun x hx => ⟨?_, ?_⟩, ?_⟩
  · refine rnd_nm h hr _ ?_
    rw [← h1.keys e he]
    exact List.mem_map.mpr ⟨x, hx, rfl⟩
  · obtain ⟨r', hr', k1, _⟩ := h1.tgt e he x hx
    rw [← k1]
    exact (h.rnd r' hr').nm
  · have := congrArg List.length (h1.keys e he)
    rw [List.length_map] at this
    have := rnd_len h hr
    omega
theorem sm_D (h : DlOk D) : Sm (dD D) 200000 10 := by
  have hR : ∀ r ∈ D.rs, Sm (dRnd r) 3700 6 := fun r hr => by
    have h1 := h.rnd r hr
    have hres : ∀ e ∈ r.res, Sm (dR e) 230 4 := fun e he => by
      obtain ⟨a, b⟩ := nex_nm h hr he
      have hn : ∀ x ∈ e.2, Sm (dN x) 18 1 := fun x hx => sm_tup (k := 8) (h := 0) (n := 2) (fun y hy => by
        simp only [List.mem_cons, List.not_mem_nil, or_false] at hy
        rcases hy with rfl | rfl
        · exact sm_str (a x hx).1
        · exact sm_str (a x hx).2) (Nat.le_refl _)
      have h2 : Sm (.tuple (e.2.map dN)) 114 2 := sm_map hn b
      exact (sm_tup (k := 114) (h := 2) (n := 2) (fun y hy => by
        simp only [List.mem_cons, List.not_mem_nil, or_false] at hy
        rcases hy with rfl | rfl
        · exact (sm_str (h1.rnm e he)).mono (by decide) (by decide)
        · exact h2) (Nat.le_refl _)).mono (by decide) (by decide)
    have h2 : Sm (.tuple (r.res.map dR)) 924 5 := sm_map hres h1.rlen
    exact (sm_tup (k := 924) (h := 5) (n := 4) (fun y hy => by
      simp only [List.mem_cons, List.not_mem_nil, or_false] at hy
      rcases hy with rfl | rfl | rfl | rfl
      · exact (sm_str h1.nm).mono (by decide) (by decide)
      · exact (sm_strs (rnd_nm h hr) (rnd_len h hr)).mono (by decide) (by decide)
      · exact (sm_str (rnd_nm h hr _ h1.ch)).mono (by decide) (by decide)
      · exact h2) (Nat.le_refl _)).mono (by decide) (by decide)
  have h2 : Sm (.tuple (D.rs.map dRnd)) 88824 7 := sm_map hR h.len
  exact (sm_tup (k := 88824) (h := 7) (n := 2) (fun y hy => by
    simp only [List.mem_cons, List.not_mem_nil, or_false] at hy
    rcases hy with rfl | rfl
    · exact (sm_strs h.pts.nm h.pts.len).mono (by decide) (by decide)
    · exact h2) (Nat.le_refl _)).mono (by decide) (by decide)
end
/-- two texts that are the same, shown the same -/
theorem okF_iff {f : FnM} {xs : List PV} {st : Sto} {a : PV} (h : OkF f xs st fun v s => v = a ∧ s = st) {Q : PV → Sto → Prop} : OkF f xs st Q ↔ Q a st := by
  obtain ⟨v, s, e, rfl, rfl⟩ := h
  unfold OkF
  rw [e]
  exact ex_ok
end Ge

/-! K04b: what the program reads of a dealing; alike (plain). -/
namespace K04
open PySem PySem.Spec PyProof.Rows L2 Mi Ge
theorem e_drawn : K04.f__law_drawn = Ge.f__law_drawn := rfl
theorem e_some : K04.f__law_some = Ge.f__law_some := rfl
section
variable {D : Dl} {st : Sto} {Q : PV → Sto → Prop}
theorem comp_of {α : Type} {it : MIt} {i : Nat} {c : M Bool} {el : M PV} {env : MEnv} {st : Sto} {f : α → PV} {p : α → Bool} {g : α → PV} (hc : it.chk st) : ∀ (xs : List α),
    (∀ x ∈ xs, c (env.set i (some (f x))) st = some (.ok (p x) st) ∧ (p x = true → el (env.set i (some (f x))) st = some (.ok (g x) st))) →
    compL (.nm i) it c el (xs.map f) env st = some ((xs.filter p).map g, st)
  | [], hb => by
    rw [List.map_nil]
    unfold compL
    rw [if_pos hc]
    rfl
  | x :: xs, hb => by
    have next := comp_of (it := it) (i := i) (c := c) (el := el) (env := env) (st := st) (f := f) (p := p) (g := g) hc xs fun y hy => hb y (List.mem_cons_of_mem _ hy)
    obtain ⟨e1, e2⟩ := hb x List.mem_cons_self
    rw [List.map_cons]
    unfold compL
    rw [if_pos hc]
    simp only [tgSet, e1]
    cases hp : p x with
    | true =>
      simp only [e2 hp, next, Option.map_some, List.filter_cons, hp, if_true, List.map_cons]
    | false =>
      simp only [next, List.filter_cons, hp, Bool.false_eq_true, if_false]
theorem comp2_of {α β : Type} {all : List PV} {i i1 : Nat} {mc mc1 : M Bool} {mi1 : M MIt} {vs1 : List Nat} {me : M PV} {env : MEnv} {st : Sto} {f : α → PV} {ys : α → List β} {f1 : β → PV} {g : α → β → PV} : ∀ (xs : List α),
    (∀ x ∈ xs, mc (env.set i (some (f x))) st = some (.ok true st) ∧ mi1 (env.set i (some (f x))) st = some (.ok ⟨(ys x).map f1, none⟩ st) ∧
      compL (.nm i1) ⟨(ys x).map f1, none⟩ mc1 me ((ys x).map f1) (wipeM (env.set i (some (f x))) vs1) st = some ((ys x).map (g x), st)) →
    comp2 (.nm i) ⟨all, none⟩ mc mi1 (.nm i1) vs1 mc1 me (xs.map f) env st = some (xs.flatMap fun x => (ys x).map (g x), st)
  | [], _ => by
    rw [List.map_nil]
    unfold comp2
    rw [if_pos chk_none]
    rfl
  | x :: xs, hb => by
    have next := comp2_of (all := all) (i := i) (i1 := i1) (mc := mc) (mc1 := mc1) (mi1 := mi1) (vs1 := vs1) (me := me) (env := env) (st := st) (f := f) (ys := ys) (f1 := f1) (g := g) xs fun y hy => hb y (List.mem_cons_of_mem _ hy)
    obtain ⟨e1, e2, e3⟩ := hb x List.mem_cons_self
    rw [List.map_cons]
    unfold comp2
    rw [if_pos chk_none]
    simp only [tgSet, e1, e2, e3, next, Option.map_some, List.flatMap_cons]
theorem ixD0 {x : PV} {r : List PV} : oIxD (.tup (x :: r)) (.int 0) st = some x := by rw [ixD_t]; exact atI_0
theorem ixD1 {x y : PV} {r : List PV} : oIxD (.tup (x :: y :: r)) (.int 1) st = some y := by rw [ixD_t]; exact atI_1
theorem ixD2 {x y z : PV} {r : List PV} : oIxD (.tup (x :: y :: z :: r)) (.int 2) st = some z := by rw [ixD_t]; exact atI_2
theorem ixD3 {x y z u : PV} {r : List PV} : oIxD (.tup (x :: y :: z :: u :: r)) (.int 3) st = some u := by rw [ixD_t]; exact atI_3
theorem k_parties_of : OkF f_parties_of [pvD D] st Q ↔ Q (.tup (D.ps.map .str)) st := by
  refine okF_iff ?_
  refine of_defN rfl ?_
  simp only [b_parties_of, os_seq, os_skip, os_brk, os_cont, os_retN, os_drop, os_ret, os_retA, os_set, os_setA, os_if, os_asg, os_par, os_aug, os_put, os_augP, os_for, ok_var, ok_c, ok_nil, ok_cons, ok_tup, ok_lst, ok_new, ok_tst, ok_andT, ok_orT, ok_notT, ok_and, ok_or, ok_not, ok_if, ok_op, ok_un, ok_cl, ok_clF, ok_call, ok_mk, ok_noPart, ok_part, ok_cut, ok_mt, ok_chain, ok_it, ok_range1, ok_range2, ok_lc, ok_yes, out_some, out_none, out_add, out_sub, out_neg, out_le, out_gt, out_ge, out_lt, out_eqI, out_neI, out_int, out_abs, out_gcd, List.map_cons, List.map_nil, List.length_cons, List.length_nil, List.replicate, List.cons_append, List.nil_append, List.append_nil, List.getElem?_cons_zero, List.getElem?_cons_succ, List.set_cons_zero, List.set_cons_succ, PV.bl.injEq, PV.int.injEq, PV.str.injEq, exists_eq_left', exists_eq_left, and_true, true_and, if_true, if_false, Bool.false_eq_true, Bool.true_eq_false, decide_eq_true_eq, Nat.sub_self, Nat.reduceAdd, Nat.reduceSub, Nat.reduceLeDiff, List.cons.injEq, pvD, ixD0]
theorem k_rounds_of : OkF f_rounds_of [pvD D] st Q ↔ Q (.tup ((D.rs.map (·.name)).map .str)) st := by
  refine okF_iff ?_
  refine of_defN rfl ?_
  simp only [b_rounds_of, os_seq, os_skip, os_brk, os_cont, os_retN, os_drop, os_ret, os_retA, os_set, os_setA, os_if, os_asg, os_par, os_aug, os_put, os_augP, os_for, ok_var, ok_c, ok_nil, ok_cons, ok_tup, ok_lst, ok_new, ok_tst, ok_andT, ok_orT, ok_notT, ok_and, ok_or, ok_not, ok_if, ok_op, ok_un, ok_cl, ok_clF, ok_call, ok_mk, ok_noPart, ok_part, ok_cut, ok_mt, ok_chain, ok_it, ok_range1, ok_range2, ok_lc, ok_yes, out_some, out_none, out_add, out_sub, out_neg, out_le, out_gt, out_ge, out_lt, out_eqI, out_neI, out_int, out_abs, out_gcd, List.map_cons, List.map_nil, List.length_cons, List.length_nil, List.replicate, List.cons_append, List.nil_append, List.append_nil, List.getElem?_cons_zero, List.getElem?_cons_succ, List.set_cons_zero, List.set_cons_succ, PV.bl.injEq, PV.int.injEq, PV.str.injEq, exists_eq_left', exists_eq_left, and_true, true_and, if_true, if_false, Bool.false_eq_true, Bool.true_eq_false, decide_eq_true_eq, Nat.sub_self, Nat.reduceAdd, Nat.reduceSub, Nat.reduceLeDiff, List.cons.injEq, pvD, ixD1, it_t, wipeM]
  rw [comp_of (f := pvRnd) (p := fun _ => true) (g := fun r => .str r.name) chk_none D.rs fun r _ => ⟨rfl, fun _ => ok_eq (by simp only [os_seq, os_skip, os_brk, os_cont, os_retN, os_drop, os_ret, os_retA, os_set, os_setA, os_if, os_asg, os_par, os_aug, os_put, os_augP, os_for, ok_var, ok_c, ok_nil, ok_cons, ok_tup, ok_lst, ok_new, ok_tst, ok_andT, ok_orT, ok_notT, ok_and, ok_or, ok_not, ok_if, ok_op, ok_un, ok_cl, ok_clF, ok_call, ok_mk, ok_noPart, ok_part, ok_cut, ok_mt, ok_chain, ok_it, ok_range1, ok_range2, ok_lc, ok_yes, out_some, out_none, out_add, out_sub, out_neg, out_le, out_gt, out_ge, out_lt, out_eqI, out_neI, out_int, out_abs, out_gcd, List.map_cons, List.map_nil, List.length_cons, List.length_nil, List.replicate, List.cons_append, List.nil_append, List.append_nil, List.getElem?_cons_zero, List.getElem?_cons_succ, List.set_cons_zero, List.set_cons_succ, PV.bl.injEq, PV.int.injEq, PV.str.injEq, exists_eq_left', exists_eq_left, and_true, true_and, if_true, if_false, Bool.false_eq_true, Bool.true_eq_false, decide_eq_true_eq, Nat.sub_self, Nat.reduceAdd, Nat.reduceSub, Nat.reduceLeDiff, List.cons.injEq, pvRnd, ixD0])⟩, out_some]
  simp only [filt, tuple_l, out_some, List.map_map, and_true]
  rfl
theorem ixOf_self : ∀ {zs : List Str} {j : Nat} {z : Str}, zs.Nodup → zs[j]? = some z → ixOf z zs = some j
  | [], j, z, _, h => by simp at h
  | y :: ys, 0, z, _, h => by
    simp at h
    subst h
    simp [ixOf]
  | y :: ys, j + 1, z, hn, h => by
    rw [List.nodup_cons] at hn
    rw [List.getElem?_cons_succ] at h
    have ne : y ≠ z := fun e => hn.1 (e ▸ List.mem_of_getElem? h)
    simp only [ixOf, if_neg ne, ixOf_self hn.2 h, Option.map_some]
theorem k_round_at (hD : DlOk D) {r : Rnd} (hr : r ∈ D.rs) : OkF f_round_at [pvD D, .str r.name] st Q ↔ Q (pvRnd r) st := by
  refine okF_iff ?_
  refine of_defN rfl ?_
  obtain ⟨j, hj⟩ := List.getElem?_of_mem hr
  have e1 : oIdx (.tup ((D.rs.map (·.name)).map .str)) [.str r.name] = some (.int j) := by
    have : (D.rs.map (·.name))[j]? = some r.name := by rw [List.getElem?_map, hj]; rfl
    simp only [oIdx, strsOf_map, ixOf_self hD.srt.nodup this, Option.map_some]
  have e2 : oIxD (.tup (D.rs.map pvRnd)) (.int j) st = some (pvRnd r) := by
    rw [ixD_t]
    obtain ⟨h1, h2⟩ := List.getElem?_eq_some_iff.mp hj
    unfold atI ixN
    rw [if_pos (by omega), if_pos (by rw [List.length_map]; omega)]
    simp [hj]
  simp only [b_round_at, os_seq, os_skip, os_brk, os_cont, os_retN, os_drop, os_ret, os_retA, os_set, os_setA, os_if, os_asg, os_par, os_aug, os_put, os_augP, os_for, ok_var, ok_c, ok_nil, ok_cons, ok_tup, ok_lst, ok_new, ok_tst, ok_andT, ok_orT, ok_notT, ok_and, ok_or, ok_not, ok_if, ok_op, ok_un, ok_cl, ok_clF, ok_call, ok_mk, ok_noPart, ok_part, ok_cut, ok_mt, ok_chain, ok_it, ok_range1, ok_range2, ok_lc, ok_yes, out_some, out_none, out_add, out_sub, out_neg, out_le, out_gt, out_ge, out_lt, out_eqI, out_neI, out_int, out_abs, out_gcd, List.map_cons, List.map_nil, List.length_cons, List.length_nil, List.replicate, List.cons_append, List.nil_append, List.append_nil, List.getElem?_cons_zero, List.getElem?_cons_succ, List.set_cons_zero, List.set_cons_succ, PV.bl.injEq, PV.int.injEq, PV.str.injEq, exists_eq_left', exists_eq_left, and_true, true_and, if_true, if_false, Bool.false_eq_true, Bool.true_eq_false, decide_eq_true_eq, Nat.sub_self, Nat.reduceAdd, Nat.reduceSub, Nat.reduceLeDiff, List.cons.injEq, ok_idx, k_rounds_of, e1]
  simp only [pvD, ixD1, out_some]
  refine ⟨rfl, ?_⟩
  simp only [os_seq, os_skip, os_brk, os_cont, os_retN, os_drop, os_ret, os_retA, os_set, os_setA, os_if, os_asg, os_par, os_aug, os_put, os_augP, os_for, ok_var, ok_c, ok_nil, ok_cons, ok_tup, ok_lst, ok_new, ok_tst, ok_andT, ok_orT, ok_notT, ok_and, ok_or, ok_not, ok_if, ok_op, ok_un, ok_cl, ok_clF, ok_call, ok_mk, ok_noPart, ok_part, ok_cut, ok_mt, ok_chain, ok_it, ok_range1, ok_range2, ok_lc, ok_yes, out_some, out_none, out_add, out_sub, out_neg, out_le, out_gt, out_ge, out_lt, out_eqI, out_neI, out_int, out_abs, out_gcd, List.map_cons, List.map_nil, List.length_cons, List.length_nil, List.replicate, List.cons_append, List.nil_append, List.append_nil, List.getElem?_cons_zero, List.getElem?_cons_succ, List.set_cons_zero, List.set_cons_succ, PV.bl.injEq, PV.int.injEq, PV.str.injEq, exists_eq_left', exists_eq_left, and_true, true_and, if_true, if_false, Bool.false_eq_true, Bool.true_eq_false, decide_eq_true_eq, Nat.sub_self, Nat.reduceAdd, Nat.reduceSub, Nat.reduceLeDiff, List.cons.injEq, e1, e2]
theorem k_lot_of (hD : DlOk D) {r : Rnd} (hr : r ∈ D.rs) : OkF f_lot_of [pvD D, .str r.name] st Q ↔ Q (.tup (r.lot.map .str)) st := by
  refine okF_iff ?_
  refine of_defN rfl ?_
  simp only [b_lot_of, os_seq, os_skip, os_brk, os_cont, os_retN, os_drop, os_ret, os_retA, os_set, os_setA, os_if, os_asg, os_par, os_aug, os_put, os_augP, os_for, ok_var, ok_c, ok_nil, ok_cons, ok_tup, ok_lst, ok_new, ok_tst, ok_andT, ok_orT, ok_notT, ok_and, ok_or, ok_not, ok_if, ok_op, ok_un, ok_cl, ok_clF, ok_call, ok_mk, ok_noPart, ok_part, ok_cut, ok_mt, ok_chain, ok_it, ok_range1, ok_range2, ok_lc, ok_yes, out_some, out_none, out_add, out_sub, out_neg, out_le, out_gt, out_ge, out_lt, out_eqI, out_neI, out_int, out_abs, out_gcd, List.map_cons, List.map_nil, List.length_cons, List.length_nil, List.replicate, List.cons_append, List.nil_append, List.append_nil, List.getElem?_cons_zero, List.getElem?_cons_succ, List.set_cons_zero, List.set_cons_succ, PV.bl.injEq, PV.int.injEq, PV.str.injEq, exists_eq_left', exists_eq_left, and_true, true_and, if_true, if_false, Bool.false_eq_true, Bool.true_eq_false, decide_eq_true_eq, Nat.sub_self, Nat.reduceAdd, Nat.reduceSub, Nat.reduceLeDiff, List.cons.injEq, k_round_at hD hr, pvRnd, ixD1]
theorem k_chooser_of (hD : DlOk D) {r : Rnd} (hr : r ∈ D.rs) : OkF f_chooser_of [pvD D, .str r.name] st Q ↔ Q (.str r.ch) st := by
  refine okF_iff ?_
  refine of_defN rfl ?_
  simp only [b_chooser_of, os_seq, os_skip, os_brk, os_cont, os_retN, os_drop, os_ret, os_retA, os_set, os_setA, os_if, os_asg, os_par, os_aug, os_put, os_augP, os_for, ok_var, ok_c, ok_nil, ok_cons, ok_tup, ok_lst, ok_new, ok_tst, ok_andT, ok_orT, ok_notT, ok_and, ok_or, ok_not, ok_if, ok_op, ok_un, ok_cl, ok_clF, ok_call, ok_mk, ok_noPart, ok_part, ok_cut, ok_mt, ok_chain, ok_it, ok_range1, ok_range2, ok_lc, ok_yes, out_some, out_none, out_add, out_sub, out_neg, out_le, out_gt, out_ge, out_lt, out_eqI, out_neI, out_int, out_abs, out_gcd, List.map_cons, List.map_nil, List.length_cons, List.length_nil, List.replicate, List.cons_append, List.nil_append, List.append_nil, List.getElem?_cons_zero, List.getElem?_cons_succ, List.set_cons_zero, List.set_cons_succ, PV.bl.injEq, PV.int.injEq, PV.str.injEq, exists_eq_left', exists_eq_left, and_true, true_and, if_true, if_false, Bool.false_eq_true, Bool.true_eq_false, decide_eq_true_eq, Nat.sub_self, Nat.reduceAdd, Nat.reduceSub, Nat.reduceLeDiff, List.cons.injEq, k_round_at hD hr, pvRnd, ixD2]
theorem k_words_of (hD : DlOk D) {r : Rnd} (hr : r ∈ D.rs) : OkF f_words_of [pvD D, .str r.name] st Q ↔ Q (.tup ((r.res.map (·.1)).map .str)) st := by
  refine okF_iff ?_
  refine of_defN rfl ?_
  simp only [b_words_of, os_seq, os_skip, os_brk, os_cont, os_retN, os_drop, os_ret, os_retA, os_set, os_setA, os_if, os_asg, os_par, os_aug, os_put, os_augP, os_for, ok_var, ok_c, ok_nil, ok_cons, ok_tup, ok_lst, ok_new, ok_tst, ok_andT, ok_orT, ok_notT, ok_and, ok_or, ok_not, ok_if, ok_op, ok_un, ok_cl, ok_clF, ok_call, ok_mk, ok_noPart, ok_part, ok_cut, ok_mt, ok_chain, ok_it, ok_range1, ok_range2, ok_lc, ok_yes, out_some, out_none, out_add, out_sub, out_neg, out_le, out_gt, out_ge, out_lt, out_eqI, out_neI, out_int, out_abs, out_gcd, List.map_cons, List.map_nil, List.length_cons, List.length_nil, List.replicate, List.cons_append, List.nil_append, List.append_nil, List.getElem?_cons_zero, List.getElem?_cons_succ, List.set_cons_zero, List.set_cons_succ, PV.bl.injEq, PV.int.injEq, PV.str.injEq, exists_eq_left', exists_eq_left, and_true, true_and, if_true, if_false, Bool.false_eq_true, Bool.true_eq_false, decide_eq_true_eq, Nat.sub_self, Nat.reduceAdd, Nat.reduceSub, Nat.reduceLeDiff, List.cons.injEq, k_round_at hD hr, pvRnd, ixD3, it_t, wipeM]
  rw [comp_of (f := pvR) (p := fun _ => true) (g := fun e => .str e.1) chk_none r.res fun e _ => ⟨rfl, fun _ => ok_eq (by simp only [os_seq, os_skip, os_brk, os_cont, os_retN, os_drop, os_ret, os_retA, os_set, os_setA, os_if, os_asg, os_par, os_aug, os_put, os_augP, os_for, ok_var, ok_c, ok_nil, ok_cons, ok_tup, ok_lst, ok_new, ok_tst, ok_andT, ok_orT, ok_notT, ok_and, ok_or, ok_not, ok_if, ok_op, ok_un, ok_cl, ok_clF, ok_call, ok_mk, ok_noPart, ok_part, ok_cut, ok_mt, ok_chain, ok_it, ok_range1, ok_range2, ok_lc, ok_yes, out_some, out_none, out_add, out_sub, out_neg, out_le, out_gt, out_ge, out_lt, out_eqI, out_neI, out_int, out_abs, out_gcd, List.map_cons, List.map_nil, List.length_cons, List.length_nil, List.replicate, List.cons_append, List.nil_append, List.append_nil, List.getElem?_cons_zero, List.getElem?_cons_succ, List.set_cons_zero, List.set_cons_succ, PV.bl.injEq, PV.int.injEq, PV.str.injEq, exists_eq_left', exists_eq_left, and_true, true_and, if_true, if_false, Bool.false_eq_true, Bool.true_eq_false, decide_eq_true_eq, Nat.sub_self, Nat.reduceAdd, Nat.reduceSub, Nat.reduceLeDiff, List.cons.injEq, pvR, ixD0])⟩, out_some]
  simp only [filt, tuple_l, out_some, List.map_map, and_true]
  rfl
theorem k_wants (hD : DlOk D) {r : Rnd} (hr : r ∈ D.rs) {p : Str} : OkF f_wants [pvD D, .str r.name, .str p] st Q ↔ Q (.bl (decide (p ∈ r.lot))) st := by
  refine okF_iff ?_
  refine of_defN rfl ?_
  simp only [b_wants, os_seq, os_skip, os_brk, os_cont, os_retN, os_drop, os_ret, os_retA, os_set, os_setA, os_if, os_asg, os_par, os_aug, os_put, os_augP, os_for, ok_var, ok_c, ok_nil, ok_cons, ok_tup, ok_lst, ok_new, ok_tst, ok_andT, ok_orT, ok_notT, ok_and, ok_or, ok_not, ok_if, ok_op, ok_un, ok_cl, ok_clF, ok_call, ok_mk, ok_noPart, ok_part, ok_cut, ok_mt, ok_chain, ok_it, ok_range1, ok_range2, ok_lc, ok_yes, out_some, out_none, out_add, out_sub, out_neg, out_le, out_gt, out_ge, out_lt, out_eqI, out_neI, out_int, out_abs, out_gcd, List.map_cons, List.map_nil, List.length_cons, List.length_nil, List.replicate, List.cons_append, List.nil_append, List.append_nil, List.getElem?_cons_zero, List.getElem?_cons_succ, List.set_cons_zero, List.set_cons_succ, PV.bl.injEq, PV.int.injEq, PV.str.injEq, exists_eq_left', exists_eq_left, and_true, true_and, if_true, if_false, Bool.false_eq_true, Bool.true_eq_false, decide_eq_true_eq, Nat.sub_self, Nat.reduceAdd, Nat.reduceSub, Nat.reduceLeDiff, List.cons.injEq, k_lot_of hD hr, in_t]
theorem k_rounds_with {p : Str} : OkF f_rounds_with [pvD D, .str p] st Q ↔ Q (.tup ((D.rs.filter fun r => decide (p ∈ r.lot)).map fun r => .str r.name)) st := by
  refine okF_iff ?_
  refine of_defN rfl ?_
  simp only [b_rounds_with, os_seq, os_skip, os_brk, os_cont, os_retN, os_drop, os_ret, os_retA, os_set, os_setA, os_if, os_asg, os_par, os_aug, os_put, os_augP, os_for, ok_var, ok_c, ok_nil, ok_cons, ok_tup, ok_lst, ok_new, ok_tst, ok_andT, ok_orT, ok_notT, ok_and, ok_or, ok_not, ok_if, ok_op, ok_un, ok_cl, ok_clF, ok_call, ok_mk, ok_noPart, ok_part, ok_cut, ok_mt, ok_chain, ok_it, ok_range1, ok_range2, ok_lc, ok_yes, out_some, out_none, out_add, out_sub, out_neg, out_le, out_gt, out_ge, out_lt, out_eqI, out_neI, out_int, out_abs, out_gcd, List.map_cons, List.map_nil, List.length_cons, List.length_nil, List.replicate, List.cons_append, List.nil_append, List.append_nil, List.getElem?_cons_zero, List.getElem?_cons_succ, List.set_cons_zero, List.set_cons_succ, PV.bl.injEq, PV.int.injEq, PV.str.injEq, exists_eq_left', exists_eq_left, and_true, true_and, if_true, if_false, Bool.false_eq_true, Bool.true_eq_false, decide_eq_true_eq, Nat.sub_self, Nat.reduceAdd, Nat.reduceSub, Nat.reduceLeDiff, List.cons.injEq, pvD, ixD1, it_t, wipeM]
  rw [comp_of (f := pvRnd) (p := fun r => decide (p ∈ r.lot)) (g := fun r => .str r.name) chk_none D.rs fun r _ => ⟨ok_eq (by simp only [os_seq, os_skip, os_brk, os_cont, os_retN, os_drop, os_ret, os_retA, os_set, os_setA, os_if, os_asg, os_par, os_aug, os_put, os_augP, os_for, ok_var, ok_c, ok_nil, ok_cons, ok_tup, ok_lst, ok_new, ok_tst, ok_andT, ok_orT, ok_notT, ok_and, ok_or, ok_not, ok_if, ok_op, ok_un, ok_cl, ok_clF, ok_call, ok_mk, ok_noPart, ok_part, ok_cut, ok_mt, ok_chain, ok_it, ok_range1, ok_range2, ok_lc, ok_yes, out_some, out_none, out_add, out_sub, out_neg, out_le, out_gt, out_ge, out_lt, out_eqI, out_neI, out_int, out_abs, out_gcd, List.map_cons, List.map_nil, List.length_cons, List.length_nil, List.replicate, List.cons_append, List.nil_append, List.append_nil, List.getElem?_cons_zero, List.getElem?_cons_succ, List.set_cons_zero, List.set_cons_succ, PV.bl.injEq, PV.int.injEq, PV.str.injEq, exists_eq_left', exists_eq_left, and_true, true_and, if_true, if_false, Bool.false_eq_true, Bool.true_eq_false, decide_eq_true_eq, Nat.sub_self, Nat.reduceAdd, Nat.reduceSub, Nat.reduceLeDiff, List.cons.injEq, pvRnd, ixD1, in_t]), fun _ => ok_eq (by simp only [os_seq, os_skip, os_brk, os_cont, os_retN, os_drop, os_ret, os_retA, os_set, os_setA, os_if, os_asg, os_par, os_aug, os_put, os_augP, os_for, ok_var, ok_c, ok_nil, ok_cons, ok_tup, ok_lst, ok_new, ok_tst, ok_andT, ok_orT, ok_notT, ok_and, ok_or, ok_not, ok_if, ok_op, ok_un, ok_cl, ok_clF, ok_call, ok_mk, ok_noPart, ok_part, ok_cut, ok_mt, ok_chain, ok_it, ok_range1, ok_range2, ok_lc, ok_yes, out_some, out_none, out_add, out_sub, out_neg, out_le, out_gt, out_ge, out_lt, out_eqI, out_neI, out_int, out_abs, out_gcd, List.map_cons, List.map_nil, List.length_cons, List.length_nil, List.replicate, List.cons_append, List.nil_append, List.append_nil, List.getElem?_cons_zero, List.getElem?_cons_succ, List.set_cons_zero, List.set_cons_succ, PV.bl.injEq, PV.int.injEq, PV.str.injEq, exists_eq_left', exists_eq_left, and_true, true_and, if_true, if_false, Bool.false_eq_true, Bool.true_eq_false, decide_eq_true_eq, Nat.sub_self, Nat.reduceAdd, Nat.reduceSub, Nat.reduceLeDiff, List.cons.injEq, pvRnd, ixD0])⟩, out_some]
  simp only [tuple_l, out_some, and_true]
def deeds (D : Dl) : List PV := D.rs.flatMap fun r => r.res.map fun e => .tup [.str r.name, .str e.1]
theorem deeds_len (hD : DlOk D) : (deeds D).length ≤ 100 := by
  have : ∀ rs : List Rnd, (∀ r ∈ rs, r.res.length ≤ 4) → (rs.flatMap fun r => r.res.map fun e => PV.tup [.str r.name, .str e.1]).length ≤ 4 * rs.length := fun rs => by
    induction rs with
    | nil => intro _; simp
    | cons r rs ih =>
      intro h
      have h1 := ih fun r hr => h r (List.mem_cons_of_mem _ hr)
      have h2 := h r List.mem_cons_self
      rw [List.flatMap_cons, List.length_append, List.length_map, List.length_cons]
      omega
  have h1 := this D.rs fun r hr => (hD.rnd r hr).rlen
  have h2 := hD.len
  unfold deeds
  omega
theorem k_all_deeds (hD : DlOk D) : OkF f_all_deeds [pvD D] st Q ↔ Q (.tup (deeds D)) st := by
  refine okF_iff ?_
  refine of_defN rfl ?_
  simp only [b_all_deeds, os_seq, os_skip, os_brk, os_cont, os_retN, os_drop, os_ret, os_retA, os_set, os_setA, os_if, os_asg, os_par, os_aug, os_put, os_augP, os_for, ok_var, ok_c, ok_nil, ok_cons, ok_tup, ok_lst, ok_new, ok_tst, ok_andT, ok_orT, ok_notT, ok_and, ok_or, ok_not, ok_if, ok_op, ok_un, ok_cl, ok_clF, ok_call, ok_mk, ok_noPart, ok_part, ok_cut, ok_mt, ok_chain, ok_it, ok_range1, ok_range2, ok_lc, ok_yes, out_some, out_none, out_add, out_sub, out_neg, out_le, out_gt, out_ge, out_lt, out_eqI, out_neI, out_int, out_abs, out_gcd, List.map_cons, List.map_nil, List.length_cons, List.length_nil, List.replicate, List.cons_append, List.nil_append, List.append_nil, List.getElem?_cons_zero, List.getElem?_cons_succ, List.set_cons_zero, List.set_cons_succ, PV.bl.injEq, PV.int.injEq, PV.str.injEq, exists_eq_left', exists_eq_left, and_true, true_and, if_true, if_false, Bool.false_eq_true, Bool.true_eq_false, decide_eq_true_eq, Nat.sub_self, Nat.reduceAdd, Nat.reduceSub, Nat.reduceLeDiff, List.cons.injEq, pvD, ixD1, it_t, wipeM, os_lc2]
  rw [comp2_of (f := pvRnd) (ys := fun r => r.res) (f1 := pvR) (g := fun r e => .tup [.str r.name, .str e.1]) D.rs fun r _ => ⟨rfl, ok_eq (by
    simp only [os_seq, os_skip, os_brk, os_cont, os_retN, os_drop, os_ret, os_retA, os_set, os_setA, os_if, os_asg, os_par, os_aug, os_put, os_augP, os_for, ok_var, ok_c, ok_nil, ok_cons, ok_tup, ok_lst, ok_new, ok_tst, ok_andT, ok_orT, ok_notT, ok_and, ok_or, ok_not, ok_if, ok_op, ok_un, ok_cl, ok_clF, ok_call, ok_mk, ok_noPart, ok_part, ok_cut, ok_mt, ok_chain, ok_it, ok_range1, ok_range2, ok_lc, ok_yes, out_some, out_none, out_add, out_sub, out_neg, out_le, out_gt, out_ge, out_lt, out_eqI, out_neI, out_int, out_abs, out_gcd, List.map_cons, List.map_nil, List.length_cons, List.length_nil, List.replicate, List.cons_append, List.nil_append, List.append_nil, List.getElem?_cons_zero, List.getElem?_cons_succ, List.set_cons_zero, List.set_cons_succ, PV.bl.injEq, PV.int.injEq, PV.str.injEq, exists_eq_left', exists_eq_left, and_true, true_and, if_true, if_false, Bool.false_eq_true, Bool.true_eq_false, decide_eq_true_eq, Nat.sub_self, Nat.reduceAdd, Nat.reduceSub, Nat.reduceLeDiff, List.cons.injEq, pvRnd, ixD3, it_t]), by
    rw [comp_of (f := pvR) (p := fun _ => true) (g := fun e => .tup [.str r.name, .str e.1]) chk_none r.res fun e _ => ⟨rfl, fun _ => ok_eq (by simp only [os_seq, os_skip, os_brk, os_cont, os_retN, os_drop, os_ret, os_retA, os_set, os_setA, os_if, os_asg, os_par, os_aug, os_put, os_augP, os_for, ok_var, ok_c, ok_nil, ok_cons, ok_tup, ok_lst, ok_new, ok_tst, ok_andT, ok_orT, ok_notT, ok_and, ok_or, ok_not, ok_if, ok_op, ok_un, ok_cl, ok_clF, ok_call, ok_mk, ok_noPart, ok_part, ok_cut, ok_mt, ok_chain, ok_it, ok_range1, ok_range2, ok_lc, ok_yes, out_some, out_none, out_add, out_sub, out_neg, out_le, out_gt, out_ge, out_lt, out_eqI, out_neI, out_int, out_abs, out_gcd, List.map_cons, List.map_nil, List.length_cons, List.length_nil, List.replicate, List.cons_append, List.nil_append, List.append_nil, List.getElem?_cons_zero, List.getElem?_cons_succ, List.set_cons_zero, List.set_cons_succ, PV.bl.injEq, PV.int.injEq, PV.str.injEq, exists_eq_left', exists_eq_left, and_true, true_and, if_true, if_false, Bool.false_eq_true, Bool.true_eq_false, decide_eq_true_eq, Nat.sub_self, Nat.reduceAdd, Nat.reduceSub, Nat.reduceLeDiff, List.cons.injEq, pvR, pvRnd, ixD0, wipeM, sl (show 2 ≤ 1000 by decide)])⟩, filt]⟩, out_some]
  have := deeds_len hD
  refine ⟨small_line (by show (deeds D).length ≤ 1000; omega), ?_⟩
  simp only [tuple_l, out_some, and_true]
  rfl
end
end K04

/-! K04c: nexts; alike (plain). -/
namespace K04
open PySem PySem.Spec PyProof.Rows L2 Mi Ge
section
variable {D : Dl} {st : Sto} {Q : PV → Sto → Prop}
theorem okF_iff2 {f : FnM} {xs : List PV} {st s' : Sto} {a : PV} (h : OkF f xs st fun v s => v = a ∧ s = s') {Q : PV → Sto → Prop} : OkF f xs st Q ↔ Q a s' := by
  obtain ⟨v, s, e, rfl, rfl⟩ := h
  unfold OkF
  rw [e]
  exact ex_ok
/-! ### dicts of texts -/
theorem getA_nodup {β : Type} {es : List (Str × β)} {k : Str} {v : β} (hn : (es.map (·.1)).Nodup) (h : (k, v) ∈ es) : getA es k = some v := by
  obtain ⟨y, h1, h2⟩ := getA_some (List.mem_map.mpr ⟨_, h, rfl⟩ : k ∈ es.map (·.1))
  have : y = v := by
    induction es with
    | nil => cases h
    | cons e es ih =>
      rw [List.map_cons, List.nodup_cons] at hn
      rcases List.mem_cons.mp h with rfl | h'
      · rcases List.mem_cons.mp h2 with e2 | h2'
        · cases e2; rfl
        · exact absurd (List.mem_map.mpr ⟨_, h2', rfl⟩) hn.1
      · rcases List.mem_cons.mp h2 with rfl | h2'
        · exact absurd (List.mem_map.mpr ⟨_, h', rfl⟩) hn.1
        · have h1' : getA es k = some y := by
            have ne : ¬ e.1 = k := fun q => hn.1 (q ▸ List.mem_map.mpr ⟨_, h', rfl⟩)
            unfold getA at h1 ⊢
            rw [List.find?_cons] at h1
            simp only [ne, decide_false] at h1
            exact h1
          exact ih hn.2 h' h1' h2'
  rw [h1, this]
theorem eq_of_keys {es : List (Str × Str)} (hn : (es.map (·.1)).Nodup) : (es.map (·.1)).map (fun k => (k, (getA es k).getD "")) = es := by
  rw [List.map_map]
  have : ∀ e ∈ es, ((fun k => (k, (getA es k).getD "")) ∘ (·.1)) e = e := fun e he => by
    show (e.1, (getA es e.1).getD "") = e
    rw [getA_nodup (v := e.2) hn he]
    rfl
  rw [List.map_congr_left this]
  exact List.map_id' _
theorem sameD_self {es : List (Str × Str)} (hn : (es.map (·.1)).Nodup) : sameD (mapD .str es) (mapD .str es) = true := by
  unfold sameD
  simp only [beq_self_eq_true, Bool.true_and, List.all_eq_true]
  intro p hp
  obtain ⟨e, he, rfl⟩ := List.mem_map.mp hp
  have h1 : getA es e.1 = some e.2 := getA_nodup hn he
  simp only [inD, Mi.keyOf, valP_mapD, h1, Option.map_some, sameF, decide_true]
theorem datD_map : ∀ es : List (Str × Str), datD (mapD .str es) = some (es.map fun e => (PyData.str e.1, PyData.str e.2))
  | [] => rfl
  | e :: es => by
    have ih := datD_map es
    simp only [mapD, List.map_cons, datD, Mi.keyOf, flatP] at *
    rw [ih]
    rfl
theorem shows_dict {es : List (Str × Str)} (h : ∀ e ∈ es, Nmk e.1 ∧ Nmk e.2) (hl : es.length ≤ 100) : shows (.dict (es.map fun e => (PyData.str e.1, PyData.str e.2))) = true := by
  have key : ∀ es : List (Str × Str), (∀ e ∈ es, Nmk e.1 ∧ Nmk e.2) → PyData.showableKv (es.map fun e => (PyData.str e.1, PyData.str e.2)) = true ∧ PyData.leavesShortKv 8 (es.map fun e => (PyData.str e.1, PyData.str e.2)) = true ∧ PyData.weightKv (es.map fun e => (PyData.str e.1, PyData.str e.2)) ≤ 18 * es.length ∧ PyData.depthKv (es.map fun e => (PyData.str e.1, PyData.str e.2)) ≤ 1 := fun es => by
    induction es with
    | nil => intro _; exact ⟨rfl, rfl, Nat.le_refl _, Nat.zero_le _⟩
    | cons e es ih =>
      intro h
      obtain ⟨a, b, c, d⟩ := ih fun x hx => h x (List.mem_cons_of_mem _ hx)
      obtain ⟨n1, n2⟩ := h e List.mem_cons_self
      have s1 := sm_str n1
      have s2 := sm_str n2
      refine ⟨by simp only [List.map_cons, PyData.showableKv, s1.sh, s2.sh, a, Bool.and_self], by simp only [List.map_cons, PyData.leavesShortKv, s1.lv, s2.lv, b, Bool.and_self], ?_, ?_⟩
      · simp only [List.map_cons, PyData.weightKv, List.length_cons]
        have := s1.w
        have := s2.w
        omega
      · simp only [List.map_cons, PyData.depthKv]
        have := s1.dp
        have := s2.dp
        omega
  obtain ⟨a, b, c, d⟩ := key es h
  have h3 : (PyData.dict (es.map fun e => (PyData.str e.1, PyData.str e.2))).shown.length ≤ sizeLine := PyData.shown_fits (B := 8) (by decide) (by decide) (by simpa only [PyData.leavesShort] using b) (by
    simp only [PyData.weight]
    have : (2 : Nat) ^ 20 = 1048576 := by decide
    omega)
  unfold shows
  simp only [PyData.showable, a, Bool.true_and, Bool.and_eq_true, decide_eq_true_eq]
  refine ⟨?_, h3⟩
  simp only [PyData.depth]
  omega
/-! ### alike -/
theorem k_alike {x : PV} {d : PyData} {k h : Nat} (hx : dataV st x = some d) (hd : dictOf st x = none) (hs : Sm d k h) (h1 : k ≤ 2 ^ 20) (h2 : h ≤ 64) : OkF f__law_alike [x, x] st Q ↔ Q (.bl true) st := by
  refine okF_iff ?_
  refine of_defN rfl ?_
  have hsh := hs.shows h1 h2
  have h64 : deep64 d = true := by
    simp only [shows, Bool.and_eq_true] at hsh
    exact hsh.1.2
  have hu : unlike st x x = false := by
    unfold unlike
    split
    · rename_i xs ys e1 e2
      rw [e1] at e2
      cases e2
      simp
    · rfl
  have hb : bothD st x x = none := by simp only [bothD, hd]
  have e1 : oEqX x x st = some (.bl true) := by
    unfold oEqX
    rw [hb]
    show oEq x x st = _
    unfold oEq oEqB
    simp only [hu, hx, h64, Bool.and_true, if_true, Bool.false_eq_true, if_false, Option.map_some, PySem.SeqAt.eqv_refl_plain d hs.pl]
  have e2 : oReprX [x] st = some (.str d.shown) := by
    simp only [oReprX, hd, oRepr, hx, hsh, if_true]
  have e4 : oEqX (.str d.shown) (.str d.shown) st = some (.bl true) := by
    have hb : bothD st (.str d.shown) (.str d.shown) = none := rfl
    unfold oEqX
    rw [hb]
    show oEq _ _ _ = _
    rw [Ge.eq_str]
    simp
  simp only [b__law_alike, os_seq, os_skip, os_brk, os_cont, os_retN, os_drop, os_ret, os_retA, os_set, os_setA, os_if, os_asg, os_par, os_aug, os_put, os_augP, os_for, ok_var, ok_c, ok_nil, ok_cons, ok_tup, ok_lst, ok_new, ok_tst, ok_andT, ok_orT, ok_notT, ok_and, ok_or, ok_not, ok_if, ok_op, ok_un, ok_cl, ok_clF, ok_call, ok_mk, ok_noPart, ok_part, ok_cut, ok_mt, ok_chain, ok_it, ok_range1, ok_range2, ok_lc, ok_yes, out_some, out_none, out_add, out_sub, out_neg, out_le, out_gt, out_ge, out_lt, out_eqI, out_neI, out_int, out_abs, out_gcd, List.map_cons, List.map_nil, List.length_cons, List.length_nil, List.replicate, List.cons_append, List.nil_append, List.append_nil, List.getElem?_cons_zero, List.getElem?_cons_succ, List.set_cons_zero, List.set_cons_succ, PV.bl.injEq, PV.int.injEq, PV.str.injEq, exists_eq_left', exists_eq_left, and_true, true_and, if_true, if_false, Bool.false_eq_true, Bool.true_eq_false, decide_eq_true_eq, Nat.sub_self, Nat.reduceAdd, Nat.reduceSub, Nat.reduceLeDiff, List.cons.injEq, e1, e2, e4]
theorem k_alikeD {a b : Nat} {es : List (Str × Str)} (ha : st[a]? = some (.dic (mapD .str es))) (hb : st[b]? = some (.dic (mapD .str es))) (hn : (es.map (·.1)).Nodup) (hz : ∀ e ∈ es, Nmk e.1 ∧ Nmk e.2) (hl : es.length ≤ 100) :
    OkF f__law_alike [.ref a, .ref b] st Q ↔ Q (.bl true) st := by
  refine okF_iff ?_
  refine of_defN rfl ?_
  have da : dictOf st (.ref a) = some (mapD .str es) := by simp only [dictOf, ha]
  have db : dictOf st (.ref b) = some (mapD .str es) := by simp only [dictOf, hb]
  have e1 : oEqX (.ref a) (.ref b) st = some (.bl true) := by
    simp only [oEqX, bothD, da, db, sameD_self hn, if_true]
  have e2 : ∀ c, dictOf st (.ref c) = some (mapD .str es) → oReprX [.ref c] st = some (.str (PyData.dict (es.map fun e => (PyData.str e.1, PyData.str e.2))).shown) := fun c hc => by
    simp only [oReprX, hc, datD_map, shows_dict hz hl, if_true]
  have e4 : ∀ z, oEqX (.str z) (.str z) st = some (.bl true) := fun z => by
    have hb : bothD st (.str z) (.str z) = none := rfl
    unfold oEqX
    rw [hb]
    show oEq _ _ _ = _
    rw [Ge.eq_str]
    simp
  simp only [b__law_alike, os_seq, os_skip, os_brk, os_cont, os_retN, os_drop, os_ret, os_retA, os_set, os_setA, os_if, os_asg, os_par, os_aug, os_put, os_augP, os_for, ok_var, ok_c, ok_nil, ok_cons, ok_tup, ok_lst, ok_new, ok_tst, ok_andT, ok_orT, ok_notT, ok_and, ok_or, ok_not, ok_if, ok_op, ok_un, ok_cl, ok_clF, ok_call, ok_mk, ok_noPart, ok_part, ok_cut, ok_mt, ok_chain, ok_it, ok_range1, ok_range2, ok_lc, ok_yes, out_some, out_none, out_add, out_sub, out_neg, out_le, out_gt, out_ge, out_lt, out_eqI, out_neI, out_int, out_abs, out_gcd, List.map_cons, List.map_nil, List.length_cons, List.length_nil, List.replicate, List.cons_append, List.nil_append, List.append_nil, List.getElem?_cons_zero, List.getElem?_cons_succ, List.set_cons_zero, List.set_cons_succ, PV.bl.injEq, PV.int.injEq, PV.str.injEq, exists_eq_left', exists_eq_left, and_true, true_and, if_true, if_false, Bool.false_eq_true, Bool.true_eq_false, decide_eq_true_eq, Nat.sub_self, Nat.reduceAdd, Nat.reduceSub, Nat.reduceLeDiff, List.cons.injEq, e1, e2 a da, e2 b db, e4]
theorem neX_str {z : Str} : oNeX (.str z) (.str z) st = some (.bl false) := by
  have hb : bothD st (.str z) (.str z) = none := rfl
  unfold oNeX
  rw [hb]
  show oNe _ _ _ = _
  rw [Ge.ne_str]
  simp
theorem neX_dict {a b : PV} {es : List (Str × Str)} (ha : dictOf st a = some (mapD .str es)) (hb : dictOf st b = some (mapD .str es)) (hn : (es.map (·.1)).Nodup) : oNeX a b st = some (.bl false) := by
  simp only [oNeX, bothD, ha, hb, sameD_self hn, if_true]
/-! ### nexts -/
theorem dictT_pairs {β : Type} {f : β → PV} {es : List (Str × β)} (h : (es.map (·.1)).Nodup) : oDictT [.tup (es.map fun e => PV.tup [.str e.1, f e.2])] st = some (mapD f es) := by
  show (Mi.pairsOf _).map (mergeP []) = _
  rw [Mi.pairsOf_map, Option.map_some]
  have := mergeP_mapD f es []
  rw [mergeA_new (by simpa using h)] at this
  rw [show mergeP [] (mapD f es) = mapD f ([] ++ es) from this]
  rfl
theorem words_nodup (hD : DlOk D) {r : Rnd} (hr : r ∈ D.rs) : (r.res.map (·.1)).Nodup := (hD.rnd r hr).rsrt.nodup
theorem nex_nodup (hD : DlOk D) {r : Rnd} (hr : r ∈ D.rs) {e : Str × List (Str × Str)} (he : e ∈ r.res) : (e.2.map (·.1)).Nodup := by
  rw [(hD.rnd r hr).keys e he]
  exact (hD.rnd r hr).srt.nodup
def fR (ns : List (Str × Str)) : PV := .tup (ns.map pvN)
theorem k_nexts_of (hD : DlOk D) {r : Rnd} (hr : r ∈ D.rs) {e : Str × List (Str × Str)} (he : e ∈ r.res) :
    OkF f_nexts_of [pvD D, .str r.name, .str e.1] st Q ↔ Q (.ref (st.length + 1)) (st ++ [.dic (mapD fR r.res)] ++ [.dic (mapD .str e.2)]) := by
  refine okF_iff2 ?_
  refine of_defN rfl ?_
  have e1 : oDictT [.tup (r.res.map pvR)] st = some (mapD fR r.res) := dictT_pairs (f := fR) (words_nodup hD hr)
  have e2 : oIxD (.ref st.length) (.str e.1) (st ++ [.dic (mapD fR r.res)]) = some (fR e.2) := by
    rw [ixD_ref (get_last), getA_nodup (v := e.2) (words_nodup hD hr) he]
    rfl
  have e3 : ∀ st, oDictT [fR e.2] st = some (mapD .str e.2) := fun st => dictT_pairs (f := PV.str) (nex_nodup hD hr he)
  simp only [b_nexts_of, os_seq, os_skip, os_brk, os_cont, os_retN, os_drop, os_ret, os_retA, os_set, os_setA, os_if, os_asg, os_par, os_aug, os_put, os_augP, os_for, ok_var, ok_c, ok_nil, ok_cons, ok_tup, ok_lst, ok_new, ok_tst, ok_andT, ok_orT, ok_notT, ok_and, ok_or, ok_not, ok_if, ok_op, ok_un, ok_cl, ok_clF, ok_call, ok_mk, ok_noPart, ok_part, ok_cut, ok_mt, ok_chain, ok_it, ok_range1, ok_range2, ok_lc, ok_yes, out_some, out_none, out_add, out_sub, out_neg, out_le, out_gt, out_ge, out_lt, out_eqI, out_neI, out_int, out_abs, out_gcd, List.map_cons, List.map_nil, List.length_cons, List.length_nil, List.replicate, List.cons_append, List.nil_append, List.append_nil, List.getElem?_cons_zero, List.getElem?_cons_succ, List.set_cons_zero, List.set_cons_succ, PV.bl.injEq, PV.int.injEq, PV.str.injEq, exists_eq_left', exists_eq_left, and_true, true_and, if_true, if_false, Bool.false_eq_true, Bool.true_eq_false, decide_eq_true_eq, Nat.sub_self, Nat.reduceAdd, Nat.reduceSub, Nat.reduceLeDiff, List.cons.injEq, ok_newD, ok_clD, k_round_at hD hr, pvRnd, ixD3, e1, e2, e3, List.length_append]
theorem k_next_of (hD : DlOk D) {r : Rnd} (hr : r ∈ D.rs) {e : Str × List (Str × Str)} (he : e ∈ r.res) {p : Str} (hp : p ∈ r.lot) :
    OkF f_next_of [pvD D, .str r.name, .str e.1, .str p] st Q ↔ Q (.str ((getA e.2 p).getD "")) (st ++ [.dic (mapD fR r.res)] ++ [.dic (mapD .str e.2)]) := by
  refine okF_iff2 ?_
  refine of_defN rfl ?_
  have e2 : oIxD (.ref (st.length + 1)) (.str p) (st ++ [.dic (mapD fR r.res)] ++ [.dic (mapD .str e.2)]) = some (.str ((getA e.2 p).getD "")) := by
    have : (st ++ [.dic (mapD fR r.res)] ++ [.dic (mapD .str e.2)])[st.length + 1]? = some (.dic (mapD PV.str e.2)) := by
      have := get_last (l := st ++ [.dic (mapD fR r.res)]) (x := MO.dic (mapD .str e.2))
      rwa [List.length_append] at this
    obtain ⟨y, h1, _⟩ := getA_some (es := e.2) (z := p) (by rw [(hD.rnd r hr).keys e he]; exact hp)
    rw [ixD_ref this, h1]
    rfl
  simp only [b_next_of, os_seq, os_skip, os_brk, os_cont, os_retN, os_drop, os_ret, os_retA, os_set, os_setA, os_if, os_asg, os_par, os_aug, os_put, os_augP, os_for, ok_var, ok_c, ok_nil, ok_cons, ok_tup, ok_lst, ok_new, ok_tst, ok_andT, ok_orT, ok_notT, ok_and, ok_or, ok_not, ok_if, ok_op, ok_un, ok_cl, ok_clF, ok_call, ok_mk, ok_noPart, ok_part, ok_cut, ok_mt, ok_chain, ok_it, ok_range1, ok_range2, ok_lc, ok_yes, out_some, out_none, out_add, out_sub, out_neg, out_le, out_gt, out_ge, out_lt, out_eqI, out_neI, out_int, out_abs, out_gcd, List.map_cons, List.map_nil, List.length_cons, List.length_nil, List.replicate, List.cons_append, List.nil_append, List.append_nil, List.getElem?_cons_zero, List.getElem?_cons_succ, List.set_cons_zero, List.set_cons_succ, PV.bl.injEq, PV.int.injEq, PV.str.injEq, exists_eq_left', exists_eq_left, and_true, true_and, if_true, if_false, Bool.false_eq_true, Bool.true_eq_false, decide_eq_true_eq, Nat.sub_self, Nat.reduceAdd, Nat.reduceSub, Nat.reduceLeDiff, List.cons.injEq, k_nexts_of hD hr he, e2]
end
end K04

/-! K04d: the law's own table of a dealing (plain). -/
namespace K04
open PySem PySem.Spec PyProof.Rows L2 Mi Ge
section
variable {D : Dl} {st : Sto}
/-- a loop, whatever its target -/
theorem for_invT {tg : Tg} {it : MIt} {b : MS} {N B C : QN} {R : QV} (I : Nat → QN) (hc : ∀ k env st, I k env st → it.chk st) : ∀ (items : List PV) (k : Nat) (env : MEnv) (st : Sto),
    (∀ j x env st, items[j]? = some x → I (k + j) env st → ∃ env', tgSet tg x st env = some env' ∧ OkS b env' st (I (k + j + 1)) R N (I (k + j + 1))) → (∀ env st, I (k + items.length) env st → N env st) → I k env st → OkS (forL tg it b items) env st N R B C
  | [], k, env, st, _, hn, h0 => by
    unfold OkS forL
    rw [if_pos (hc _ _ _ h0)]
    exact sx_some.mpr (hn env st h0)
  | x :: xs, k, env, st, hb, hn, h0 => by
    obtain ⟨env', et, r, e, q⟩ := hb 0 x env st rfl h0
    have next : ∀ e1 s, I (k + 1) e1 s → OkS (forL tg it b xs) e1 s N R B C := fun e1 s h => for_invT I hc xs (k + 1) e1 s (fun j y env st g g2 => by
      have := hb (j + 1) y env st (by simpa using g) (by rw [show k + (j + 1) = k + 1 + j by omega]; exact g2)
      rw [show k + (j + 1) + 1 = k + 1 + j + 1 by omega] at this
      exact this) (fun env st g => hn env st (by rw [List.length_cons, show k + (xs.length + 1) = k + 1 + xs.length by omega]; exact g)) h
    unfold OkS forL
    rw [if_pos (hc _ _ _ h0)]
    simp only [et, e]
    cases r with
    | next e1 s => exact next e1 s q
    | cont e1 s => exact next e1 s q
    | brk e1 s => exact sx_some.mpr q
    | ret v s => exact sx_some.mpr q
    | exc x e1 s => exact q.elim
def wsOf : List (Str × List (Str × Str)) → Nat → List (Str × Nat)
  | [], _ => []
  | e :: es, n => (e.1, n) :: wsOf es (n + 1)
theorem wsOf_keys : ∀ (rs : List (Str × List (Str × Str))) (n : Nat), (wsOf rs n).map (·.1) = rs.map (·.1)
  | [], _ => rfl
  | e :: es, n => by simp only [wsOf, List.map_cons, wsOf_keys es (n + 1)]
theorem wsOf_mem : ∀ {rs : List (Str × List (Str × Str))} {n : Nat} {e : Str × List (Str × Str)}, e ∈ rs → ∃ i, rs[i]? = some e ∧ (e.1, n + i) ∈ wsOf rs n
  | x :: rs, n, e, h => by
    rcases List.mem_cons.mp h with rfl | h
    · exact ⟨0, rfl, List.mem_cons_self⟩
    · obtain ⟨i, h1, h2⟩ := wsOf_mem (n := n + 1) h
      exact ⟨i + 1, by simpa using h1, by
        rw [show n + (i + 1) = n + 1 + i by omega]
        exact List.mem_cons_of_mem _ h2⟩
def nexO (e : Str × List (Str × Str)) : MO := .dic (mapD .str e.2)
theorem list_t {xs : List PV} : oListD [.tup xs] st = some xs := rfl
theorem comp_tab {all : List PV} {x0 x1 x2 x3 x4 x5 : Option PV} : ∀ (rs : List (Str × List (Str × Str))) (st : Sto), (∀ e ∈ rs, (e.2.map (·.1)).Nodup) →
    compL (.tup [.nm 6, .nm 7]) ⟨all, none⟩ mYes (mTup (mCons (mVar 6) (mCons (mNewD (mClD oDict (mCons (mNew (mClF oListD (mCons (mVar 7) mNil))) mNil))) mNil))) (rs.map pvR) [x0, x1, x2, x3, x4, x5, none, none] st = some ((wsOf rs st.length).map fun e => .tup [.str e.1, .ref e.2], st ++ rs.map nexO)
  | [], st, _ => by
    rw [List.map_nil]
    unfold compL
    rw [if_pos chk_none]
    simp [wsOf]
  | e :: rs, st, h => by
    have next := comp_tab (all := all) (x0 := x0) (x1 := x1) (x2 := x2) (x3 := x3) (x4 := x4) (x5 := x5) rs (st ++ [nexO e]) fun x hx => h x (List.mem_cons_of_mem _ hx)
    have e1 : oDict [.lst (e.2.map pvN)] st = some (mapD .str e.2) := dict_pairs (f := PV.str) (h e List.mem_cons_self)
    have el : (mTup (mCons (mVar 6) (mCons (mNewD (mClD oDict (mCons (mNew (mClF oListD (mCons (mVar 7) mNil))) mNil))) mNil))) [x0, x1, x2, x3, x4, x5, some (.str e.1), some (.tup (e.2.map pvN))] st = some (.ok (.tup [.str e.1, .ref st.length]) (st ++ [nexO e])) := by
      have : OkE (mTup (mCons (mVar 6) (mCons (mNewD (mClD oDict (mCons (mNew (mClF oListD (mCons (mVar 7) mNil))) mNil))) mNil))) [x0, x1, x2, x3, x4, x5, some (.str e.1), some (.tup (e.2.map pvN))] st fun v s => v = .tup [.str e.1, .ref st.length] ∧ s = st ++ [nexO e] := by
        simp only [os_seq, os_skip, os_brk, os_cont, os_retN, os_drop, os_ret, os_retA, os_set, os_setA, os_if, os_asg, os_par, os_aug, os_put, os_augP, os_for, ok_var, ok_c, ok_nil, ok_cons, ok_tup, ok_lst, ok_new, ok_tst, ok_andT, ok_orT, ok_notT, ok_and, ok_or, ok_not, ok_if, ok_op, ok_un, ok_cl, ok_clF, ok_call, ok_mk, ok_noPart, ok_part, ok_cut, ok_mt, ok_chain, ok_it, ok_range1, ok_range2, ok_lc, ok_yes, out_some, out_none, out_add, out_sub, out_neg, out_le, out_gt, out_ge, out_lt, out_eqI, out_neI, out_int, out_abs, out_gcd, List.map_cons, List.map_nil, List.length_cons, List.length_nil, List.replicate, List.cons_append, List.nil_append, List.append_nil, List.getElem?_cons_zero, List.getElem?_cons_succ, List.set_cons_zero, List.set_cons_succ, PV.bl.injEq, PV.int.injEq, PV.str.injEq, exists_eq_left', exists_eq_left, and_true, true_and, if_true, if_false, Bool.false_eq_true, Bool.true_eq_false, decide_eq_true_eq, Nat.sub_self, Nat.reduceAdd, Nat.reduceSub, Nat.reduceLeDiff, List.cons.injEq, ok_newD, ok_clD, list_t, e1, nexO, sl (show 2 ≤ 1000 by decide)]
      obtain ⟨v, s, q, rfl, rfl⟩ := this
      exact q
    rw [List.map_cons]
    unfold compL
    rw [if_pos chk_none]
    have et : tgSet (.tup [.nm 6, .nm 7]) (pvR e) st [x0, x1, x2, x3, x4, x5, none, none] = some [x0, x1, x2, x3, x4, x5, some (.str e.1), some (.tup (e.2.map pvN))] := rfl
    have ey : ∀ (env : MEnv) (st : Sto), mYes env st = some (.ok true st) := fun _ _ => rfl
    simp only [et, ey, el, next, Option.map_some, wsOf, List.map_cons, List.length_append, List.append_assoc, List.singleton_append, List.length_singleton]
/-- the row of a round in the law's table -/
def RowAt (s : Sto) (t l : Nat) (r : Rnd) (d : Nat) : Prop := l ≠ t ∧ d ≠ t ∧ s[l]? = some (.lst [.tup (r.lot.map .str), .str r.ch, .ref d]) ∧
  ∃ ws : List (Str × Nat), s[d]? = some (.dic (mapD .ref ws)) ∧ ws.map (·.1) = r.res.map (·.1) ∧ ∀ e ∈ r.res, ∃ n, getA ws e.1 = some n ∧ n ≠ t ∧ n ≠ d ∧ s[n]? = some (.dic (mapD .str e.2))
theorem RowAt.mono {s s' : Sto} {t l d : Nat} {r : Rnd} (h : RowAt s t l r d) (k : ∀ i o, i ≠ t → s[i]? = some o → s'[i]? = some o) : RowAt s' t l r d := by
  obtain ⟨h1, h2, h3, ws, h4, h5, h6⟩ := h
  refine ⟨h1, h2, k _ _ h1 h3, ws, k _ _ h2 h4, h5, fun e he => ?_⟩
  obtain ⟨n, g1, g2, g3, g4⟩ := h6 e he
  exact ⟨n, g1, g2, g3, k _ _ g2 g4⟩
/-- the law's table -/
def TabAt (s : Sto) (t : Nat) (rs : List Rnd) : Prop := ∃ es : List (Str × Nat), s[t]? = some (.dic (mapD .ref es)) ∧ es.map (·.1) = rs.map (·.name) ∧ ∀ r ∈ rs, ∃ l d, getA es r.name = some l ∧ RowAt s t l r d
def IvTb (D : Dl) (st : Sto) (k : Nat) (e : MEnv) (s : Sto) : Prop :=
  ∃ x2 x3 x4 x5 x6 x7, e = [some (pvD D), some (.ref st.length), x2, x3, x4, x5, x6, x7] ∧ TabAt s st.length (D.rs.take k) ∧ (∀ i, i < st.length → s[i]? = st[i]?) ∧ st.length < s.length
theorem get_pre {s j : Sto} {i : Nat} {o : MO} (h : s[i]? = some o) : (s ++ j)[i]? = some o := by
  obtain ⟨h1, _⟩ := List.getElem?_eq_some_iff.mp h
  rw [List.getElem?_append_left h1]; exact h
theorem k_table (hD : DlOk D) : OkF f__law_table [pvD D] st fun v s => v = .ref st.length ∧ TabAt s st.length D.rs ∧ (∀ i, i < st.length → s[i]? = st[i]?) ∧ st.length < s.length := by
  refine of_defN rfl ?_
  have e0 : ∀ st, oIxD (pvD D) (.int 1) st = some (.tup (D.rs.map pvRnd)) := fun st => ixD1
  have hlen := hD.len
  simp only [b__law_table, os_seq, os_skip, os_brk, os_cont, os_retN, os_drop, os_ret, os_retA, os_set, os_setA, os_if, os_asg, os_par, os_aug, os_put, os_augP, os_for, ok_var, ok_c, ok_nil, ok_cons, ok_tup, ok_lst, ok_new, ok_tst, ok_andT, ok_orT, ok_notT, ok_and, ok_or, ok_not, ok_if, ok_op, ok_un, ok_cl, ok_clF, ok_call, ok_mk, ok_noPart, ok_part, ok_cut, ok_mt, ok_chain, ok_it, ok_range1, ok_range2, ok_lc, ok_yes, out_some, out_none, out_add, out_sub, out_neg, out_le, out_gt, out_ge, out_lt, out_eqI, out_neI, out_int, out_abs, out_gcd, List.map_cons, List.map_nil, List.length_cons, List.length_nil, List.replicate, List.cons_append, List.nil_append, List.append_nil, List.getElem?_cons_zero, List.getElem?_cons_succ, List.set_cons_zero, List.set_cons_succ, PV.bl.injEq, PV.int.injEq, PV.str.injEq, exists_eq_left', exists_eq_left, and_true, true_and, if_true, if_false, Bool.false_eq_true, Bool.true_eq_false, decide_eq_true_eq, Nat.sub_self, Nat.reduceAdd, Nat.reduceSub, Nat.reduceLeDiff, List.cons.injEq, ok_newD, ok_dic0, e0, it_t]
  refine for_invT (IvTb D st) (fun k env st' h => chk_none) (D.rs.map pvRnd) 0 _ _ ?_ ?_ ⟨none, none, none, none, none, none, rfl, ⟨[], get_last, by simp, fun r hr => (by simp at hr)⟩, fun i hi => List.getElem?_append_left hi, by simp⟩
  · rintro j v e s hv ⟨x2, x3, x4, x5, x6, x7, rfl, ⟨es, i1, i2, i3⟩, i4, i5⟩
    rw [List.getElem?_map, Option.map_eq_some_iff] at hv
    obtain ⟨r, hr, rfl⟩ := hv
    rw [Nat.zero_add] at *
    have hrm := List.mem_of_getElem? hr
    refine ⟨_, rfl, ?_⟩
    simp only [os_putD, ok_newA, ok_newD, ok_clD, os_seq, os_skip, os_brk, os_cont, os_retN, os_drop, os_ret, os_retA, os_set, os_setA, os_if, os_asg, os_par, os_aug, os_put, os_augP, os_for, ok_var, ok_c, ok_nil, ok_cons, ok_tup, ok_lst, ok_new, ok_tst, ok_andT, ok_orT, ok_notT, ok_and, ok_or, ok_not, ok_if, ok_op, ok_un, ok_cl, ok_clF, ok_call, ok_mk, ok_noPart, ok_part, ok_cut, ok_mt, ok_chain, ok_it, ok_range1, ok_range2, ok_lc, ok_yes, out_some, out_none, out_add, out_sub, out_neg, out_le, out_gt, out_ge, out_lt, out_eqI, out_neI, out_int, out_abs, out_gcd, List.map_cons, List.map_nil, List.length_cons, List.length_nil, List.replicate, List.cons_append, List.nil_append, List.append_nil, List.getElem?_cons_zero, List.getElem?_cons_succ, List.set_cons_zero, List.set_cons_succ, PV.bl.injEq, PV.int.injEq, PV.str.injEq, exists_eq_left', exists_eq_left, and_true, true_and, if_true, if_false, Bool.false_eq_true, Bool.true_eq_false, decide_eq_true_eq, Nat.sub_self, Nat.reduceAdd, Nat.reduceSub, Nat.reduceLeDiff, List.cons.injEq, it_t, wipeM]
    rw [comp_tab (all := r.res.map pvR) r.res s fun e he => nex_nodup hD hrm he, out_some]
    have e1 : ∀ st, oDict [.lst ((wsOf r.res s.length).map fun e => .tup [.str e.1, .ref e.2])] st = some (mapD .ref (wsOf r.res s.length)) := fun st => dict_pairs (f := PV.ref) (by rw [wsOf_keys]; exact words_nodup hD hrm)
    simp only [e1, out_some, sl (show 3 ≤ 1000 by decide), true_and]
    generalize hs1 : s ++ r.res.map nexO = s1
    have k1 : ∀ (i : Nat) (o : MO), s[i]? = some o → s1[i]? = some o := fun i o e => by rw [← hs1]; exact get_pre e
    have hnew : r.name ∉ es.map (·.1) := by
      rw [i2]
      intro k
      obtain ⟨r', hr', e⟩ := List.mem_map.mp k
      obtain ⟨hj, ej⟩ := List.getElem?_eq_some_iff.mp hr
      obtain ⟨i, hi, ei⟩ := List.mem_take_iff_getElem.mp hr'
      have hi' : i < D.rs.length := by omega
      have hij : i < j := by omega
      have h1 : (D.rs.map (·.name))[i]'(by rw [List.length_map]; exact hi') = (D.rs.map (·.name))[j]'(by rw [List.length_map]; exact hj) := by
        rw [List.getElem_map, List.getElem_map, ei, ej, e]
      have := (List.getElem_inj hD.srt.nodup).mp h1
      omega
    have hes : es.length ≤ 24 := by
      have := congrArg List.length i2
      rw [List.length_map, List.length_map, List.length_take] at this
      omega
    have hlt : st.length < s1.length := by rw [← hs1, List.length_append]; omega
    have a1 : (s1 ++ [.dic (mapD .ref (wsOf r.res s.length))] ++ [.lst [.tup (r.lot.map .str), .str r.ch, .ref s1.length]])[st.length]? = some (.dic (mapD .ref es)) := get_pre (get_pre (k1 _ _ i1))
    rw [putD_ref (f := PV.ref) a1 (by omega), out_some, putA_new hnew]
    generalize hs3 : s1 ++ [.dic (mapD .ref (wsOf r.res s.length))] ++ [.lst [.tup (r.lot.map .str), .str r.ch, .ref s1.length]] = s3 at a1
    have hlt3 : st.length < s3.length := (List.getElem?_eq_some_iff.mp a1).1
    have k3 : ∀ (i : Nat) (o : MO), i ≠ st.length → s3[i]? = some o → (s3.set st.length (.dic (mapD .ref (es ++ [(r.name, (s1 ++ [MO.dic (mapD .ref (wsOf r.res s.length))]).length)]))))[i]? = some o := fun i o hi e => by
      rw [List.getElem?_set_ne fun k => hi k.symm]; exact e
    have k13 : ∀ (i : Nat) (o : MO), s1[i]? = some o → s3[i]? = some o := fun i o e => by rw [← hs3]; exact get_pre (get_pre e)
    refine ⟨_, _, _, _, _, _, rfl, ⟨es ++ [(r.name, (s1 ++ [MO.dic (mapD .ref (wsOf r.res s.length))]).length)], List.getElem?_set_self hlt3, ?_, fun r' hr' => ?_⟩, fun i hi => ?_, by rw [List.length_set]; exact hlt3⟩
    · rw [List.map_append, i2, List.take_succ, hr, List.map_append]; rfl
    · rw [List.take_succ, hr] at hr'
      rcases List.mem_append.mp hr' with hr' | hr'
      · obtain ⟨l, d, g1, g2⟩ := i3 r' hr'
        exact ⟨l, d, getA_append g1, g2.mono fun i o hi e => k3 i o hi (k13 i o (k1 i o e))⟩
      · simp only [Option.toList_some, List.mem_singleton] at hr'
        subst hr'
        have hl2 : (s1 ++ [MO.dic (mapD .ref (wsOf r'.res s.length))]).length = s1.length + 1 := by rw [List.length_append]; rfl
        refine ⟨(s1 ++ [MO.dic (mapD .ref (wsOf r'.res s.length))]).length, s1.length, ?_, by rw [hl2]; omega, by omega, ?_, wsOf r'.res s.length, ?_, wsOf_keys _ _, fun e he => ?_⟩
        · have := getA_self (es := es) (z := r'.name) (y := (s1 ++ [MO.dic (mapD .ref (wsOf r'.res s.length))]).length)
          rwa [putA_new hnew] at this
        · refine k3 _ _ (by rw [hl2]; omega) ?_
          rw [← hs3]
          exact get_last
        · refine k3 _ _ (by omega) ?_
          rw [← hs3]
          exact get_pre get_last
        · obtain ⟨i, h1, h2⟩ := wsOf_mem (n := s.length) he
          have hi := (List.getElem?_eq_some_iff.mp h1).1
          have hs1l : s1.length = s.length + r'.res.length := by rw [← hs1, List.length_append, List.length_map]
          refine ⟨s.length + i, getA_nodup (by rw [wsOf_keys]; exact words_nodup hD hrm) h2, by omega, by omega, k3 _ _ (by omega) (k13 _ _ ?_)⟩
          rw [← hs1, List.getElem?_append_right (by omega), Nat.add_sub_cancel_left, List.getElem?_map, h1]
          rfl
    · rw [List.getElem?_set_ne (by omega), ← i4 i hi, ← hs3, ← hs1, List.getElem?_append_left (by simp; omega), List.getElem?_append_left (by simp; omega), List.getElem?_append_left (by omega)]
  · rintro e s ⟨x2, x3, x4, x5, x6, x7, rfl, h1, h2, h3⟩
    rw [Nat.zero_add, List.length_map, List.take_length] at h1
    simp only [os_seq, os_skip, os_brk, os_cont, os_retN, os_drop, os_ret, os_retA, os_set, os_setA, os_if, os_asg, os_par, os_aug, os_put, os_augP, os_for, ok_var, ok_c, ok_nil, ok_cons, ok_tup, ok_lst, ok_new, ok_tst, ok_andT, ok_orT, ok_notT, ok_and, ok_or, ok_not, ok_if, ok_op, ok_un, ok_cl, ok_clF, ok_call, ok_mk, ok_noPart, ok_part, ok_cut, ok_mt, ok_chain, ok_it, ok_range1, ok_range2, ok_lc, ok_yes, out_some, out_none, out_add, out_sub, out_neg, out_le, out_gt, out_ge, out_lt, out_eqI, out_neI, out_int, out_abs, out_gcd, List.map_cons, List.map_nil, List.length_cons, List.length_nil, List.replicate, List.cons_append, List.nil_append, List.append_nil, List.getElem?_cons_zero, List.getElem?_cons_succ, List.set_cons_zero, List.set_cons_succ, PV.bl.injEq, PV.int.injEq, PV.str.injEq, exists_eq_left', exists_eq_left, and_true, true_and, if_true, if_false, Bool.false_eq_true, Bool.true_eq_false, decide_eq_true_eq, Nat.sub_self, Nat.reduceAdd, Nat.reduceSub, Nat.reduceLeDiff, List.cons.injEq]
    exact ⟨h1, h2, h3⟩
end
end K04

/-! K04e: a dealing looked at, round by round (plain). -/
namespace K04
open PySem PySem.Spec PyProof.Rows L2 Mi Ge
section
variable {D : Dl} {st : Sto}
def Unl (r : Nat) (N : QN) : QN := fun e s => ∃ ps, s[r]? = some (.loc ps) ∧ N e (s.set r (.dic ps))
def UnlV (r : Nat) (N : QV) : QV := fun v s => ∃ ps, s[r]? = some (.loc ps) ∧ N v (s.set r (.dic ps))
theorem os_lock {m : M PV} {b : MS} {env : MEnv} {st' : Sto} {r : Nat} {ps : PD} {N B C : QN} {R : QV} (h1 : m env st = some (.ok (.ref r) st')) (h2 : st[r]? = some (.dic ps)) (h : OkS b env (st.set r (.loc ps)) (Unl r N) (UnlV r R) (Unl r B) (Unl r C)) : OkS (mLock m b) env st N R B C := by
  obtain ⟨x, e, q⟩ := h
  unfold OkS mLock
  simp only [h1, h2, e]
  cases x with
  | next e1 s =>
    obtain ⟨ps', g1, g2⟩ := q
    refine ⟨.next e1 (s.set r (.dic ps')), ?_, g2⟩
    simp only [unlR, unlS, g1, Option.map_some]
  | ret v s =>
    obtain ⟨ps', g1, g2⟩ := q
    refine ⟨.ret v (s.set r (.dic ps')), ?_, g2⟩
    simp only [unlR, unlS, g1, Option.map_some]
  | brk e1 s =>
    obtain ⟨ps', g1, g2⟩ := q
    refine ⟨.brk e1 (s.set r (.dic ps')), ?_, g2⟩
    simp only [unlR, unlS, g1, Option.map_some]
  | cont e1 s =>
    obtain ⟨ps', g1, g2⟩ := q
    refine ⟨.cont e1 (s.set r (.dic ps')), ?_, g2⟩
    simp only [unlR, unlS, g1, Option.map_some]
  | exc x e1 s => exact q.elim
theorem ok_itKs {m : M PV} {env : MEnv} {r : Nat} {ps : PD} {Q : MIt → Sto → Prop} (h1 : m env st = some (.ok (.ref r) st)) (h2 : st[r]? = some (.loc ps)) (h3 : keysOk ps = true) (q : Q ⟨ps.map (·.1), some (.keys r)⟩ st) : OkE (mItKs m) env st Q := by
  unfold OkE mItKs M.bind
  simp only [h1, h2, h3, if_true]
  exact ⟨_, _, rfl, q⟩
theorem keysOk_mapD {β : Type} {f : β → PV} {es : List (Str × β)} (h : ∀ z ∈ es.map (·.1), Nmk z) : keysOk (mapD f es) = true := by
  unfold keysOk
  rw [List.all_eq_true]
  intro p hp
  obtain ⟨e, he, rfl⟩ := List.mem_map.mp hp
  simp only [decide_eq_true_eq]
  exact (h _ (List.mem_map.mpr ⟨e, he, rfl⟩)).line
theorem mapD_keys {β : Type} {f : β → PV} {es : List (Str × β)} : (mapD f es).map (·.1) = (es.map (·.1)).map .str := by
  simp only [mapD, List.map_map]
  rfl
theorem ixD_dict {x : PV} {β : Type} {f : β → PV} {es : List (Str × β)} {z : Str} (e : dictOf st x = some (mapD f es)) : oIxD x (.str z) st = (getA es z).map f := by
  simp only [oIxD, e, Mi.keyOf, valP_mapD]
/-- what a store tells of a round -/
structure Vw (s : Sto) (t l d : Nat) (r : Rnd) (ws : List (Str × Nat)) : Prop where
  tab : oIxD (.ref t) (.str r.name) s = some (.ref l)
  row : unpO (.ref l) s = some [.tup (r.lot.map .str), .str r.ch, .ref d]
  res : dictOf s (.ref d) = some (mapD .ref ws)
  nex : ∀ e ∈ r.res, ∃ n, getA ws e.1 = some n ∧ dictOf s (.ref n) = some (mapD .str e.2)
theorem vw_of {s0 : Sto} {t : Nat} (h : TabAt s0 t D.rs) {r : Rnd} (hr : r ∈ D.rs) : ∃ l d ws, ws.map (·.1) = r.res.map (·.1) ∧ d ≠ t ∧ s0[d]? = some (.dic (mapD .ref ws)) ∧ ∀ s, (∀ i o, i ≠ d → s0[i]? = some o → s[i]? = some o) → (s[d]? = some (.dic (mapD .ref ws)) ∨ s[d]? = some (.loc (mapD .ref ws))) → Vw s t l d r ws := by
  obtain ⟨es, h1, h2, h3⟩ := h
  obtain ⟨l, d, g1, g2, g3, g4, ws, g5, g6, g7⟩ := h3 r hr
  refine ⟨l, d, ws, g6, g3, g5, fun s k kd => ⟨?_, ?_, ?_, fun e he => ?_⟩⟩
  · rw [ixD_ref (f := PV.ref) (k _ _ g3.symm h1), g1]; rfl
  · have hld : l ≠ d := fun e => by rw [e, g5] at g4; cases g4
    simp only [unpO, k _ _ hld g4]
  · rcases kd with kd | kd <;> simp only [dictOf, kd]
  · obtain ⟨n, q1, q2, q3, q4⟩ := g7 e he
    exact ⟨n, q1, by simp only [dictOf, k _ _ q3 q4]⟩
theorem Vw.ix {s : Sto} {t l d : Nat} {r : Rnd} {ws : List (Str × Nat)} (h : Vw s t l d r ws) {e : Str × List (Str × Str)} (he : e ∈ r.res) : ∃ n, oIxD (.ref d) (.str e.1) s = some (.ref n) ∧ dictOf s (.ref n) = some (mapD .str e.2) := by
  obtain ⟨n, h1, h2⟩ := h.nex e he
  exact ⟨n, by rw [ixD_dict h.res, h1]; rfl, h2⟩
theorem val_of (hD : DlOk D) {r : Rnd} (hr : r ∈ D.rs) {e : Str × List (Str × Str)} (he : e ∈ r.res) {n : PV} {s : Sto} (hn : dictOf s n = some (mapD .str e.2)) {p : Str} (hp : p ∈ r.lot) : oIxD n (.str p) s = some (.str ((getA e.2 p).getD "")) := by
  obtain ⟨y, h1, _⟩ := getA_some (es := e.2) (z := p) (by rw [(hD.rnd r hr).keys e he]; exact hp)
  rw [ixD_dict hn, h1]; rfl
theorem set_junk {s j : Sto} {a : Nat} {o : MO} (h : s.length ≤ a) : ∃ j', (s ++ j).set a o = s ++ j' := ⟨_, List.set_append_right _ _ h⟩
/-- one word of a round -/
def IvW (D : Dl) (x0 : Option PV) (t d : Nat) (x3 x4 x5 x7 : Option PV) (sL : Sto) (_ : Nat) (e : MEnv) (s : Sto) : Prop :=
  ∃ x8 x9 x10 j, e = [x0, some (pvD D), some (.ref t), x3, x4, x5, some (.ref d), x7, x8, x9, x10] ∧ s = sL ++ j
def IvN (D : Dl) (x0 : Option PV) (t d a : Nat) (x3 x4 x5 x7 x9 : Option PV) (s2 : Sto) (_ : Nat) (e : MEnv) (s : Sto) : Prop :=
  ∃ x8 j, e = [x0, some (pvD D), some (.ref t), x3, x4, x5, some (.ref d), x7, x8, x9, some (.ref a)] ∧ s = s2 ++ j
noncomputable def bWord : MS := (mSeq (mSet 10 (mCall0 f_nexts_of (mCons (mVar 1) (mCons (mVar 3) (mCons (mVar 9) mNil)))))
    (mSeq (mIfS (mNotT (mTst (mCall0 f__law_alike (mCons (mVar 10) (mCons (mNewD (mClD oDict (mCons (mNew (mLc (.nm 8) (mIt (mVar 4)) [8] mYes (mTup (mCons (mVar 8) (mCons (mOp oIxD (mOp oIxD (mVar 6) (mVar 9)) (mVar 8)) mNil))))) mNil))) mNil))))) (mRet (mC (.bl false))) mSkip)
    (mSeq (mFor (.nm 8) (mIt (mVar 4)) (mIfS (mTst (mOp oNeX (mCall0 f_next_of (mCons (mVar 1) (mCons (mVar 3) (mCons (mVar 9) (mCons (mVar 8) mNil))))) (mOp oIxD (mOp oIxD (mVar 6) (mVar 9)) (mVar 8)))) (mRet (mC (.bl false))) mSkip))
    (mSeq (mDrop (mClear (mVar 10)))
    (mIfS (mTst (mOp oNeX (mCall0 f_nexts_of (mCons (mVar 1) (mCons (mVar 3) (mCons (mVar 9) mNil)))) (mOp oIxD (mVar 6) (mVar 9)))) (mRet (mC (.bl false))) mSkip)))))
theorem word_ok (hD : DlOk D) {r : Rnd} (hr : r ∈ D.rs) {e : Str × List (Str × Str)} (he : e ∈ r.res) {t l d : Nat} {ws : List (Str × Nat)} {x0 x5 x7 x8 x10 : Option PV} {sL j : Sto} (hv : ∀ j, Vw (sL ++ j) t l d r ws) {N C : QN} {R : QV} :
    OkS bWord [x0, some (pvD D), some (.ref t), some (.str r.name), some (.tup (r.lot.map .str)), x5, some (.ref d), x7, x8, some (.str e.1), x10] (sL ++ j) (IvW D x0 t d (some (.str r.name)) (some (.tup (r.lot.map .str))) x5 x7 sL 0) R N C := by
  have hl6 := rnd_len hD hr
  obtain ⟨nm, nl⟩ := nex_nm hD hr he
  have hnd := nex_nodup hD hr he
  have hkeys := (hD.rnd r hr).keys e he
  simp only [bWord, os_seq, os_skip, os_brk, os_cont, os_retN, os_drop, os_ret, os_retA, os_set, os_setA, os_if, os_asg, os_par, os_aug, os_put, os_augP, os_for, ok_var, ok_c, ok_nil, ok_cons, ok_tup, ok_lst, ok_new, ok_tst, ok_andT, ok_orT, ok_notT, ok_and, ok_or, ok_not, ok_if, ok_op, ok_un, ok_cl, ok_clF, ok_call, ok_mk, ok_noPart, ok_part, ok_cut, ok_mt, ok_chain, ok_it, ok_range1, ok_range2, ok_lc, ok_yes, out_some, out_none, out_add, out_sub, out_neg, out_le, out_gt, out_ge, out_lt, out_eqI, out_neI, out_int, out_abs, out_gcd, List.map_cons, List.map_nil, List.length_cons, List.length_nil, List.replicate, List.cons_append, List.nil_append, List.append_nil, List.getElem?_cons_zero, List.getElem?_cons_succ, List.set_cons_zero, List.set_cons_succ, PV.bl.injEq, PV.int.injEq, PV.str.injEq, exists_eq_left', exists_eq_left, and_true, true_and, if_true, if_false, Bool.false_eq_true, Bool.true_eq_false, decide_eq_true_eq, Nat.sub_self, Nat.reduceAdd, Nat.reduceSub, Nat.reduceLeDiff, List.cons.injEq, k_nexts_of hD hr he, ok_newD, ok_clD, it_t, wipeM]
  generalize hs1 : sL ++ j ++ [.dic (mapD fR r.res)] ++ [.dic (mapD .str e.2)] = s1
  have e1 : ∃ j1, s1 = sL ++ j1 := ⟨j ++ [.dic (mapD fR r.res)] ++ [.dic (mapD .str e.2)], by rw [← hs1]; simp⟩
  have ha : s1[(sL ++ j).length + 1]? = some (.dic (mapD .str e.2)) := by
    rw [← hs1]
    have := get_last (l := sL ++ j ++ [.dic (mapD fR r.res)]) (x := MO.dic (mapD .str e.2))
    rwa [List.length_append] at this
  obtain ⟨j1, hj1⟩ := e1
  have v1 : Vw s1 t l d r ws := by rw [hj1]; exact hv j1
  obtain ⟨n1, g1, g2⟩ := v1.ix he
  rw [comp_strs (p := fun _ => true) (g := fun p => .tup [.str p, .str ((getA e.2 p).getD "")]) chk_none r.lot fun p hp => ⟨rfl, fun _ => ok_eq (by
    simp only [os_seq, os_skip, os_brk, os_cont, os_retN, os_drop, os_ret, os_retA, os_set, os_setA, os_if, os_asg, os_par, os_aug, os_put, os_augP, os_for, ok_var, ok_c, ok_nil, ok_cons, ok_tup, ok_lst, ok_new, ok_tst, ok_andT, ok_orT, ok_notT, ok_and, ok_or, ok_not, ok_if, ok_op, ok_un, ok_cl, ok_clF, ok_call, ok_mk, ok_noPart, ok_part, ok_cut, ok_mt, ok_chain, ok_it, ok_range1, ok_range2, ok_lc, ok_yes, out_some, out_none, out_add, out_sub, out_neg, out_le, out_gt, out_ge, out_lt, out_eqI, out_neI, out_int, out_abs, out_gcd, List.map_cons, List.map_nil, List.length_cons, List.length_nil, List.replicate, List.cons_append, List.nil_append, List.append_nil, List.getElem?_cons_zero, List.getElem?_cons_succ, List.set_cons_zero, List.set_cons_succ, PV.bl.injEq, PV.int.injEq, PV.str.injEq, exists_eq_left', exists_eq_left, and_true, true_and, if_true, if_false, Bool.false_eq_true, Bool.true_eq_false, decide_eq_true_eq, Nat.sub_self, Nat.reduceAdd, Nat.reduceSub, Nat.reduceLeDiff, List.cons.injEq, g1, val_of hD hr he g2 hp, sl (show 2 ≤ 1000 by decide)])⟩, out_some]
  simp only [filt]
  rw [dict_fun (f := PV.str) (g := fun p => (getA e.2 p).getD "") (hD.rnd r hr).srt.nodup, out_some]
  have hq : (r.lot.map fun p => (p, (getA e.2 p).getD "")) = e.2 := by
    rw [← hkeys]
    exact eq_of_keys hnd
  rw [hq]
  rw [k_alikeD (a := (sL ++ j).length + 1) (b := s1.length) (get_push ha) get_last hnd nm (by omega)]
  refine ⟨true, rfl, ?_⟩
  simp only [Bool.not_true, Bool.false_eq_true, if_false]
  have hs2 : s1 ++ [.dic (mapD .str e.2)] = sL ++ (j1 ++ [.dic (mapD .str e.2)]) := by rw [hj1, List.append_assoc]
  have ha2 : (s1 ++ [.dic (mapD .str e.2)])[(sL ++ j).length + 1]? = some (.dic (mapD .str e.2)) := get_push ha
  have hage : sL.length ≤ (sL ++ j).length + 1 := by rw [List.length_append]; omega
  generalize (sL ++ j).length + 1 = a at ha ha2 hage ⊢
  generalize s1 ++ [.dic (mapD .str e.2)] = s2 at hs2 ha2 ⊢
  refine for_inv (IvN D x0 t d a (some (.str r.name)) (some (.tup (r.lot.map .str))) x5 x7 (some (.str e.1)) s2) (r.lot.map .str) (r.lot.map .str) 0 _ _ ?_ ?_ ⟨x8, [], rfl, by simp⟩
  · rintro i v env s hv' ⟨x8, j3, rfl, rfl⟩
    obtain ⟨p, rfl, hp⟩ := strs_at (List.mem_of_getElem? hv')
    have v2 : Vw (s2 ++ j3 ++ [.dic (mapD fR r.res)] ++ [.dic (mapD .str e.2)]) t l d r ws := by
      rw [hs2]
      simp only [List.append_assoc]
      exact hv _
    obtain ⟨n2, q1, q2⟩ := v2.ix he
    simp only [os_seq, os_skip, os_brk, os_cont, os_retN, os_drop, os_ret, os_retA, os_set, os_setA, os_if, os_asg, os_par, os_aug, os_put, os_augP, os_for, ok_var, ok_c, ok_nil, ok_cons, ok_tup, ok_lst, ok_new, ok_tst, ok_andT, ok_orT, ok_notT, ok_and, ok_or, ok_not, ok_if, ok_op, ok_un, ok_cl, ok_clF, ok_call, ok_mk, ok_noPart, ok_part, ok_cut, ok_mt, ok_chain, ok_it, ok_range1, ok_range2, ok_lc, ok_yes, out_some, out_none, out_add, out_sub, out_neg, out_le, out_gt, out_ge, out_lt, out_eqI, out_neI, out_int, out_abs, out_gcd, List.map_cons, List.map_nil, List.length_cons, List.length_nil, List.replicate, List.cons_append, List.nil_append, List.append_nil, List.getElem?_cons_zero, List.getElem?_cons_succ, List.set_cons_zero, List.set_cons_succ, PV.bl.injEq, PV.int.injEq, PV.str.injEq, exists_eq_left', exists_eq_left, and_true, true_and, if_true, if_false, Bool.false_eq_true, Bool.true_eq_false, decide_eq_true_eq, Nat.sub_self, Nat.reduceAdd, Nat.reduceSub, Nat.reduceLeDiff, List.cons.injEq, k_next_of hD hr he hp, q1, val_of hD hr he q2 hp, neX_str]
    exact ⟨some (.str p), j3 ++ [.dic (mapD fR r.res)] ++ [.dic (mapD .str e.2)], rfl, by simp⟩
  · rintro env s ⟨x8, j3, rfl, rfl⟩
    have hc : oClear (.ref a) (s2 ++ j3) = some ((s2 ++ j3).set a (.dic [])) := by
      simp only [oClear, get_pre ha2]
    obtain ⟨j4, hj4⟩ : ∃ j4, (s2 ++ j3).set a (.dic []) = sL ++ j4 := by
      rw [hs2, List.append_assoc]
      exact set_junk hage
    simp only [ok_clear, os_seq, os_skip, os_brk, os_cont, os_retN, os_drop, os_ret, os_retA, os_set, os_setA, os_if, os_asg, os_par, os_aug, os_put, os_augP, os_for, ok_var, ok_c, ok_nil, ok_cons, ok_tup, ok_lst, ok_new, ok_tst, ok_andT, ok_orT, ok_notT, ok_and, ok_or, ok_not, ok_if, ok_op, ok_un, ok_cl, ok_clF, ok_call, ok_mk, ok_noPart, ok_part, ok_cut, ok_mt, ok_chain, ok_it, ok_range1, ok_range2, ok_lc, ok_yes, out_some, out_none, out_add, out_sub, out_neg, out_le, out_gt, out_ge, out_lt, out_eqI, out_neI, out_int, out_abs, out_gcd, List.map_cons, List.map_nil, List.length_cons, List.length_nil, List.replicate, List.cons_append, List.nil_append, List.append_nil, List.getElem?_cons_zero, List.getElem?_cons_succ, List.set_cons_zero, List.set_cons_succ, PV.bl.injEq, PV.int.injEq, PV.str.injEq, exists_eq_left', exists_eq_left, and_true, true_and, if_true, if_false, Bool.false_eq_true, Bool.true_eq_false, decide_eq_true_eq, Nat.sub_self, Nat.reduceAdd, Nat.reduceSub, Nat.reduceLeDiff, List.cons.injEq, hc, hj4, k_nexts_of hD hr he]
    have v5 : Vw (sL ++ j4 ++ [.dic (mapD fR r.res)] ++ [.dic (mapD .str e.2)]) t l d r ws := by
      simp only [List.append_assoc]
      exact hv _
    obtain ⟨n5, q1, q2⟩ := v5.ix he
    have hn : dictOf (sL ++ j4 ++ [.dic (mapD fR r.res)] ++ [.dic (mapD .str e.2)]) (.ref ((sL ++ j4).length + 1)) = some (mapD .str e.2) := by
      have := get_last (l := sL ++ j4 ++ [.dic (mapD fR r.res)]) (x := MO.dic (mapD .str e.2))
      rw [List.length_append] at this
      simp only [dictOf]
      rw [show (sL ++ j4).length + 1 = (sL ++ j4).length + [MO.dic (mapD fR r.res)].length from rfl, this]
    simp only [q1, out_some, neX_dict hn q2 hnd]
    refine ⟨false, rfl, ?_⟩
    simp only [Bool.false_eq_true, if_false]
    exact ⟨_, _, _, j4 ++ [.dic (mapD fR r.res)] ++ [.dic (mapD .str e.2)], rfl, by simp⟩
end
end K04

/-! K04f: a dealing looked at, whole (plain). -/
namespace K04
open PySem PySem.Spec PyProof.Rows L2 Mi Ge
section
variable {D : Dl} {st : Sto}
theorem srt_self {zs : List Str} (h : Srt zs) : sortS zs = zs := srt_eq h (List.Perm.refl _)
theorem tab_names (hD : DlOk D) {s : Sto} {t : Nat} {es : List (Str × Nat)} (h1 : s[t]? = some (.dic (mapD .ref es))) (h2 : es.map (·.1) = D.rs.map (·.name)) : oSorted [.ref t] s = some ((D.rs.map (·.name)).map .str) := by
  have hl := hD.len
  have hel : es.length = D.rs.length := by
    have := congrArg List.length h2
    rwa [List.length_map, List.length_map] at this
  rw [sorted_ref (f := PV.ref) h1 (by omega) fun z hz => ?_, h2, srt_self hD.srt]
  rw [h2] at hz
  obtain ⟨r, hr, rfl⟩ := List.mem_map.mp hz
  exact (hD.rnd r hr).nm.line
def IvO (D : Dl) (x0 : Option PV) (t : Nat) (s0 : Sto) (_ : Nat) (e : MEnv) (s : Sto) : Prop :=
  ∃ x3 x4 x5 x6 x7 x8 x9 x10 j, e = [x0, some (pvD D), some (.ref t), x3, x4, x5, x6, x7, x8, x9, x10] ∧ s = s0 ++ j
def IvP (D : Dl) (x0 : Option PV) (t : Nat) (x3 x4 x5 x6 x7 x9 x10 : Option PV) (s0 : Sto) (_ : Nat) (e : MEnv) (s : Sto) : Prop :=
  ∃ x8, e = [x0, some (pvD D), some (.ref t), x3, x4, x5, x6, x7, x8, x9, x10] ∧ s = s0
theorem k_looked (hD : DlOk D) {s0 : Sto} {t : Nat} {x0 : PV} (hT : TabAt s0 t D.rs) {Q : PV → Sto → Prop} : OkF f__law_is_looked_at [x0, pvD D, .ref t] s0 Q ↔ Q (.bl true) s0 := by
  refine okF_iff ?_
  refine of_defT (of_defN rfl ?_)
  have hes : oSorted [.ref t] s0 = some ((D.rs.map (·.name)).map .str) := by
    obtain ⟨es, h1, h2, _⟩ := id hT
    exact tab_names hD h1 h2
  simp only [b__law_is_looked_at, os_seq, os_skip, os_brk, os_cont, os_retN, os_drop, os_ret, os_retA, os_set, os_setA, os_if, os_asg, os_par, os_aug, os_put, os_augP, os_for, ok_var, ok_c, ok_nil, ok_cons, ok_tup, ok_lst, ok_new, ok_tst, ok_andT, ok_orT, ok_notT, ok_and, ok_or, ok_not, ok_if, ok_op, ok_un, ok_cl, ok_clF, ok_call, ok_mk, ok_noPart, ok_part, ok_cut, ok_mt, ok_chain, ok_it, ok_range1, ok_range2, ok_lc, ok_yes, out_some, out_none, out_add, out_sub, out_neg, out_le, out_gt, out_ge, out_lt, out_eqI, out_neI, out_int, out_abs, out_gcd, List.map_cons, List.map_nil, List.length_cons, List.length_nil, List.replicate, List.cons_append, List.nil_append, List.append_nil, List.getElem?_cons_zero, List.getElem?_cons_succ, List.set_cons_zero, List.set_cons_succ, PV.bl.injEq, PV.int.injEq, PV.str.injEq, exists_eq_left', exists_eq_left, and_true, true_and, if_true, if_false, Bool.false_eq_true, Bool.true_eq_false, decide_eq_true_eq, Nat.sub_self, Nat.reduceAdd, Nat.reduceSub, Nat.reduceLeDiff, List.cons.injEq, hes, it_l]
  refine for_inv (IvO D (some x0) t s0) ((D.rs.map (·.name)).map .str) ((D.rs.map (·.name)).map .str) 0 _ _ ?_ ?_ ⟨none, none, none, none, none, none, none, none, [], rfl, (List.append_nil s0).symm⟩
  · rintro i v env s hv ⟨x3, x4, x5, x6, x7, x8, x9, x10, j, rfl, rfl⟩
    obtain ⟨z, rfl, hz⟩ := strs_at (List.mem_of_getElem? hv)
    obtain ⟨r, hr, rfl⟩ := List.mem_map.mp hz
    obtain ⟨l, d, ws, w1, w2, w3, w4⟩ := vw_of hT hr
    have hrnd := hD.rnd r hr
    have hl6 := rnd_len hD hr
    have hv0 : Vw (s0 ++ j) t l d r ws := w4 _ (fun i o _ e => get_pre e) (.inl (get_pre w3))
    have hwl : ws.length = r.res.length := by
      have := congrArg List.length w1
      rwa [List.length_map, List.length_map] at this
    have hr4 := hrnd.rlen
    have hnw : ∀ z ∈ ws.map (·.1), Nmk z := fun z hz => by
      rw [w1] at hz
      obtain ⟨e, he, rfl⟩ := List.mem_map.mp hz
      exact hrnd.rnm e he
    have hsd : oSorted [.ref d] (s0 ++ j) = some ((r.res.map (·.1)).map .str) := by
      rw [sorted_ref (f := PV.ref) (get_pre w3) (by omega) fun z hz => (hnw z hz).line, w1, srt_self hrnd.rsrt]
    have eD : dataV (s0 ++ j) (.lst [.tup (r.lot.map .str), .str r.ch, .tup ((r.res.map (·.1)).map .str)]) = some (.list [.tuple (r.lot.map .str), .str r.ch, .tuple ((r.res.map (·.1)).map .str)]) := by
      show (dataPL _).map _ = _
      simp only [dataPL, dataP, dataPL_strs, Option.map_some]
    have sD : Sm (.list [.tuple (r.lot.map .str), .str r.ch, .tuple ((r.res.map (·.1)).map .str)]) 1000 10 := (sm_lst (k := 100) (h := 1) (n := 3) (fun y hy => by
      simp only [List.mem_cons, List.not_mem_nil, or_false] at hy
      rcases hy with rfl | rfl | rfl
      · exact (sm_strs (rnd_nm hD hr) hl6).mono (by decide) (by decide)
      · exact (sm_str (rnd_nm hD hr _ hrnd.ch)).mono (by decide) (by decide)
      · refine (sm_strs (n := 4) (fun z hz => ?_) (by rw [List.length_map]; exact hr4)).mono (by decide) (by decide)
        obtain ⟨e, he, rfl⟩ := List.mem_map.mp hz
        exact hrnd.rnm e he) (Nat.le_refl _)).mono (by decide) (by decide)
    have ep : ∀ s, oIxD (pvD D) (.int 0) s = some (.tup (D.ps.map .str)) := fun s => ixD0
    simp only [os_seq, os_skip, os_brk, os_cont, os_retN, os_drop, os_ret, os_retA, os_set, os_setA, os_if, os_asg, os_par, os_aug, os_put, os_augP, os_for, ok_var, ok_c, ok_nil, ok_cons, ok_tup, ok_lst, ok_new, ok_tst, ok_andT, ok_orT, ok_notT, ok_and, ok_or, ok_not, ok_if, ok_op, ok_un, ok_cl, ok_clF, ok_call, ok_mk, ok_noPart, ok_part, ok_cut, ok_mt, ok_chain, ok_it, ok_range1, ok_range2, ok_lc, ok_yes, out_some, out_none, out_add, out_sub, out_neg, out_le, out_gt, out_ge, out_lt, out_eqI, out_neI, out_int, out_abs, out_gcd, List.map_cons, List.map_nil, List.length_cons, List.length_nil, List.replicate, List.cons_append, List.nil_append, List.append_nil, List.getElem?_cons_zero, List.getElem?_cons_succ, List.set_cons_zero, List.set_cons_succ, PV.bl.injEq, PV.int.injEq, PV.str.injEq, exists_eq_left', exists_eq_left, and_true, true_and, if_true, if_false, Bool.false_eq_true, Bool.true_eq_false, decide_eq_true_eq, Nat.sub_self, Nat.reduceAdd, Nat.reduceSub, Nat.reduceLeDiff, List.cons.injEq, hv0.tab, tg3 hv0.row, k_lot_of hD hr, k_chooser_of hD hr, k_words_of hD hr, hsd, tuple_l, sl (show 3 ≤ 1000 by decide), k_alike eD rfl sD (by decide) (by decide), ep, it_t]
    refine for_inv (IvP D (some x0) t (some (.str r.name)) (some (.tup (r.lot.map .str))) (some (.str r.ch)) (some (.ref d)) (some (.lst [.tup (r.lot.map .str), .str r.ch, .tup ((r.res.map (·.1)).map .str)])) x9 x10 (s0 ++ j)) (D.ps.map .str) (D.ps.map .str) 0 _ _ ?_ ?_ ⟨x8, rfl, rfl⟩
    · rintro i2 v2 env2 s2 hv2 ⟨x8, rfl, rfl⟩
      obtain ⟨p, rfl, hp⟩ := strs_at (List.mem_of_getElem? hv2)
      have eB : dataV (s0 ++ j) (.bl (decide (p ∈ r.lot))) = some (.bool (decide (p ∈ r.lot))) := rfl
      simp only [os_seq, os_skip, os_brk, os_cont, os_retN, os_drop, os_ret, os_retA, os_set, os_setA, os_if, os_asg, os_par, os_aug, os_put, os_augP, os_for, ok_var, ok_c, ok_nil, ok_cons, ok_tup, ok_lst, ok_new, ok_tst, ok_andT, ok_orT, ok_notT, ok_and, ok_or, ok_not, ok_if, ok_op, ok_un, ok_cl, ok_clF, ok_call, ok_mk, ok_noPart, ok_part, ok_cut, ok_mt, ok_chain, ok_it, ok_range1, ok_range2, ok_lc, ok_yes, out_some, out_none, out_add, out_sub, out_neg, out_le, out_gt, out_ge, out_lt, out_eqI, out_neI, out_int, out_abs, out_gcd, List.map_cons, List.map_nil, List.length_cons, List.length_nil, List.replicate, List.cons_append, List.nil_append, List.append_nil, List.getElem?_cons_zero, List.getElem?_cons_succ, List.set_cons_zero, List.set_cons_succ, PV.bl.injEq, PV.int.injEq, PV.str.injEq, exists_eq_left', exists_eq_left, and_true, true_and, if_true, if_false, Bool.false_eq_true, Bool.true_eq_false, decide_eq_true_eq, Nat.sub_self, Nat.reduceAdd, Nat.reduceSub, Nat.reduceLeDiff, List.cons.injEq, k_wants hD hr, in_t, k_alike eB rfl sm_bool (by decide) (by decide)]
      exact ⟨_, rfl, rfl⟩
    · rintro env2 s2 ⟨x8, rfl, rfl⟩
      have hlt : d < s0.length := (List.getElem?_eq_some_iff.mp w3).1
      have hset : ∀ (o : MO) (j : Sto), (s0 ++ j).set d o = s0.set d o ++ j := fun o j => List.set_append_left _ _ hlt
      refine os_lock (r := d) (ps := mapD .ref ws) rfl (get_pre w3) ?_
      rw [hset, os_for]
      have hat : ∀ j, (s0.set d (.loc (mapD .ref ws)) ++ j)[d]? = some (.loc (mapD .ref ws)) := fun j => get_pre (List.getElem?_set_self hlt)
      refine ok_itKs rfl (hat j) (keysOk_mapD hnw) ?_
      have hvL : ∀ j, Vw (s0.set d (.loc (mapD .ref ws)) ++ j) t l d r ws := fun j => w4 _ (fun i o hi e => get_pre (by rw [List.getElem?_set_ne fun k => hi k.symm]; exact e)) (.inr (hat j))
      have hk : (mapD PV.ref ws).map (·.1) = (r.res.map (·.1)).map .str := by rw [mapD_keys, w1]
      refine for_invT (IvW D (some x0) t d (some (.str r.name)) (some (.tup (r.lot.map .str))) (some (.str r.ch)) (some (.lst [.tup (r.lot.map .str), .str r.ch, .tup ((r.res.map (·.1)).map .str)])) (s0.set d (.loc (mapD .ref ws)))) ?_ _ 0 _ _ ?_ ?_ ⟨x8, x9, x10, j, rfl, rfl⟩
      · rintro k e s ⟨_, _, _, j, _, rfl⟩
        exact ⟨_, hat j, rfl⟩
      · rintro i3 v3 env3 s3 hv3 ⟨y8, y9, y10, j3, rfl, rfl⟩
        have hv3 : ((mapD PV.ref ws).map (·.1))[i3]? = some v3 := hv3
        rw [hk] at hv3
        obtain ⟨z, rfl, hz⟩ := strs_at (List.mem_of_getElem? hv3)
        obtain ⟨e, he, rfl⟩ := List.mem_map.mp hz
        exact ⟨_, rfl, word_ok hD hr he hvL⟩
      · rintro env3 s3 ⟨y8, y9, y10, j3, rfl, rfl⟩
        refine ⟨mapD .ref ws, hat j3, _, _, _, _, _, _, _, _, j3, rfl, ?_⟩
        rw [List.set_append_left _ _ (by rw [List.length_set]; exact hlt), List.set_set]
        congr 1
        apply List.ext_getElem?
        intro i
        by_cases hi : d = i
        · subst hi
          rw [List.getElem?_set_self hlt, w3]
        · rw [List.getElem?_set_ne hi]
  · rintro env s ⟨x3, x4, x5, x6, x7, x8, x9, x10, j, rfl, rfl⟩
    refine ⟨fun i hi => .inl (List.getElem?_append_left hi), ?_⟩
    rw [frz_pure rfl, out_some]
    exact ⟨rfl, by simp⟩
end
end K04

/-! K04g: the law (plain). -/
namespace K04
open PySem PySem.Spec PyProof.Rows L2 Mi Ge
section
variable {D : Dl} {st : Sto}
theorem e_bag : K04.f__law_bag = Mi.gBag := rfl
def deedsOf (rs : List Rnd) : List PV := rs.flatMap fun r => r.res.map fun e => .tup [.str r.name, .str e.1]
theorem deeds_data : ∀ {ys : List PV}, (∀ y ∈ ys, ∃ a b, y = PV.tup [.str a, .str b] ∧ Nmk a ∧ Nmk b) → ∃ ds, dataPL ys = some ds ∧ ds.length = ys.length ∧ ∀ d ∈ ds, Sm d 18 1
  | [], _ => ⟨[], rfl, rfl, fun d hd => by cases hd⟩
  | y :: ys, h => by
    obtain ⟨ds, h1, h2, h3⟩ := deeds_data (ys := ys) fun z hz => h z (List.mem_cons_of_mem _ hz)
    obtain ⟨a, b, rfl, na, nb⟩ := h y List.mem_cons_self
    refine ⟨.tuple [.str a, .str b] :: ds, ?_, by simp [h2], fun d hd => ?_⟩
    · simp only [dataPL, dataP, h1, Option.map_some]
    · rcases List.mem_cons.mp hd with rfl | hd
      · exact sm_tup (k := 8) (h := 0) (n := 2) (fun z hz => by
          simp only [List.mem_cons, List.not_mem_nil, or_false] at hz
          rcases hz with rfl | rfl
          · exact sm_str na
          · exact sm_str nb) (Nat.le_refl _)
      · exact h3 d hd
theorem deeds_nm (hD : DlOk D) : ∀ y ∈ deeds D, ∃ a b, y = PV.tup [.str a, .str b] ∧ Nmk a ∧ Nmk b := fun y hy => by
  obtain ⟨r, hr, hy⟩ := List.mem_flatMap.mp hy
  obtain ⟨e, he, rfl⟩ := List.mem_map.mp hy
  exact ⟨_, _, rfl, (hD.rnd r hr).nm, (hD.rnd r hr).rnm e he⟩
theorem k_alikeV {x : PV} {d : PyData} {k h : Nat} {Q : PV → Sto → Prop} (hx : dataP x = some d) (hr : ∀ i, x ≠ .ref i) (hd : ∀ ps, x ≠ .dic ps) (hs : Sm d k h) (h1 : k ≤ 2 ^ 20) (h2 : h ≤ 64) : OkF f__law_alike [x, x] st Q ↔ Q (.bl true) st := by
  refine k_alike (d := d) ?_ ?_ hs h1 h2
  · cases x with
    | ref i => exact absurd rfl (hr i)
    | _ => exact hx
  · cases x with
    | ref i => exact absurd rfl (hr i)
    | dic ps => exact absurd rfl (hd ps)
    | _ => rfl
/-- the turns -/
def IvT (x0 : Option PV) (_ : Nat) (e : MEnv) (s : Sto) : Prop :=
  ∃ x2 x3 x4 x5 x6 x7 x8 x9 B rest, e = [x0, some (.ref 0), x2, x3, x4, x5, x6, x7, x8, x9] ∧ s = B :: rest ∧ BagO B
def IvQ (D : Dl) (x0 x2 x4 x5 x8 x9 : Option PV) (s0 : Sto) (_ : Nat) (e : MEnv) (s : Sto) : Prop :=
  ∃ x6 x7, e = [x0, some (.ref 0), x2, some (pvD D), x4, x5, x6, x7, x8, x9] ∧ s = s0
def IvU (D : Dl) (x0 x2 x4 x5 x6 : Option PV) (B : MO) (rest : Sto) (k : Nat) (e : MEnv) (s : Sto) : Prop :=
  ∃ x8 x9, e = [x0, some (.ref 0), x2, some (pvD D), x4, x5, x6, some (.ref (rest.length + 1)), x8, x9] ∧ s = B :: (rest ++ [.lst (deedsOf (D.rs.take k))])
noncomputable def bLook : MS := (mSeq (mIfS (mNotT (mTst (mCall0 f__law_alike (mCons (mNew (mLst (mCons (mCall0 f_parties_of (mCons (mVar 3) mNil)) (mCons (mCall0 f_rounds_of (mCons (mVar 3) mNil)) mNil)))) (mCons (mNew (mLst (mCons (mOp oIxD (mVar 3) (mC (.int 0))) (mCons (mCl oTuple (mCons (mNew (mClF oSorted (mCons (mVar 4) mNil))) mNil)) mNil)))) mNil))))) (mRet (mC (.bl false))) mSkip)
    (mSeq (mFor (.nm 6) (mIt (mOp oIxD (mVar 3) (mC (.int 0)))) (mSeq (mSet 7 (mCl oTuple (mCons (mNew (mLc (.nm 8) (mIt (mNew (mClF oSorted (mCons (mVar 4) mNil)))) [8] (mTst (mOp oInD (mVar 6) (mOp oIxD (mOp oIxD (mVar 4) (mVar 8)) (mC (.int 0))))) (mVar 8))) mNil)))
    (mIfS (mNotT (mTst (mCall0 f__law_alike (mCons (mCall0 f_rounds_with (mCons (mVar 3) (mCons (mVar 6) mNil))) (mCons (mVar 7) mNil))))) (mRet (mC (.bl false))) mSkip)))
    (mSeq (mSetA 7 (mLst mNil))
    (mSeq (mFor (.nm 8) (mIt (mNew (mClF oSorted (mCons (mVar 4) mNil)))) (mDrop (mMt "list" oExtend (mVar 7) (mCons (mNew (mLc (.nm 9) (mIt (mNew (mClF oSorted (mCons (mOp oIxD (mOp oIxD (mVar 4) (mVar 8)) (mC (.int 2))) mNil)))) [9] mYes (mTup (mCons (mVar 8) (mCons (mVar 9) mNil))))) mNil))))
    (mSeq (mIfS (mOrT (mNotT (mTst (mCall0 f__law_alike (mCons (mCall0 f_all_deeds (mCons (mVar 3) mNil)) (mCons (mCl oTuple (mCons (mVar 7) mNil)) mNil))))) (mNotT (mTst (mCall0 f__law_is_looked_at (mCons (mVar 1) (mCons (mVar 3) (mCons (mVar 4) mNil))))))) (mRet (mC (.bl false))) mSkip)
    (mIfS (mTst (mOp oNe (mCl oRepr (mCons (mVar 3) mNil)) (mVar 5))) (mRet (mC (.bl false))) mSkip))))))
theorem look_ok (hD : DlOk D) {B : MO} {rest : Sto} {t : Nat} {x0 x2 x6 x7 x8 x9 : Option PV} (hB : BagO B) (hT : TabAt (B :: rest) t D.rs) {N C : QN} {R : QV} :
    OkS bLook [x0, some (.ref 0), x2, some (pvD D), some (.ref t), some (.str (dD D).shown), x6, x7, x8, x9] (B :: rest) (IvT x0 0) R N C := by
  have hsh : ∀ s, oRepr [pvD D] s = some (.str (dD D).shown) := fun s => by
    have e1 : dataV s (pvD D) = some (dD D) := dataP_D D
    simp only [oRepr, e1, (sm_D hD).shows (by decide) (by decide), if_true]
  have ep : ∀ s, oIxD (pvD D) (.int 0) s = some (.tup (D.ps.map .str)) := fun s => ixD0
  obtain ⟨es, h1, h2, h3⟩ := id hT
  have hso := tab_names hD h1 h2
  have hnn : ∀ z ∈ D.rs.map (·.name), Nmk z := fun z hz => by
    obtain ⟨r, hr, rfl⟩ := List.mem_map.mp hz
    exact (hD.rnd r hr).nm
  have hlen := hD.len
  have sN : Sm (.tuple ((D.rs.map (·.name)).map .str)) 216 1 := sm_strs (n := 24) hnn (by rw [List.length_map]; exact hlen)
  have e1 : dataP (.lst [.tup (D.ps.map .str), .tup ((D.rs.map (·.name)).map .str)]) = some (.list [.tuple (D.ps.map .str), .tuple ((D.rs.map (·.name)).map .str)]) := by
    simp only [dataP, dataPL, dataPL_strs, Option.map_some]
  have s1 : Sm (.list [.tuple (D.ps.map .str), .tuple ((D.rs.map (·.name)).map .str)]) 1000 10 := (sm_lst (k := 300) (h := 1) (n := 2) (fun y hy => by
    simp only [List.mem_cons, List.not_mem_nil, or_false] at hy
    rcases hy with rfl | rfl
    · exact (sm_strs hD.pts.nm hD.pts.len).mono (by decide) (by decide)
    · exact sN.mono (by decide) (by decide)) (Nat.le_refl _)).mono (by decide) (by decide)
  simp only [bLook, os_seq, os_skip, os_brk, os_cont, os_retN, os_drop, os_ret, os_retA, os_set, os_setA, os_if, os_asg, os_par, os_aug, os_put, os_augP, os_for, ok_var, ok_c, ok_nil, ok_cons, ok_tup, ok_lst, ok_new, ok_tst, ok_andT, ok_orT, ok_notT, ok_and, ok_or, ok_not, ok_if, ok_op, ok_un, ok_cl, ok_clF, ok_call, ok_mk, ok_noPart, ok_part, ok_cut, ok_mt, ok_chain, ok_it, ok_range1, ok_range2, ok_lc, ok_yes, out_some, out_none, out_add, out_sub, out_neg, out_le, out_gt, out_ge, out_lt, out_eqI, out_neI, out_int, out_abs, out_gcd, List.map_cons, List.map_nil, List.length_cons, List.length_nil, List.replicate, List.cons_append, List.nil_append, List.append_nil, List.getElem?_cons_zero, List.getElem?_cons_succ, List.set_cons_zero, List.set_cons_succ, PV.bl.injEq, PV.int.injEq, PV.str.injEq, exists_eq_left', exists_eq_left, and_true, true_and, if_true, if_false, Bool.false_eq_true, Bool.true_eq_false, decide_eq_true_eq, Nat.sub_self, Nat.reduceAdd, Nat.reduceSub, Nat.reduceLeDiff, List.cons.injEq, k_parties_of, k_rounds_of, ep, hso, tuple_l, sl (show 2 ≤ 1000 by decide), k_alikeV e1 (by simp) (by simp) s1 (by decide) (by decide), it_t]
  simp only [Bool.not_true, Bool.false_eq_true, if_false]
  have hmm : (D.rs.map (·.name)).map PV.str = D.rs.map fun r => PV.str r.name := by rw [List.map_map]; rfl
  refine for_inv (IvQ D x0 x2 (some (.ref t)) (some (.str (dD D).shown)) x8 x9 (B :: rest)) (D.ps.map .str) (D.ps.map .str) 0 _ _ ?_ ?_ ⟨x6, x7, rfl, rfl⟩
  · rintro i v env s hv ⟨x6, x7, rfl, rfl⟩
    obtain ⟨p, rfl, hp⟩ := strs_at (List.mem_of_getElem? hv)
    rw [hmm] at hso
    simp only [os_seq, os_skip, os_brk, os_cont, os_retN, os_drop, os_ret, os_retA, os_set, os_setA, os_if, os_asg, os_par, os_aug, os_put, os_augP, os_for, ok_var, ok_c, ok_nil, ok_cons, ok_tup, ok_lst, ok_new, ok_tst, ok_andT, ok_orT, ok_notT, ok_and, ok_or, ok_not, ok_if, ok_op, ok_un, ok_cl, ok_clF, ok_call, ok_mk, ok_noPart, ok_part, ok_cut, ok_mt, ok_chain, ok_it, ok_range1, ok_range2, ok_lc, ok_yes, out_some, out_none, out_add, out_sub, out_neg, out_le, out_gt, out_ge, out_lt, out_eqI, out_neI, out_int, out_abs, out_gcd, List.map_cons, List.map_nil, List.length_cons, List.length_nil, List.replicate, List.cons_append, List.nil_append, List.append_nil, List.getElem?_cons_zero, List.getElem?_cons_succ, List.set_cons_zero, List.set_cons_succ, PV.bl.injEq, PV.int.injEq, PV.str.injEq, exists_eq_left', exists_eq_left, and_true, true_and, if_true, if_false, Bool.false_eq_true, Bool.true_eq_false, decide_eq_true_eq, Nat.sub_self, Nat.reduceAdd, Nat.reduceSub, Nat.reduceLeDiff, List.cons.injEq, hso, it_l, wipeM]
    rw [comp_of (f := fun r : Rnd => PV.str r.name) (p := fun r => decide (p ∈ r.lot)) (g := fun r => .str r.name) chk_none D.rs fun r hr => ⟨ok_eq (by
      obtain ⟨l, d, g1, g2, g3, g4, _⟩ := h3 r hr
      have q1 : oIxD (.ref t) (.str r.name) (B :: rest) = some (.ref l) := by rw [ixD_ref (f := PV.ref) h1, g1]; rfl
      simp only [os_seq, os_skip, os_brk, os_cont, os_retN, os_drop, os_ret, os_retA, os_set, os_setA, os_if, os_asg, os_par, os_aug, os_put, os_augP, os_for, ok_var, ok_c, ok_nil, ok_cons, ok_tup, ok_lst, ok_new, ok_tst, ok_andT, ok_orT, ok_notT, ok_and, ok_or, ok_not, ok_if, ok_op, ok_un, ok_cl, ok_clF, ok_call, ok_mk, ok_noPart, ok_part, ok_cut, ok_mt, ok_chain, ok_it, ok_range1, ok_range2, ok_lc, ok_yes, out_some, out_none, out_add, out_sub, out_neg, out_le, out_gt, out_ge, out_lt, out_eqI, out_neI, out_int, out_abs, out_gcd, List.map_cons, List.map_nil, List.length_cons, List.length_nil, List.replicate, List.cons_append, List.nil_append, List.append_nil, List.getElem?_cons_zero, List.getElem?_cons_succ, List.set_cons_zero, List.set_cons_succ, PV.bl.injEq, PV.int.injEq, PV.str.injEq, exists_eq_left', exists_eq_left, and_true, true_and, if_true, if_false, Bool.false_eq_true, Bool.true_eq_false, decide_eq_true_eq, Nat.sub_self, Nat.reduceAdd, Nat.reduceSub, Nat.reduceLeDiff, List.cons.injEq, q1, (row_ix g4).1, in_t]), fun _ => ok_eq (by simp only [os_seq, os_skip, os_brk, os_cont, os_retN, os_drop, os_ret, os_retA, os_set, os_setA, os_if, os_asg, os_par, os_aug, os_put, os_augP, os_for, ok_var, ok_c, ok_nil, ok_cons, ok_tup, ok_lst, ok_new, ok_tst, ok_andT, ok_orT, ok_notT, ok_and, ok_or, ok_not, ok_if, ok_op, ok_un, ok_cl, ok_clF, ok_call, ok_mk, ok_noPart, ok_part, ok_cut, ok_mt, ok_chain, ok_it, ok_range1, ok_range2, ok_lc, ok_yes, out_some, out_none, out_add, out_sub, out_neg, out_le, out_gt, out_ge, out_lt, out_eqI, out_neI, out_int, out_abs, out_gcd, List.map_cons, List.map_nil, List.length_cons, List.length_nil, List.replicate, List.cons_append, List.nil_append, List.append_nil, List.getElem?_cons_zero, List.getElem?_cons_succ, List.set_cons_zero, List.set_cons_succ, PV.bl.injEq, PV.int.injEq, PV.str.injEq, exists_eq_left', exists_eq_left, and_true, true_and, if_true, if_false, Bool.false_eq_true, Bool.true_eq_false, decide_eq_true_eq, Nat.sub_self, Nat.reduceAdd, Nat.reduceSub, Nat.reduceLeDiff, List.cons.injEq])⟩, out_some]
    have e2 : dataP (.tup ((D.rs.filter fun r => decide (p ∈ r.lot)).map fun r => PV.str r.name)) = some (.tuple (((D.rs.filter fun r => decide (p ∈ r.lot)).map (·.name)).map .str)) := by
      have : ((D.rs.filter fun r => decide (p ∈ r.lot)).map fun r => PV.str r.name) = ((D.rs.filter fun r => decide (p ∈ r.lot)).map (·.name)).map .str := by rw [List.map_map]; rfl
      rw [this]
      simp only [dataP, dataPL_strs, Option.map_some]
    have s2 : Sm (.tuple (((D.rs.filter fun r => decide (p ∈ r.lot)).map (·.name)).map .str)) 216 1 := sm_strs (n := 24) (fun z hz => by
      obtain ⟨r, hr, rfl⟩ := List.mem_map.mp hz
      exact (hD.rnd r (List.mem_filter.mp hr).1).nm) (by
        rw [List.length_map]
        exact Nat.le_trans (List.length_filter_le _ _) hlen)
    simp only [tuple_l, out_some, k_rounds_with, List.map_cons, List.map_nil, List.length_cons, List.length_nil, List.replicate, List.cons_append, List.nil_append, List.append_nil, List.getElem?_cons_zero, List.getElem?_cons_succ, List.set_cons_zero, List.set_cons_succ, PV.bl.injEq, PV.int.injEq, PV.str.injEq, exists_eq_left', exists_eq_left, and_true, true_and, if_true, if_false, Bool.false_eq_true, Bool.true_eq_false, decide_eq_true_eq, Nat.sub_self, Nat.reduceAdd, Nat.reduceSub, Nat.reduceLeDiff, List.cons.injEq, k_alikeV e2 (by simp) (by simp) s2 (by decide) (by decide)]
    exact ⟨_, _, rfl, rfl⟩
  · rintro env s ⟨x6, x7, rfl, rfl⟩
    have mono : ∀ o, TabAt (B :: (rest ++ [o])) t D.rs := fun o => by
      refine ⟨es, get_push (l := B :: rest) h1, h2, fun r hr => ?_⟩
      obtain ⟨l, d, g1, g2⟩ := h3 r hr
      exact ⟨l, d, g1, g2.mono fun i o' _ e => get_push (l := B :: rest) e⟩
    have hso2 : ∀ o, oSorted [.ref t] (B :: (rest ++ [o])) = some ((D.rs.map (·.name)).map .str) := fun o => by
      obtain ⟨es, h1, h2, _⟩ := mono o
      exact tab_names hD h1 h2
    simp only [os_seq, os_skip, os_brk, os_cont, os_retN, os_drop, os_ret, os_retA, os_set, os_setA, os_if, os_asg, os_par, os_aug, os_put, os_augP, os_for, ok_var, ok_c, ok_nil, ok_cons, ok_tup, ok_lst, ok_new, ok_tst, ok_andT, ok_orT, ok_notT, ok_and, ok_or, ok_not, ok_if, ok_op, ok_un, ok_cl, ok_clF, ok_call, ok_mk, ok_noPart, ok_part, ok_cut, ok_mt, ok_chain, ok_it, ok_range1, ok_range2, ok_lc, ok_yes, out_some, out_none, out_add, out_sub, out_neg, out_le, out_gt, out_ge, out_lt, out_eqI, out_neI, out_int, out_abs, out_gcd, List.map_cons, List.map_nil, List.length_cons, List.length_nil, List.replicate, List.cons_append, List.nil_append, List.append_nil, List.getElem?_cons_zero, List.getElem?_cons_succ, List.set_cons_zero, List.set_cons_succ, PV.bl.injEq, PV.int.injEq, PV.str.injEq, exists_eq_left', exists_eq_left, and_true, true_and, if_true, if_false, Bool.false_eq_true, Bool.true_eq_false, decide_eq_true_eq, Nat.sub_self, Nat.reduceAdd, Nat.reduceSub, Nat.reduceLeDiff, List.cons.injEq, List.cons_append, hso2, it_l]
    refine ⟨Nat.zero_le _, ?_⟩
    refine for_inv (IvU D x0 x2 (some (.ref t)) (some (.str (dD D).shown)) x6 B rest) ((D.rs.map (·.name)).map .str) ((D.rs.map (·.name)).map .str) 0 _ _ ?_ ?_ ⟨x8, x9, rfl, rfl⟩
    · rintro i v env s hv ⟨x8, x9, rfl, rfl⟩
      rw [hmm, List.getElem?_map, Option.map_eq_some_iff] at hv
      obtain ⟨r, hr, rfl⟩ := hv
      rw [Nat.zero_add] at *
      have hrm := List.mem_of_getElem? hr
      have hrnd := hD.rnd r hrm
      have hr4 := hrnd.rlen
      obtain ⟨es', k1, k2, k3⟩ := mono (.lst (deedsOf (D.rs.take i)))
      obtain ⟨l, d, g1, g2, g3, g4, ws, g5, g6, g7⟩ := k3 r hrm
      have q1 : oIxD (.ref t) (.str r.name) (B :: (rest ++ [.lst (deedsOf (D.rs.take i))])) = some (.ref l) := by rw [ixD_ref (f := PV.ref) k1, g1]; rfl
      have hwl : ws.length = r.res.length := by
        have := congrArg List.length g6
        rwa [List.length_map, List.length_map] at this
      have q2 : oSorted [.ref d] (B :: (rest ++ [.lst (deedsOf (D.rs.take i))])) = some ((r.res.map (·.1)).map .str) := by
        rw [sorted_ref (f := PV.ref) g5 (by omega) fun z hz => ?_, g6, srt_self hrnd.rsrt]
        rw [g6] at hz
        obtain ⟨e, he, rfl⟩ := List.mem_map.mp hz
        exact (hrnd.rnm e he).line
      simp only [os_seq, os_skip, os_brk, os_cont, os_retN, os_drop, os_ret, os_retA, os_set, os_setA, os_if, os_asg, os_par, os_aug, os_put, os_augP, os_for, ok_var, ok_c, ok_nil, ok_cons, ok_tup, ok_lst, ok_new, ok_tst, ok_andT, ok_orT, ok_notT, ok_and, ok_or, ok_not, ok_if, ok_op, ok_un, ok_cl, ok_clF, ok_call, ok_mk, ok_noPart, ok_part, ok_cut, ok_mt, ok_chain, ok_it, ok_range1, ok_range2, ok_lc, ok_yes, out_some, out_none, out_add, out_sub, out_neg, out_le, out_gt, out_ge, out_lt, out_eqI, out_neI, out_int, out_abs, out_gcd, List.map_cons, List.map_nil, List.length_cons, List.length_nil, List.replicate, List.cons_append, List.nil_append, List.append_nil, List.getElem?_cons_zero, List.getElem?_cons_succ, List.set_cons_zero, List.set_cons_succ, PV.bl.injEq, PV.int.injEq, PV.str.injEq, exists_eq_left', exists_eq_left, and_true, true_and, if_true, if_false, Bool.false_eq_true, Bool.true_eq_false, decide_eq_true_eq, Nat.sub_self, Nat.reduceAdd, Nat.reduceSub, Nat.reduceLeDiff, List.cons.injEq, rcv_end, q1, (row_ix g4).2.2.1, q2, it_l, wipeM]
      rw [comp_strs (p := fun _ => true) (g := fun w => .tup [.str r.name, .str w]) chk_none (r.res.map (·.1)) fun w _ => ⟨rfl, fun _ => ok_eq (by simp only [os_seq, os_skip, os_brk, os_cont, os_retN, os_drop, os_ret, os_retA, os_set, os_setA, os_if, os_asg, os_par, os_aug, os_put, os_augP, os_for, ok_var, ok_c, ok_nil, ok_cons, ok_tup, ok_lst, ok_new, ok_tst, ok_andT, ok_orT, ok_notT, ok_and, ok_or, ok_not, ok_if, ok_op, ok_un, ok_cl, ok_clF, ok_call, ok_mk, ok_noPart, ok_part, ok_cut, ok_mt, ok_chain, ok_it, ok_range1, ok_range2, ok_lc, ok_yes, out_some, out_none, out_add, out_sub, out_neg, out_le, out_gt, out_ge, out_lt, out_eqI, out_neI, out_int, out_abs, out_gcd, List.map_cons, List.map_nil, List.length_cons, List.length_nil, List.replicate, List.cons_append, List.nil_append, List.append_nil, List.getElem?_cons_zero, List.getElem?_cons_succ, List.set_cons_zero, List.set_cons_succ, PV.bl.injEq, PV.int.injEq, PV.str.injEq, exists_eq_left', exists_eq_left, and_true, true_and, if_true, if_false, Bool.false_eq_true, Bool.true_eq_false, decide_eq_true_eq, Nat.sub_self, Nat.reduceAdd, Nat.reduceSub, Nat.reduceLeDiff, List.cons.injEq, sl (show 2 ≤ 1000 by decide)])⟩, out_some]
      have hdl : (deedsOf (D.rs.take i)).length ≤ 4 * 24 := by
        have : ∀ rs : List Rnd, (∀ r ∈ rs, r.res.length ≤ 4) → (deedsOf rs).length ≤ 4 * rs.length := fun rs => by
          induction rs with
          | nil => intro _; exact Nat.le_refl _
          | cons r rs ih =>
            intro h
            have h1 := ih fun r hr => h r (List.mem_cons_of_mem _ hr)
            have h2 := h r List.mem_cons_self
            unfold deedsOf at h1 ⊢
            rw [List.flatMap_cons, List.length_append, List.length_map, List.length_cons]
            omega
        have h1 := this (D.rs.take i) fun r hr => (hD.rnd r (List.mem_of_mem_take hr)).rlen
        rw [List.length_take] at h1
        omega
      simp only [filt, ext_end, out_iff1, out_some, List.length_map]
      refine ⟨small_line (by omega), _, _, rfl, ?_⟩
      have : deedsOf (D.rs.take (i + 1)) = deedsOf (D.rs.take i) ++ ((r.res.map (·.1)).map fun w => PV.tup [.str r.name, .str w]) := by
        unfold deedsOf
        rw [List.take_succ, hr, List.flatMap_append, List.map_map]
        simp only [Option.toList_some, List.flatMap_cons, List.flatMap_nil, List.append_nil]
        rfl
      rw [this]
    · rintro env s ⟨x8, x9, rfl, rfl⟩
      have hdd : deedsOf (D.rs.take (0 + ((D.rs.map (·.name)).map PV.str).length)) = deeds D := by
        rw [Nat.zero_add, List.length_map, List.length_map, List.take_length]
        rfl
      rw [hdd]
      obtain ⟨ds, f1, f2, f3⟩ := deeds_data (deeds_nm hD)
      have e3 : dataP (.tup (deeds D)) = some (.tuple ds) := by simp only [dataP, f1, Option.map_some]
      have hdl := deeds_len hD
      have s3 : Sm (.tuple ds) (19 * 100) 2 := sm_tup f3 (by omega)
      simp only [os_seq, os_skip, os_brk, os_cont, os_retN, os_drop, os_ret, os_retA, os_set, os_setA, os_if, os_asg, os_par, os_aug, os_put, os_augP, os_for, ok_var, ok_c, ok_nil, ok_cons, ok_tup, ok_lst, ok_new, ok_tst, ok_andT, ok_orT, ok_notT, ok_and, ok_or, ok_not, ok_if, ok_op, ok_un, ok_cl, ok_clF, ok_call, ok_mk, ok_noPart, ok_part, ok_cut, ok_mt, ok_chain, ok_it, ok_range1, ok_range2, ok_lc, ok_yes, out_some, out_none, out_add, out_sub, out_neg, out_le, out_gt, out_ge, out_lt, out_eqI, out_neI, out_int, out_abs, out_gcd, List.map_cons, List.map_nil, List.length_cons, List.length_nil, List.replicate, List.cons_append, List.nil_append, List.append_nil, List.getElem?_cons_zero, List.getElem?_cons_succ, List.set_cons_zero, List.set_cons_succ, PV.bl.injEq, PV.int.injEq, PV.str.injEq, exists_eq_left', exists_eq_left, and_true, true_and, if_true, if_false, Bool.false_eq_true, Bool.true_eq_false, decide_eq_true_eq, Nat.sub_self, Nat.reduceAdd, Nat.reduceSub, Nat.reduceLeDiff, List.cons.injEq, k_all_deeds hD, tuple_end, k_alikeV e3 (by simp) (by simp) s3 (by decide) (by decide), k_looked hD (mono _), hsh, Bool.not_true]
      rw [Ge.ne_str, out_some]
      refine ⟨false, by simp, ?_⟩
      simp only [Bool.false_eq_true, if_false]
      exact ⟨_, _, _, _, _, _, _, _, _, _, rfl, rfl, hB⟩
noncomputable def bTurnL : MS := mSeq (mSet 3 (mCall0 f__law_drawn (mCons (mVar 1) (mCons (mCall0 f__law_some (mCons (mVar 1) (mCons (mNew (mLst (mCons (mC (.int 3)) (mCons (mC (.int 4)) (mCons (mC (.int 6)) (mCons (mC (.int 1)) mNil)))))) mNil))) (mCons (mCall0 f__law_some (mCons (mVar 1) (mCons (mNew (mLst (mCons (mC (.int 6)) (mCons (mC (.int 12)) (mCons (mC (.int 24)) mNil))))) mNil))) mNil))))) (mSeq (mAsg (.tup [(.nm 4), (.nm 5)]) (mTup (mCons (mCall0 f__law_table (mCons (mVar 3) mNil)) (mCons (mCl oRepr (mCons (mVar 3) mNil)) mNil)))) bLook)
theorem e_law : b_law = mSeq (mSet 1 (mCall0 f__law_bag (mCons (mVar 0) mNil))) (mSeq (mFor (.nm 2) (mRange1 (mCons (mC (.int 3)) mNil)) bTurnL) (mRet (mC (.bl true)))) := rfl
theorem turn_ok {B : MO} {rest : Sto} {x0 x2 x3 x4 x5 x6 x7 x8 x9 : Option PV} (hB : BagO B) {N C : QN} {R : QV} :
    OkS bTurnL [x0, some (.ref 0), x2, x3, x4, x5, x6, x7, x8, x9] (B :: rest) (IvT x0 0) R N C := by
  simp only [bTurnL, os_seq, os_skip, os_brk, os_cont, os_retN, os_drop, os_ret, os_retA, os_set, os_setA, os_if, os_asg, os_par, os_aug, os_put, os_augP, os_for, ok_var, ok_c, ok_nil, ok_cons, ok_tup, ok_lst, ok_new, ok_tst, ok_andT, ok_orT, ok_notT, ok_and, ok_or, ok_not, ok_if, ok_op, ok_un, ok_cl, ok_clF, ok_call, ok_mk, ok_noPart, ok_part, ok_cut, ok_mt, ok_chain, ok_it, ok_range1, ok_range2, ok_lc, ok_yes, out_some, out_none, out_add, out_sub, out_neg, out_le, out_gt, out_ge, out_lt, out_eqI, out_neI, out_int, out_abs, out_gcd, List.map_cons, List.map_nil, List.length_cons, List.length_nil, List.replicate, List.cons_append, List.nil_append, List.append_nil, List.getElem?_cons_zero, List.getElem?_cons_succ, List.set_cons_zero, List.set_cons_succ, PV.bl.injEq, PV.int.injEq, PV.str.injEq, exists_eq_left', exists_eq_left, and_true, true_and, if_true, if_false, Bool.false_eq_true, Bool.true_eq_false, decide_eq_true_eq, Nat.sub_self, Nat.reduceAdd, Nat.reduceSub, Nat.reduceLeDiff, List.cons.injEq, e_some, e_drawn, sl (show 4 ≤ 1000 by decide), sl (show 3 ≤ 1000 by decide)]
  refine (some_lst hB (by simp) (by simp)).imp fun v s q => ?_
  obtain ⟨B1, hv, rfl, hB1⟩ := q
  obtain ⟨mp, rfl, m1, m2⟩ : ∃ mp, v = .int mp ∧ 1 ≤ mp ∧ mp ≤ 6 := by
    simp only [List.mem_cons, List.not_mem_nil, or_false] at hv
    rcases hv with rfl | rfl | rfl | rfl <;> exact ⟨_, rfl, by omega, by omega⟩
  refine (some_lst hB1 (by simp) (by simp)).imp fun v s q => ?_
  obtain ⟨B2, hv, rfl, hB2⟩ := q
  obtain ⟨mr, rfl, r1, r2⟩ : ∃ mr, v = .int mr ∧ 2 ≤ mr ∧ mr ≤ 24 := by
    simp only [List.mem_cons, List.not_mem_nil, or_false] at hv
    rcases hv with rfl | rfl | rfl <;> exact ⟨_, rfl, by omega, by omega⟩
  refine (k_drawn hB2 ⟨m1, m2⟩ ⟨r1, r2⟩).imp fun v s q => ?_
  obtain ⟨D, B3, rfl, hD, _, rfl, hB3⟩ := q
  have hsh : ∀ s, oRepr [pvD D] s = some (.str (dD D).shown) := fun s => by
    have e1 : dataV s (pvD D) = some (dD D) := dataP_D D
    simp only [oRepr, e1, (sm_D hD).shows (by decide) (by decide), if_true]
  refine (k_table hD).imp fun v s q => ?_
  obtain ⟨rfl, hT, hf, hl⟩ := q
  simp only [os_seq, os_skip, os_brk, os_cont, os_retN, os_drop, os_ret, os_retA, os_set, os_setA, os_if, os_asg, os_par, os_aug, os_put, os_augP, os_for, ok_var, ok_c, ok_nil, ok_cons, ok_tup, ok_lst, ok_new, ok_tst, ok_andT, ok_orT, ok_notT, ok_and, ok_or, ok_not, ok_if, ok_op, ok_un, ok_cl, ok_clF, ok_call, ok_mk, ok_noPart, ok_part, ok_cut, ok_mt, ok_chain, ok_it, ok_range1, ok_range2, ok_lc, ok_yes, out_some, out_none, out_add, out_sub, out_neg, out_le, out_gt, out_ge, out_lt, out_eqI, out_neI, out_int, out_abs, out_gcd, List.map_cons, List.map_nil, List.length_cons, List.length_nil, List.replicate, List.cons_append, List.nil_append, List.append_nil, List.getElem?_cons_zero, List.getElem?_cons_succ, List.set_cons_zero, List.set_cons_succ, PV.bl.injEq, PV.int.injEq, PV.str.injEq, exists_eq_left', exists_eq_left, and_true, true_and, if_true, if_false, Bool.false_eq_true, Bool.true_eq_false, decide_eq_true_eq, Nat.sub_self, Nat.reduceAdd, Nat.reduceSub, Nat.reduceLeDiff, List.cons.injEq, hsh, sl (show 2 ≤ 1000 by decide), tg2]
  obtain ⟨r', rfl⟩ : ∃ r', s = B3 :: r' := by
    have := hf 0 (by simp)
    cases s with
    | nil => simp at this
    | cons x r' =>
      simp only [List.getElem?_cons_zero, Option.some.injEq] at this
      exact ⟨r', by rw [this]⟩
  exact look_ok hD hB3 hT
theorem law_ok {ns : List Int} (hl : ns.length ≤ 63) : OkF f_law [.rol (ns.map .int)] [] fun v _ => v = .bl true := by
  refine of_defN rfl ?_
  rw [e_law]
  simp only [os_seq, os_skip, os_brk, os_cont, os_retN, os_drop, os_ret, os_retA, os_set, os_setA, os_if, os_asg, os_par, os_aug, os_put, os_augP, os_for, ok_var, ok_c, ok_nil, ok_cons, ok_tup, ok_lst, ok_new, ok_tst, ok_andT, ok_orT, ok_notT, ok_and, ok_or, ok_not, ok_if, ok_op, ok_un, ok_cl, ok_clF, ok_call, ok_mk, ok_noPart, ok_part, ok_cut, ok_mt, ok_chain, ok_it, ok_range1, ok_range2, ok_lc, ok_yes, out_some, out_none, out_add, out_sub, out_neg, out_le, out_gt, out_ge, out_lt, out_eqI, out_neI, out_int, out_abs, out_gcd, List.map_cons, List.map_nil, List.length_cons, List.length_nil, List.replicate, List.cons_append, List.nil_append, List.append_nil, List.getElem?_cons_zero, List.getElem?_cons_succ, List.set_cons_zero, List.set_cons_succ, PV.bl.injEq, PV.int.injEq, PV.str.injEq, exists_eq_left', exists_eq_left, and_true, true_and, if_true, if_false, Bool.false_eq_true, Bool.true_eq_false, decide_eq_true_eq, Nat.sub_self, Nat.reduceAdd, Nat.reduceSub, Nat.reduceLeDiff, List.cons.injEq, e_bag]
  refine (bag_ok hl).imp fun v s q => ?_
  obtain ⟨B, rfl, rfl, hB⟩ := q
  refine ⟨⟨by decide, by have := small_line (n := 100) (by decide); omega⟩, ?_⟩
  refine for_inv (fun k => IvT (some (.rol (ns.map .int))) 0) _ _ 0 _ _ ?_ ?_ ⟨_, _, _, _, _, _, _, _, B, [], rfl, rfl, hB⟩
  · rintro j v env s hv ⟨x2, x3, x4, x5, x6, x7, x8, x9, B, rest, rfl, rfl, hB⟩
    exact turn_ok hB
  · rintro env s ⟨x2, x3, x4, x5, x6, x7, x8, x9, B, rest, rfl, rfl, hB⟩
    trivial
end
end K04

namespace K04
open PySem PySem.Spec PyProof.Rows L2 Mi
def spL (K : PySem.W.Frag) : Sp := fun vs H Q E => spM K 1 f_law vs H Q E
theorem sp_law {K : PySem.W.Frag} {H : Hp} {a : Addr} {ns : List Int} (hl : ns.length ≤ 63) (hS : SqL K H a (ns.map V.int)) : spL K [.ref a] H (fun v _ => v = .bl true) fun _ _ _ => False := by
  have hF : Fz ⟨[], []⟩ H = H := by
    funext b
    unfold Fz
    rw [if_neg (by simp)]
  have hR : ∀ ms : List Int, RepL K H [] (ms.map PV.int) (ms.map V.int) := fun ms => by
    induction ms with
    | nil => simp [RepL]
    | cons m ms ih =>
      simp only [List.map_cons, RepL]
      exact ⟨_, _, rfl, by simp [Rep], ih⟩
  refine ⟨⟨[], []⟩, [], [.rol (ns.map .int)], ⟨rfl, by simp, by simp, by simp, fun i o b e => by simp at e⟩, ?_, rfl, ?_⟩
  · show RepL K (Fz ⟨[], []⟩ H) [] _ _
    rw [hF]
    simp only [RepL, Rep]
    exact ⟨_, _, rfl, ⟨a, _, rfl, hS, hR ns, by rw [List.length_map]; exact small_line (by omega)⟩, rfl⟩
  · obtain ⟨v, s, e, rfl⟩ := law_ok hl
    rw [e]
    intro u H' W' l ss r
    exact bl_inv' r
theorem all_mk {P : Program} {w : World} {K : PySem.W.Frag} {h : Heap} {mg : Str → Option Value} {fa : Addr} (X : K.In h) (G : h.Ns mainGlobals mg) (hfa : mg "law" = some (.ref fa))
    {f0 : Addr} {od0 an0 : Option Addr} {sl0 : Array (Option Value)} {oc0 kV0 dc0 pm0 cd0 ct0 : Value}
    {f1 : Addr} {od1 an1 : Option Addr} {sl1 : Array (Option Value)} {oc1 kV1 dc1 pm1 cd1 ct1 : Value}
    {f2 : Addr} {od2 an2 : Option Addr} {sl2 : Array (Option Value)} {oc2 kV2 dc2 pm2 cd2 ct2 : Value}
    {f3 : Addr} {od3 an3 : Option Addr} {sl3 : Array (Option Value)} {oc3 kV3 dc3 pm3 cd3 ct3 : Value}
    {f4 : Addr} {od4 an4 : Option Addr} {sl4 : Array (Option Value)} {oc4 kV4 dc4 pm4 cd4 ct4 : Value}
    {f5 : Addr} {od5 an5 : Option Addr} {sl5 : Array (Option Value)} {oc5 kV5 dc5 pm5 cd5 ct5 : Value}
    {f6 : Addr} {od6 an6 : Option Addr} {sl6 : Array (Option Value)} {oc6 kV6 dc6 pm6 cd6 ct6 : Value}
    {f7 : Addr} {od7 an7 : Option Addr} {sl7 : Array (Option Value)} {oc7 kV7 dc7 pm7 cd7 ct7 : Value}
    {f8 : Addr} {od8 an8 : Option Addr} {sl8 : Array (Option Value)} {oc8 kV8 dc8 pm8 cd8 ct8 : Value}
    {f9 : Addr} {od9 an9 : Option Addr} {sl9 : Array (Option Value)} {oc9 kV9 dc9 pm9 cd9 ct9 : Value}
    {f10 : Addr} {od10 an10 : Option Addr} {sl10 : Array (Option Value)} {oc10 kV10 dc10 pm10 cd10 ct10 : Value}
    {f11 : Addr} {od11 an11 : Option Addr} {sl11 : Array (Option Value)} {oc11 kV11 dc11 pm11 cd11 ct11 : Value}
    {f12 : Addr} {od12 an12 : Option Addr} {sl12 : Array (Option Value)} {oc12 kV12 dc12 pm12 cd12 ct12 : Value}
    {f13 : Addr} {od13 an13 : Option Addr} {sl13 : Array (Option Value)} {oc13 kV13 dc13 pm13 cd13 ct13 : Value}
    {f14 : Addr} {od14 an14 : Option Addr} {sl14 : Array (Option Value)} {oc14 kV14 dc14 pm14 cd14 ct14 : Value}
    {f15 : Addr} {od15 an15 : Option Addr} {sl15 : Array (Option Value)} {oc15 kV15 dc15 pm15 cd15 ct15 : Value}
    {f16 : Addr} {od16 an16 : Option Addr} {sl16 : Array (Option Value)} {oc16 kV16 dc16 pm16 cd16 ct16 : Value}
    {f17 : Addr} {od17 an17 : Option Addr} {sl17 : Array (Option Value)} {oc17 kV17 dc17 pm17 cd17 ct17 : Value}
    {f18 : Addr} {od18 an18 : Option Addr} {sl18 : Array (Option Value)} {oc18 kV18 dc18 pm18 cd18 ct18 : Value}
    {f19 : Addr} {od19 an19 : Option Addr} {sl19 : Array (Option Value)} {oc19 kV19 dc19 pm19 cd19 ct19 : Value}
    {f20 : Addr} {od20 an20 : Option Addr} {sl20 : Array (Option Value)} {oc20 kV20 dc20 pm20 cd20 ct20 : Value}
    {f21 : Addr} {od21 an21 : Option Addr} {sl21 : Array (Option Value)} {oc21 kV21 dc21 pm21 cd21 ct21 : Value}
    {f22 : Addr} {od22 an22 : Option Addr} {sl22 : Array (Option Value)} {oc22 kV22 dc22 pm22 cd22 ct22 : Value}
    {f23 : Addr} {od23 an23 : Option Addr} {sl23 : Array (Option Value)} {oc23 kV23 dc23 pm23 cd23 ct23 : Value}
    {f24 : Addr} {od24 an24 : Option Addr} {sl24 : Array (Option Value)} {oc24 kV24 dc24 pm24 cd24 ct24 : Value}
    {f25 : Addr} {od25 an25 : Option Addr} {sl25 : Array (Option Value)} {oc25 kV25 dc25 pm25 cd25 ct25 : Value}
    {f26 : Addr} {od26 an26 : Option Addr} {sl26 : Array (Option Value)} {oc26 kV26 dc26 pm26 cd26 ct26 : Value}
    {f27 : Addr} {od27 an27 : Option Addr} {sl27 : Array (Option Value)} {oc27 kV27 dc27 pm27 cd27 ct27 : Value}
    {f28 : Addr} {od28 an28 : Option Addr} {sl28 : Array (Option Value)} {oc28 kV28 dc28 pm28 cd28 ct28 : Value}
    {f29 : Addr} {od29 an29 : Option Addr} {sl29 : Array (Option Value)} {oc29 kV29 dc29 pm29 cd29 ct29 : Value}
    {f30 : Addr} {od30 an30 : Option Addr} {sl30 : Array (Option Value)} {oc30 kV30 dc30 pm30 cd30 ct30 : Value}
    {f31 : Addr} {od31 an31 : Option Addr} {sl31 : Array (Option Value)} {oc31 kV31 dc31 pm31 cd31 ct31 : Value}
    {f32 : Addr} {od32 an32 : Option Addr} {sl32 : Array (Option Value)} {oc32 kV32 dc32 pm32 cd32 ct32 : Value}
    (a0 : PySem.W.nsIn K mainGlobals "parties_of" = some (some (.ref f0)))
    (l0 : K.lookup f0 = some ⟨oc0, od0, .func (PySem.W.fnOf "parties_of" "parties_of" (defArgs s_parties_of) (defBody s_parties_of) (defScope s_parties_of) .none kV0 dc0 pm0 an0 cd0 ct0), sl0⟩)
    (c0 : PySem.W.codeIn K cd0 "parties_of" = true)
    (k0 : PySem.W.keepIn K (.ref f0) = true)
    (a1 : PySem.W.nsIn K mainGlobals "rounds_of" = some (some (.ref f1)))
    (l1 : K.lookup f1 = some ⟨oc1, od1, .func (PySem.W.fnOf "rounds_of" "rounds_of" (defArgs s_rounds_of) (defBody s_rounds_of) (defScope s_rounds_of) .none kV1 dc1 pm1 an1 cd1 ct1), sl1⟩)
    (c1 : PySem.W.codeIn K cd1 "rounds_of" = true)
    (k1 : PySem.W.keepIn K (.ref f1) = true)
    (a2 : PySem.W.nsIn K mainGlobals "round_at" = some (some (.ref f2)))
    (l2 : K.lookup f2 = some ⟨oc2, od2, .func (PySem.W.fnOf "round_at" "round_at" (defArgs s_round_at) (defBody s_round_at) (defScope s_round_at) .none kV2 dc2 pm2 an2 cd2 ct2), sl2⟩)
    (c2 : PySem.W.codeIn K cd2 "round_at" = true)
    (k2 : PySem.W.keepIn K (.ref f2) = true)
    (a3 : PySem.W.nsIn K mainGlobals "lot_of" = some (some (.ref f3)))
    (l3 : K.lookup f3 = some ⟨oc3, od3, .func (PySem.W.fnOf "lot_of" "lot_of" (defArgs s_lot_of) (defBody s_lot_of) (defScope s_lot_of) .none kV3 dc3 pm3 an3 cd3 ct3), sl3⟩)
    (c3 : PySem.W.codeIn K cd3 "lot_of" = true)
    (k3 : PySem.W.keepIn K (.ref f3) = true)
    (a4 : PySem.W.nsIn K mainGlobals "chooser_of" = some (some (.ref f4)))
    (l4 : K.lookup f4 = some ⟨oc4, od4, .func (PySem.W.fnOf "chooser_of" "chooser_of" (defArgs s_chooser_of) (defBody s_chooser_of) (defScope s_chooser_of) .none kV4 dc4 pm4 an4 cd4 ct4), sl4⟩)
    (c4 : PySem.W.codeIn K cd4 "chooser_of" = true)
    (k4 : PySem.W.keepIn K (.ref f4) = true)
    (a5 : PySem.W.nsIn K mainGlobals "words_of" = some (some (.ref f5)))
    (l5 : K.lookup f5 = some ⟨oc5, od5, .func (PySem.W.fnOf "words_of" "words_of" (defArgs s_words_of) (defBody s_words_of) (defScope s_words_of) .none kV5 dc5 pm5 an5 cd5 ct5), sl5⟩)
    (c5 : PySem.W.codeIn K cd5 "words_of" = true)
    (k5 : PySem.W.keepIn K (.ref f5) = true)
    (a6 : PySem.W.nsIn K mainGlobals "nexts_of" = some (some (.ref f6)))
    (l6 : K.lookup f6 = some ⟨oc6, od6, .func (PySem.W.fnOf "nexts_of" "nexts_of" (defArgs s_nexts_of) (defBody s_nexts_of) (defScope s_nexts_of) .none kV6 dc6 pm6 an6 cd6 ct6), sl6⟩)
    (c6 : PySem.W.codeIn K cd6 "nexts_of" = true)
    (k6 : PySem.W.keepIn K (.ref f6) = true)
    (a7 : PySem.W.nsIn K mainGlobals "next_of" = some (some (.ref f7)))
    (l7 : K.lookup f7 = some ⟨oc7, od7, .func (PySem.W.fnOf "next_of" "next_of" (defArgs s_next_of) (defBody s_next_of) (defScope s_next_of) .none kV7 dc7 pm7 an7 cd7 ct7), sl7⟩)
    (c7 : PySem.W.codeIn K cd7 "next_of" = true)
    (k7 : PySem.W.keepIn K (.ref f7) = true)
    (a8 : PySem.W.nsIn K mainGlobals "wants" = some (some (.ref f8)))
    (l8 : K.lookup f8 = some ⟨oc8, od8, .func (PySem.W.fnOf "wants" "wants" (defArgs s_wants) (defBody s_wants) (defScope s_wants) .none kV8 dc8 pm8 an8 cd8 ct8), sl8⟩)
    (c8 : PySem.W.codeIn K cd8 "wants" = true)
    (k8 : PySem.W.keepIn K (.ref f8) = true)
    (a9 : PySem.W.nsIn K mainGlobals "rounds_with" = some (some (.ref f9)))
    (l9 : K.lookup f9 = some ⟨oc9, od9, .func (PySem.W.fnOf "rounds_with" "rounds_with" (defArgs s_rounds_with) (defBody s_rounds_with) (defScope s_rounds_with) .none kV9 dc9 pm9 an9 cd9 ct9), sl9⟩)
    (c9 : PySem.W.codeIn K cd9 "rounds_with" = true)
    (k9 : PySem.W.keepIn K (.ref f9) = true)
    (a10 : PySem.W.nsIn K mainGlobals "all_deeds" = some (some (.ref f10)))
    (l10 : K.lookup f10 = some ⟨oc10, od10, .func (PySem.W.fnOf "all_deeds" "all_deeds" (defArgs s_all_deeds) (defBody s_all_deeds) (defScope s_all_deeds) .none kV10 dc10 pm10 an10 cd10 ct10), sl10⟩)
    (c10 : PySem.W.codeIn K cd10 "all_deeds" = true)
    (k10 : PySem.W.keepIn K (.ref f10) = true)
    (a11 : PySem.W.nsIn K mainGlobals "_law_bag" = some (some (.ref f11)))
    (l11 : K.lookup f11 = some ⟨oc11, od11, .func (PySem.W.fnOf "_law_bag" "_law_bag" (defArgs s__law_bag) (defBody s__law_bag) (defScope s__law_bag) .none kV11 dc11 pm11 an11 cd11 ct11), sl11⟩)
    (c11 : PySem.W.codeIn K cd11 "_law_bag" = true)
    (k11 : PySem.W.keepIn K (.ref f11) = true)
    (a12 : PySem.W.nsIn K mainGlobals "_law_take" = some (some (.ref f12)))
    (l12 : K.lookup f12 = some ⟨oc12, od12, .func (PySem.W.fnOf "_law_take" "_law_take" (defArgs s__law_take) (defBody s__law_take) (defScope s__law_take) .none kV12 dc12 pm12 an12 cd12 ct12), sl12⟩)
    (c12 : PySem.W.codeIn K cd12 "_law_take" = true)
    (k12 : PySem.W.keepIn K (.ref f12) = true)
    (a13 : PySem.W.nsIn K mainGlobals "_law_some" = some (some (.ref f13)))
    (l13 : K.lookup f13 = some ⟨oc13, od13, .func (PySem.W.fnOf "_law_some" "_law_some" (defArgs s__law_some) (defBody s__law_some) (defScope s__law_some) .none kV13 dc13 pm13 an13 cd13 ct13), sl13⟩)
    (c13 : PySem.W.codeIn K cd13 "_law_some" = true)
    (k13 : PySem.W.keepIn K (.ref f13) = true)
    (a14 : PySem.W.nsIn K mainGlobals "_law_mixed" = some (some (.ref f14)))
    (l14 : K.lookup f14 = some ⟨oc14, od14, .func (PySem.W.fnOf "_law_mixed" "_law_mixed" (defArgs s__law_mixed) (defBody s__law_mixed) (defScope s__law_mixed) .none kV14 dc14 pm14 an14 cd14 ct14), sl14⟩)
    (c14 : PySem.W.codeIn K cd14 "_law_mixed" = true)
    (k14 : PySem.W.keepIn K (.ref f14) = true)
    (a15 : PySem.W.nsIn K mainGlobals "_law_alike" = some (some (.ref f15)))
    (l15 : K.lookup f15 = some ⟨oc15, od15, .func (PySem.W.fnOf "_law_alike" "_law_alike" (defArgs s__law_alike) (defBody s__law_alike) (defScope s__law_alike) .none kV15 dc15 pm15 an15 cd15 ct15), sl15⟩)
    (c15 : PySem.W.codeIn K cd15 "_law_alike" = true)
    (k15 : PySem.W.keepIn K (.ref f15) = true)
    (a16 : PySem.W.nsIn K mainGlobals "_law_table" = some (some (.ref f16)))
    (l16 : K.lookup f16 = some ⟨oc16, od16, .func (PySem.W.fnOf "_law_table" "_law_table" (defArgs s__law_table) (defBody s__law_table) (defScope s__law_table) .none kV16 dc16 pm16 an16 cd16 ct16), sl16⟩)
    (c16 : PySem.W.codeIn K cd16 "_law_table" = true)
    (k16 : PySem.W.keepIn K (.ref f16) = true)
    (a17 : PySem.W.nsIn K mainGlobals "_law_dealing" = some (some (.ref f17)))
    (l17 : K.lookup f17 = some ⟨oc17, od17, .func (PySem.W.fnOf "_law_dealing" "_law_dealing" (defArgs s__law_dealing) (defBody s__law_dealing) (defScope s__law_dealing) .none kV17 dc17 pm17 an17 cd17 ct17), sl17⟩)
    (c17 : PySem.W.codeIn K cd17 "_law_dealing" = true)
    (k17 : PySem.W.keepIn K (.ref f17) = true)
    (a18 : PySem.W.nsIn K mainGlobals "_law_parties" = some (some (.ref f18)))
    (l18 : K.lookup f18 = some ⟨oc18, od18, .func (PySem.W.fnOf "_law_parties" "_law_parties" (defArgs s__law_parties) (defBody s__law_parties) (defScope s__law_parties) .none kV18 dc18 pm18 an18 cd18 ct18), sl18⟩)
    (c18 : PySem.W.codeIn K cd18 "_law_parties" = true)
    (k18 : PySem.W.keepIn K (.ref f18) = true)
    (a19 : PySem.W.nsIn K mainGlobals "_law_begun" = some (some (.ref f19)))
    (l19 : K.lookup f19 = some ⟨oc19, od19, .func (PySem.W.fnOf "_law_begun" "_law_begun" (defArgs s__law_begun) (defBody s__law_begun) (defScope s__law_begun) .none kV19 dc19 pm19 an19 cd19 ct19), sl19⟩)
    (c19 : PySem.W.codeIn K cd19 "_law_begun" = true)
    (k19 : PySem.W.keepIn K (.ref f19) = true)
    (a20 : PySem.W.nsIn K mainGlobals "_law_new_name" = some (some (.ref f20)))
    (l20 : K.lookup f20 = some ⟨oc20, od20, .func (PySem.W.fnOf "_law_new_name" "_law_new_name" (defArgs s__law_new_name) (defBody s__law_new_name) (defScope s__law_new_name) .none kV20 dc20 pm20 an20 cd20 ct20), sl20⟩)
    (c20 : PySem.W.codeIn K cd20 "_law_new_name" = true)
    (k20 : PySem.W.keepIn K (.ref f20) = true)
    (a21 : PySem.W.nsIn K mainGlobals "_law_result_of" = some (some (.ref f21)))
    (l21 : K.lookup f21 = some ⟨oc21, od21, .func (PySem.W.fnOf "_law_result_of" "_law_result_of" (defArgs s__law_result_of) (defBody s__law_result_of) (defScope s__law_result_of) .none kV21 dc21 pm21 an21 cd21 ct21), sl21⟩)
    (c21 : PySem.W.codeIn K cd21 "_law_result_of" = true)
    (k21 : PySem.W.keepIn K (.ref f21) = true)
    (a22 : PySem.W.nsIn K mainGlobals "_law_with_copy" = some (some (.ref f22)))
    (l22 : K.lookup f22 = some ⟨oc22, od22, .func (PySem.W.fnOf "_law_with_copy" "_law_with_copy" (defArgs s__law_with_copy) (defBody s__law_with_copy) (defScope s__law_with_copy) .none kV22 dc22 pm22 an22 cd22 ct22), sl22⟩)
    (c22 : PySem.W.codeIn K cd22 "_law_with_copy" = true)
    (k22 : PySem.W.keepIn K (.ref f22) = true)
    (a23 : PySem.W.nsIn K mainGlobals "_law_with_loop" = some (some (.ref f23)))
    (l23 : K.lookup f23 = some ⟨oc23, od23, .func (PySem.W.fnOf "_law_with_loop" "_law_with_loop" (defArgs s__law_with_loop) (defBody s__law_with_loop) (defScope s__law_with_loop) .none kV23 dc23 pm23 an23 cd23 ct23), sl23⟩)
    (c23 : PySem.W.codeIn K cd23 "_law_with_loop" = true)
    (k23 : PySem.W.keepIn K (.ref f23) = true)
    (a24 : PySem.W.nsIn K mainGlobals "_law_with_round" = some (some (.ref f24)))
    (l24 : K.lookup f24 = some ⟨oc24, od24, .func (PySem.W.fnOf "_law_with_round" "_law_with_round" (defArgs s__law_with_round) (defBody s__law_with_round) (defScope s__law_with_round) .none kV24 dc24 pm24 an24 cd24 ct24), sl24⟩)
    (c24 : PySem.W.codeIn K cd24 "_law_with_round" = true)
    (k24 : PySem.W.keepIn K (.ref f24) = true)
    (a25 : PySem.W.nsIn K mainGlobals "_law_with_fold" = some (some (.ref f25)))
    (l25 : K.lookup f25 = some ⟨oc25, od25, .func (PySem.W.fnOf "_law_with_fold" "_law_with_fold" (defArgs s__law_with_fold) (defBody s__law_with_fold) (defScope s__law_with_fold) .none kV25 dc25 pm25 an25 cd25 ct25), sl25⟩)
    (c25 : PySem.W.codeIn K cd25 "_law_with_fold" = true)
    (k25 : PySem.W.keepIn K (.ref f25) = true)
    (a26 : PySem.W.nsIn K mainGlobals "_law_grown" = some (some (.ref f26)))
    (l26 : K.lookup f26 = some ⟨oc26, od26, .func (PySem.W.fnOf "_law_grown" "_law_grown" (defArgs s__law_grown) (defBody s__law_grown) (defScope s__law_grown) .none kV26 dc26 pm26 an26 cd26 ct26), sl26⟩)
    (c26 : PySem.W.codeIn K cd26 "_law_grown" = true)
    (k26 : PySem.W.keepIn K (.ref f26) = true)
    (a27 : PySem.W.nsIn K mainGlobals "_law_turned" = some (some (.ref f27)))
    (l27 : K.lookup f27 = some ⟨oc27, od27, .func (PySem.W.fnOf "_law_turned" "_law_turned" (defArgs s__law_turned) (defBody s__law_turned) (defScope s__law_turned) .none kV27 dc27 pm27 an27 cd27 ct27), sl27⟩)
    (c27 : PySem.W.codeIn K cd27 "_law_turned" = true)
    (k27 : PySem.W.keepIn K (.ref f27) = true)
    (a28 : PySem.W.nsIn K mainGlobals "_law_any" = some (some (.ref f28)))
    (l28 : K.lookup f28 = some ⟨oc28, od28, .func (PySem.W.fnOf "_law_any" "_law_any" (defArgs s__law_any) (defBody s__law_any) (defScope s__law_any) .none kV28 dc28 pm28 an28 cd28 ct28), sl28⟩)
    (c28 : PySem.W.codeIn K cd28 "_law_any" = true)
    (k28 : PySem.W.keepIn K (.ref f28) = true)
    (a29 : PySem.W.nsIn K mainGlobals "_law_in_pairs" = some (some (.ref f29)))
    (l29 : K.lookup f29 = some ⟨oc29, od29, .func (PySem.W.fnOf "_law_in_pairs" "_law_in_pairs" (defArgs s__law_in_pairs) (defBody s__law_in_pairs) (defScope s__law_in_pairs) .none kV29 dc29 pm29 an29 cd29 ct29), sl29⟩)
    (c29 : PySem.W.codeIn K cd29 "_law_in_pairs" = true)
    (k29 : PySem.W.keepIn K (.ref f29) = true)
    (a30 : PySem.W.nsIn K mainGlobals "_law_drawn" = some (some (.ref f30)))
    (l30 : K.lookup f30 = some ⟨oc30, od30, .func (PySem.W.fnOf "_law_drawn" "_law_drawn" (defArgs s__law_drawn) (defBody s__law_drawn) (defScope s__law_drawn) .none kV30 dc30 pm30 an30 cd30 ct30), sl30⟩)
    (c30 : PySem.W.codeIn K cd30 "_law_drawn" = true)
    (k30 : PySem.W.keepIn K (.ref f30) = true)
    (a31 : PySem.W.nsIn K mainGlobals "_law_is_looked_at" = some (some (.ref f31)))
    (l31 : K.lookup f31 = some ⟨oc31, od31, .func (PySem.W.fnOf "_law_is_looked_at" "_law_is_looked_at" (defArgs s__law_is_looked_at) (defBody s__law_is_looked_at) (defScope s__law_is_looked_at) .none kV31 dc31 pm31 an31 cd31 ct31), sl31⟩)
    (c31 : PySem.W.codeIn K cd31 "_law_is_looked_at" = true)
    (k31 : PySem.W.keepIn K (.ref f31) = true)
    (a32 : PySem.W.nsIn K mainGlobals "law" = some (some (.ref f32)))
    (l32 : K.lookup f32 = some ⟨oc32, od32, .func (PySem.W.fnOf "law" "law" (defArgs s_law) (defBody s_law) (defScope s_law) .none kV32 dc32 pm32 an32 cd32 ct32), sl32⟩)
    (c32 : PySem.W.codeIn K cd32 "law" = true)
    (k32 : PySem.W.keepIn K (.ref f32) = true)
    (z_abs : PySem.W.nsIn K mainGlobals "abs" = some none)
    (z_dict : PySem.W.nsIn K mainGlobals "dict" = some none)
    (z_int : PySem.W.nsIn K mainGlobals "int" = some none)
    (z_len : PySem.W.nsIn K mainGlobals "len" = some none)
    (z_list : PySem.W.nsIn K mainGlobals "list" = some none)
    (z_range : PySem.W.nsIn K mainGlobals "range" = some none)
    (z_repr : PySem.W.nsIn K mainGlobals "repr" = some none)
    (z_sorted : PySem.W.nsIn K mainGlobals "sorted" = some none)
    (z_tuple : PySem.W.nsIn K mainGlobals "tuple" = some none)
    : ∃ fd : FuncData, (∀ (s : Shared) (v : Value), BindsTo s fd ⟨[v], []⟩ [("_law_script", v)]) ∧ ∀ base : Heap, K.In base → base.Ns mainGlobals mg → FnG P w K mg base CX0 7 fa fd ["_law_script"] (spL K) := by
  have e := hfa.symm.trans (PySem.W.mg_of X G a32)
  cases e
  have F0 := fun_mk (st := s_parties_of) l0 c0 k0
  have T0 : At K mg "parties_of" s_parties_of ["dealing"] := ⟨_, _, F0, PySem.W.mg_of X G a0, F0.binds fun _ _ _ _ _ _ us hl => match us, hl with | [_], _ => rfl⟩
  have F1 := fun_mk (st := s_rounds_of) l1 c1 k1
  have T1 : At K mg "rounds_of" s_rounds_of ["dealing"] := ⟨_, _, F1, PySem.W.mg_of X G a1, F1.binds fun _ _ _ _ _ _ us hl => match us, hl with | [_], _ => rfl⟩
  have F2 := fun_mk (st := s_round_at) l2 c2 k2
  have T2 : At K mg "round_at" s_round_at ["dealing", "name"] := ⟨_, _, F2, PySem.W.mg_of X G a2, F2.binds fun _ _ _ _ _ _ us hl => match us, hl with | [_, _], _ => rfl⟩
  have F3 := fun_mk (st := s_lot_of) l3 c3 k3
  have T3 : At K mg "lot_of" s_lot_of ["dealing", "name"] := ⟨_, _, F3, PySem.W.mg_of X G a3, F3.binds fun _ _ _ _ _ _ us hl => match us, hl with | [_, _], _ => rfl⟩
  have F4 := fun_mk (st := s_chooser_of) l4 c4 k4
  have T4 : At K mg "chooser_of" s_chooser_of ["dealing", "name"] := ⟨_, _, F4, PySem.W.mg_of X G a4, F4.binds fun _ _ _ _ _ _ us hl => match us, hl with | [_, _], _ => rfl⟩
  have F5 := fun_mk (st := s_words_of) l5 c5 k5
  have T5 : At K mg "words_of" s_words_of ["dealing", "name"] := ⟨_, _, F5, PySem.W.mg_of X G a5, F5.binds fun _ _ _ _ _ _ us hl => match us, hl with | [_, _], _ => rfl⟩
  have F6 := fun_mk (st := s_nexts_of) l6 c6 k6
  have T6 : At K mg "nexts_of" s_nexts_of ["dealing", "name", "word"] := ⟨_, _, F6, PySem.W.mg_of X G a6, F6.binds fun _ _ _ _ _ _ us hl => match us, hl with | [_, _, _], _ => rfl⟩
  have F7 := fun_mk (st := s_next_of) l7 c7 k7
  have T7 : At K mg "next_of" s_next_of ["dealing", "name", "word", "party"] := ⟨_, _, F7, PySem.W.mg_of X G a7, F7.binds fun _ _ _ _ _ _ us hl => match us, hl with | [_, _, _, _], _ => rfl⟩
  have F8 := fun_mk (st := s_wants) l8 c8 k8
  have T8 : At K mg "wants" s_wants ["dealing", "name", "party"] := ⟨_, _, F8, PySem.W.mg_of X G a8, F8.binds fun _ _ _ _ _ _ us hl => match us, hl with | [_, _, _], _ => rfl⟩
  have F9 := fun_mk (st := s_rounds_with) l9 c9 k9
  have T9 : At K mg "rounds_with" s_rounds_with ["dealing", "party"] := ⟨_, _, F9, PySem.W.mg_of X G a9, F9.binds fun _ _ _ _ _ _ us hl => match us, hl with | [_, _], _ => rfl⟩
  have F10 := fun_mk (st := s_all_deeds) l10 c10 k10
  have T10 : At K mg "all_deeds" s_all_deeds ["dealing"] := ⟨_, _, F10, PySem.W.mg_of X G a10, F10.binds fun _ _ _ _ _ _ us hl => match us, hl with | [_], _ => rfl⟩
  have F11 := fun_mk (st := s__law_bag) l11 c11 k11
  have T11 : At K mg "_law_bag" s__law_bag ["_law_script"] := ⟨_, _, F11, PySem.W.mg_of X G a11, F11.binds fun _ _ _ _ _ _ us hl => match us, hl with | [_], _ => rfl⟩
  have F12 := fun_mk (st := s__law_take) l12 c12 k12
  have T12 : At K mg "_law_take" s__law_take ["_law_bag_here", "_law_many"] := ⟨_, _, F12, PySem.W.mg_of X G a12, F12.binds fun _ _ _ _ _ _ us hl => match us, hl with | [_, _], _ => rfl⟩
  have F13 := fun_mk (st := s__law_some) l13 c13 k13
  have T13 : At K mg "_law_some" s__law_some ["_law_bag_here", "_law_things"] := ⟨_, _, F13, PySem.W.mg_of X G a13, F13.binds fun _ _ _ _ _ _ us hl => match us, hl with | [_, _], _ => rfl⟩
  have F14 := fun_mk (st := s__law_mixed) l14 c14 k14
  have T14 : At K mg "_law_mixed" s__law_mixed ["_law_bag_here", "_law_things"] := ⟨_, _, F14, PySem.W.mg_of X G a14, F14.binds fun _ _ _ _ _ _ us hl => match us, hl with | [_, _], _ => rfl⟩
  have F15 := fun_mk (st := s__law_alike) l15 c15 k15
  have T15 : At K mg "_law_alike" s__law_alike ["_law_found", "_law_due"] := ⟨_, _, F15, PySem.W.mg_of X G a15, F15.binds fun _ _ _ _ _ _ us hl => match us, hl with | [_, _], _ => rfl⟩
  have F16 := fun_mk (st := s__law_table) l16 c16 k16
  have T16 : At K mg "_law_table" s__law_table ["_law_dealing_here"] := ⟨_, _, F16, PySem.W.mg_of X G a16, F16.binds fun _ _ _ _ _ _ us hl => match us, hl with | [_], _ => rfl⟩
  have F17 := fun_mk (st := s__law_dealing) l17 c17 k17
  have T17 : At K mg "_law_dealing" s__law_dealing ["_law_parties_here", "_law_table_here"] := ⟨_, _, F17, PySem.W.mg_of X G a17, F17.binds fun _ _ _ _ _ _ us hl => match us, hl with | [_, _], _ => rfl⟩
  have F18 := fun_mk (st := s__law_parties) l18 c18 k18
  have T18 : At K mg "_law_parties" s__law_parties ["_law_bag_here", "_law_most"] := ⟨_, _, F18, PySem.W.mg_of X G a18, F18.binds fun _ _ _ _ _ _ us hl => match us, hl with | [_, _], _ => rfl⟩
  have F19 := fun_mk (st := s__law_begun) l19 c19 k19
  have T19 : At K mg "_law_begun" s__law_begun ["_law_parties_here"] := ⟨_, _, F19, PySem.W.mg_of X G a19, F19.binds fun _ _ _ _ _ _ us hl => match us, hl with | [_], _ => rfl⟩
  have F20 := fun_mk (st := s__law_new_name) l20 c20 k20
  have T20 : At K mg "_law_new_name" s__law_new_name ["_law_bag_here", "_law_known"] := ⟨_, _, F20, PySem.W.mg_of X G a20, F20.binds fun _ _ _ _ _ _ us hl => match us, hl with | [_, _], _ => rfl⟩
  have F21 := fun_mk (st := s__law_result_of) l21 c21 k21
  have T21 : At K mg "_law_result_of" s__law_result_of ["_law_bag_here", "_law_table_here"] := ⟨_, _, F21, PySem.W.mg_of X G a21, F21.binds fun _ _ _ _ _ _ us hl => match us, hl with | [_, _], _ => rfl⟩
  have F22 := fun_mk (st := s__law_with_copy) l22 c22 k22
  have T22 : At K mg "_law_with_copy" s__law_with_copy ["_law_bag_here", "_law_table_here"] := ⟨_, _, F22, PySem.W.mg_of X G a22, F22.binds fun _ _ _ _ _ _ us hl => match us, hl with | [_, _], _ => rfl⟩
  have F23 := fun_mk (st := s__law_with_loop) l23 c23 k23
  have T23 : At K mg "_law_with_loop" s__law_with_loop ["_law_bag_here", "_law_table_here"] := ⟨_, _, F23, PySem.W.mg_of X G a23, F23.binds fun _ _ _ _ _ _ us hl => match us, hl with | [_, _], _ => rfl⟩
  have F24 := fun_mk (st := s__law_with_round) l24 c24 k24
  have T24 : At K mg "_law_with_round" s__law_with_round ["_law_bag_here", "_law_table_here"] := ⟨_, _, F24, PySem.W.mg_of X G a24, F24.binds fun _ _ _ _ _ _ us hl => match us, hl with | [_, _], _ => rfl⟩
  have F25 := fun_mk (st := s__law_with_fold) l25 c25 k25
  have T25 : At K mg "_law_with_fold" s__law_with_fold ["_law_bag_here", "_law_table_here"] := ⟨_, _, F25, PySem.W.mg_of X G a25, F25.binds fun _ _ _ _ _ _ us hl => match us, hl with | [_, _], _ => rfl⟩
  have F26 := fun_mk (st := s__law_grown) l26 c26 k26
  have T26 : At K mg "_law_grown" s__law_grown ["_law_bag_here", "_law_parties_here", "_law_steps", "_law_most"] := ⟨_, _, F26, PySem.W.mg_of X G a26, F26.binds fun _ _ _ _ _ _ us hl => match us, hl with | [_, _, _, _], _ => rfl⟩
  have F27 := fun_mk (st := s__law_turned) l27 c27 k27
  have T27 : At K mg "_law_turned" s__law_turned ["_law_bag_here", "_law_table_here"] := ⟨_, _, F27, PySem.W.mg_of X G a27, F27.binds fun _ _ _ _ _ _ us hl => match us, hl with | [_, _], _ => rfl⟩
  have F28 := fun_mk (st := s__law_any) l28 c28 k28
  have T28 : At K mg "_law_any" s__law_any ["_law_bag_here", "_law_parties_here", "_law_most"] := ⟨_, _, F28, PySem.W.mg_of X G a28, F28.binds fun _ _ _ _ _ _ us hl => match us, hl with | [_, _, _], _ => rfl⟩
  have F29 := fun_mk (st := s__law_in_pairs) l29 c29 k29
  have T29 : At K mg "_law_in_pairs" s__law_in_pairs ["_law_bag_here"] := ⟨_, _, F29, PySem.W.mg_of X G a29, F29.binds fun _ _ _ _ _ _ us hl => match us, hl with | [_], _ => rfl⟩
  have F30 := fun_mk (st := s__law_drawn) l30 c30 k30
  have T30 : At K mg "_law_drawn" s__law_drawn ["_law_bag_here", "_law_most_parties", "_law_most_rounds"] := ⟨_, _, F30, PySem.W.mg_of X G a30, F30.binds fun _ _ _ _ _ _ us hl => match us, hl with | [_, _, _], _ => rfl⟩
  have F31 := fun_mk (st := s__law_is_looked_at) l31 c31 k31
  have T31 : At K mg "_law_is_looked_at" s__law_is_looked_at ["_law_bag_here", "_law_dealing_here", "_law_table_here"] := ⟨_, _, F31, PySem.W.mg_of X G a31, F31.binds fun _ _ _ _ _ _ us hl => match us, hl with | [_, _, _], _ => rfl⟩
  have F32 := fun_mk (st := s_law) l32 c32 k32
  have Gl : Glo mg := { z_abs := PySem.W.mg_none_of X G z_abs, z_dict := PySem.W.mg_none_of X G z_dict, z_int := PySem.W.mg_none_of X G z_int, z_len := PySem.W.mg_none_of X G z_len, z_list := PySem.W.mg_none_of X G z_list, z_range := PySem.W.mg_none_of X G z_range, z_repr := PySem.W.mg_none_of X G z_repr, z_sorted := PySem.W.mg_none_of X G z_sorted, z_tuple := PySem.W.mg_none_of X G z_tuple }
  refine ⟨PySem.W.fnOf "law" "law" (defArgs s_law) (defBody s_law) (defScope s_law) .none kV32 dc32 pm32 an32 cd32 ct32, fun s v => .of_eq rfl, fun base _ _ => ?_⟩
  have D_parties_of := w_parties_of (P := P) (w := w) (base := base) Gl T0
  have D_rounds_of := w_rounds_of (P := P) (w := w) (base := base) Gl T1
  have D_round_at := w_round_at (P := P) (w := w) (base := base) Gl T2 D_rounds_of
  have D_lot_of := w_lot_of (P := P) (w := w) (base := base) Gl T3 D_round_at
  have D_chooser_of := w_chooser_of (P := P) (w := w) (base := base) Gl T4 D_round_at
  have D_words_of := w_words_of (P := P) (w := w) (base := base) Gl T5 D_round_at
  have D_nexts_of := w_nexts_of (P := P) (w := w) (base := base) Gl T6 D_round_at
  have D_next_of := w_next_of (P := P) (w := w) (base := base) Gl T7 D_nexts_of
  have D_wants := w_wants (P := P) (w := w) (base := base) Gl T8 D_lot_of
  have D_rounds_with := w_rounds_with (P := P) (w := w) (base := base) Gl T9
  have D_all_deeds := w_all_deeds (P := P) (w := w) (base := base) Gl T10
  have D__law_bag := w__law_bag (P := P) (w := w) (base := base) Gl T11
  have D__law_take := w__law_take (P := P) (w := w) (base := base) Gl T12
  have D__law_some := w__law_some (P := P) (w := w) (base := base) Gl T13 D__law_take
  have D__law_mixed := w__law_mixed (P := P) (w := w) (base := base) Gl T14 D__law_take
  have D__law_alike := w__law_alike (P := P) (w := w) (base := base) Gl T15
  have D__law_table := w__law_table (P := P) (w := w) (base := base) Gl T16
  have D__law_dealing := w__law_dealing (P := P) (w := w) (base := base) Gl T17
  have D__law_parties := w__law_parties (P := P) (w := w) (base := base) Gl T18 D__law_some D__law_mixed D__law_take
  have D__law_begun := w__law_begun (P := P) (w := w) (base := base) Gl T19
  have D__law_new_name := w__law_new_name (P := P) (w := w) (base := base) Gl T20 D__law_some
  have D__law_result_of := w__law_result_of (P := P) (w := w) (base := base) Gl T21 D__law_some
  have D__law_with_copy := w__law_with_copy (P := P) (w := w) (base := base) Gl T22 D__law_result_of D__law_new_name
  have D__law_with_loop := w__law_with_loop (P := P) (w := w) (base := base) Gl T23 D__law_result_of D__law_new_name
  have D__law_with_round := w__law_with_round (P := P) (w := w) (base := base) Gl T24 D__law_result_of D__law_mixed D__law_take D__law_new_name D__law_some
  have D__law_with_fold := w__law_with_fold (P := P) (w := w) (base := base) Gl T25 D__law_result_of D__law_mixed
  have D__law_grown := w__law_grown (P := P) (w := w) (base := base) Gl T26 D__law_begun D__law_take D__law_with_copy D__law_with_loop D__law_with_fold D__law_with_round
  have D__law_turned := w__law_turned (P := P) (w := w) (base := base) Gl T27 D__law_result_of D__law_some
  have D__law_any := w__law_any (P := P) (w := w) (base := base) Gl T28 D__law_begun D__law_take D__law_mixed D__law_some D__law_new_name
  have D__law_in_pairs := w__law_in_pairs (P := P) (w := w) (base := base) Gl T29 D__law_mixed D__law_begun D__law_take D__law_with_copy D__law_with_loop D__law_with_round
  have D__law_drawn := w__law_drawn (P := P) (w := w) (base := base) Gl T30 D__law_parties D__law_take D__law_in_pairs D__law_any D__law_some D__law_grown D__law_turned D__law_dealing
  have D__law_is_looked_at := w__law_is_looked_at (P := P) (w := w) (base := base) Gl T31 D_words_of D_chooser_of D_lot_of D__law_alike D_wants D_nexts_of D_next_of
  exact (fn_law Gl F32 D__law_bag D__law_some D__law_drawn D__law_table D_rounds_of D_parties_of D__law_alike D_rounds_with D__law_is_looked_at D_all_deeds).weaken fun vs H Q E z => z
end K04
open PySem PySem.W PyProof.Rows
set_option maxHeartbeats 0 in
theorem PySem.Challenge.cw_partedmeet_k04_dealings_looked_at_holds : PySem.Challenge.rw_partedmeet_k04_dealings_looked_at.Holds := by
  w_on; o_law; k_head; (case hw => w_witness2)
  k_fill
  refine Mi.walk_ofG (l := PySem.Challenge.rw_partedmeet_k04_dealings_looked_at) (n := 63) (k := 7) (x := "_law_script") (sp := fun w => K04.spL _) rfl (by decide) rfl ⟨rfl, by decide, by decide⟩ (fun w h Y => PySem.W.kIn_of Y) ?F (fun w H a ns hl hS => K04.sp_law hl hS)
  case F =>
    intro w mg fa h KX G hmg
    refine' K04.all_mk KX G hmg ?a0 ?l0 ?c0 ?k0 ?a1 ?l1 ?c1 ?k1 ?a2 ?l2 ?c2 ?k2 ?a3 ?l3 ?c3 ?k3 ?a4 ?l4 ?c4 ?k4 ?a5 ?l5 ?c5 ?k5 ?a6 ?l6 ?c6 ?k6 ?a7 ?l7 ?c7 ?k7 ?a8 ?l8 ?c8 ?k8 ?a9 ?l9 ?c9 ?k9 ?a10 ?l10 ?c10 ?k10 ?a11 ?l11 ?c11 ?k11 ?a12 ?l12 ?c12 ?k12 ?a13 ?l13 ?c13 ?k13 ?a14 ?l14 ?c14 ?k14 ?a15 ?l15 ?c15 ?k15 ?a16 ?l16 ?c16 ?k16 ?a17 ?l17 ?c17 ?k17 ?a18 ?l18 ?c18 ?k18 ?a19 ?l19 ?c19 ?k19 ?a20 ?l20 ?c20 ?k20 ?a21 ?l21 ?c21 ?k21 ?a22 ?l22 ?c22 ?k22 ?a23 ?l23 ?c23 ?k23 ?a24 ?l24 ?c24 ?k24 ?a25 ?l25 ?c25 ?k25 ?a26 ?l26 ?c26 ?k26 ?a27 ?l27 ?c27 ?k27 ?a28 ?l28 ?c28 ?k28 ?a29 ?l29 ?c29 ?k29 ?a30 ?l30 ?c30 ?k30 ?a31 ?l31 ?c31 ?k31 ?a32 ?l32 ?c32 ?k32 ?z_abs ?z_dict ?z_int ?z_len ?z_list ?z_range ?z_repr ?z_sorted ?z_tuple
    (case a0 => k_is)
    (case l0 => k_is)
    (case c0 => k_is)
    (case k0 => k_is)
    (case a1 => k_is)
    (case l1 => k_is)
    (case c1 => k_is)
    (case k1 => k_is)
    (case a2 => k_is)
    (case l2 => k_is)
    (case c2 => k_is)
    (case k2 => k_is)
    (case a3 => k_is)
    (case l3 => k_is)
    (case c3 => k_is)
    (case k3 => k_is)
    (case a4 => k_is)
    (case l4 => k_is)
    (case c4 => k_is)
    (case k4 => k_is)
    (case a5 => k_is)
    (case l5 => k_is)
    (case c5 => k_is)
    (case k5 => k_is)
    (case a6 => k_is)
    (case l6 => k_is)
    (case c6 => k_is)
    (case k6 => k_is)
    (case a7 => k_is)
    (case l7 => k_is)
    (case c7 => k_is)
    (case k7 => k_is)
    (case a8 => k_is)
    (case l8 => k_is)
    (case c8 => k_is)
    (case k8 => k_is)
    (case a9 => k_is)
    (case l9 => k_is)
    (case c9 => k_is)
    (case k9 => k_is)
    (case a10 => k_is)
    (case l10 => k_is)
    (case c10 => k_is)
    (case k10 => k_is)
    (case a11 => k_is)
    (case l11 => k_is)
    (case c11 => k_is)
    (case k11 => k_is)
    (case a12 => k_is)
    (case l12 => k_is)
    (case c12 => k_is)
    (case k12 => k_is)
    (case a13 => k_is)
    (case l13 => k_is)
    (case c13 => k_is)
    (case k13 => k_is)
    (case a14 => k_is)
    (case l14 => k_is)
    (case c14 => k_is)
    (case k14 => k_is)
    (case a15 => k_is)
    (case l15 => k_is)
    (case c15 => k_is)
    (case k15 => k_is)
    (case a16 => k_is)
    (case l16 => k_is)
    (case c16 => k_is)
    (case k16 => k_is)
    (case a17 => k_is)
    (case l17 => k_is)
    (case c17 => k_is)
    (case k17 => k_is)
    (case a18 => k_is)
    (case l18 => k_is)
    (case c18 => k_is)
    (case k18 => k_is)
    (case a19 => k_is)
    (case l19 => k_is)
    (case c19 => k_is)
    (case k19 => k_is)
    (case a20 => k_is)
    (case l20 => k_is)
    (case c20 => k_is)
    (case k20 => k_is)
    (case a21 => k_is)
    (case l21 => k_is)
    (case c21 => k_is)
    (case k21 => k_is)
    (case a22 => k_is)
    (case l22 => k_is)
    (case c22 => k_is)
    (case k22 => k_is)
    (case a23 => k_is)
    (case l23 => k_is)
    (case c23 => k_is)
    (case k23 => k_is)
    (case a24 => k_is)
    (case l24 => k_is)
    (case c24 => k_is)
    (case k24 => k_is)
    (case a25 => k_is)
    (case l25 => k_is)
    (case c25 => k_is)
    (case k25 => k_is)
    (case a26 => k_is)
    (case l26 => k_is)
    (case c26 => k_is)
    (case k26 => k_is)
    (case a27 => k_is)
    (case l27 => k_is)
    (case c27 => k_is)
    (case k27 => k_is)
    (case a28 => k_is)
    (case l28 => k_is)
    (case c28 => k_is)
    (case k28 => k_is)
    (case a29 => k_is)
    (case l29 => k_is)
    (case c29 => k_is)
    (case k29 => k_is)
    (case a30 => k_is)
    (case l30 => k_is)
    (case c30 => k_is)
    (case k30 => k_is)
    (case a31 => k_is)
    (case l31 => k_is)
    (case c31 => k_is)
    (case k31 => k_is)
    (case a32 => k_is)
    (case l32 => k_is)
    (case c32 => k_is)
    (case k32 => k_is)
    (case z_abs => k_is)
    (case z_dict => k_is)
    (case z_int => k_is)
    (case z_len => k_is)
    (case z_list => k_is)
    (case z_range => k_is)
    (case z_repr => k_is)
    (case z_sorted => k_is)
    (case z_tuple => k_is)

