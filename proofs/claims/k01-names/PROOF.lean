import PyProof.Rows.All
import Wide.All
import OpenK.AllK
import Wide.FinOn
import HandS.ForMost
import HandS.Exc
import HandS.TryOnly
import HandS.ExcOwn
import HandS.WordsExc
import HandS.Wide
import HandS.WideBits
import HandS.EndBits
import HandS.IsInst
import HandS.TupAny
import HandS.Style
import HandS.RevRange
import HandS.Deep
import HandS.Strs
import HandS.Conv
import HandS.Flow
import PySem.Challenge.RW_graftform_k01_names_told
set_option Elab.async false
set_option linter.all false
set_option maxRecDepth 100000
set_option maxHeartbeats 4000000
/-! Mir: each def of the program as a Lean function over plain values (tuples by value, lists, dicts, instances in a heap of their own, numbered), and the proof that the def does what the function says. -/
namespace Mi
open PySem L2

inductive D where
  | non | bl (b : Bool) | int (i : Int) | str (x : Str) | tup (l : List D) | ref (i : Nat)
mutual
def D.dec : (a b : D) → Decidable (a = b)
  | .non, .non => .isTrue rfl
  | .non, .bl _ => .isFalse (fun e => nomatch e)
  | .non, .int _ => .isFalse (fun e => nomatch e)
  | .non, .str _ => .isFalse (fun e => nomatch e)
  | .non, .tup _ => .isFalse (fun e => nomatch e)
  | .non, .ref _ => .isFalse (fun e => nomatch e)
  | .bl _, .non => .isFalse (fun e => nomatch e)
  | .bl a, .bl b => if h : a = b then .isTrue (by rw [h]) else .isFalse (fun e => h (D.bl.inj e))
  | .bl _, .int _ => .isFalse (fun e => nomatch e)
  | .bl _, .str _ => .isFalse (fun e => nomatch e)
  | .bl _, .tup _ => .isFalse (fun e => nomatch e)
  | .bl _, .ref _ => .isFalse (fun e => nomatch e)
  | .int _, .non => .isFalse (fun e => nomatch e)
  | .int _, .bl _ => .isFalse (fun e => nomatch e)
  | .int a, .int b => if h : a = b then .isTrue (by rw [h]) else .isFalse (fun e => h (D.int.inj e))
  | .int _, .str _ => .isFalse (fun e => nomatch e)
  | .int _, .tup _ => .isFalse (fun e => nomatch e)
  | .int _, .ref _ => .isFalse (fun e => nomatch e)
  | .str _, .non => .isFalse (fun e => nomatch e)
  | .str _, .bl _ => .isFalse (fun e => nomatch e)
  | .str _, .int _ => .isFalse (fun e => nomatch e)
  | .str a, .str b => if h : a = b then .isTrue (by rw [h]) else .isFalse (fun e => h (D.str.inj e))
  | .str _, .tup _ => .isFalse (fun e => nomatch e)
  | .str _, .ref _ => .isFalse (fun e => nomatch e)
  | .tup _, .non => .isFalse (fun e => nomatch e)
  | .tup _, .bl _ => .isFalse (fun e => nomatch e)
  | .tup _, .int _ => .isFalse (fun e => nomatch e)
  | .tup _, .str _ => .isFalse (fun e => nomatch e)
  | .tup a, .tup b => match D.decs a b with
    | .isTrue h => .isTrue (by rw [h])
    | .isFalse h => .isFalse (fun e => h (D.tup.inj e))
  | .tup _, .ref _ => .isFalse (fun e => nomatch e)
  | .ref _, .non => .isFalse (fun e => nomatch e)
  | .ref _, .bl _ => .isFalse (fun e => nomatch e)
  | .ref _, .int _ => .isFalse (fun e => nomatch e)
  | .ref _, .str _ => .isFalse (fun e => nomatch e)
  | .ref _, .tup _ => .isFalse (fun e => nomatch e)
  | .ref a, .ref b => if h : a = b then .isTrue (by rw [h]) else .isFalse (fun e => h (D.ref.inj e))
def D.decs : (a b : List D) → Decidable (a = b)
  | [], [] => .isTrue rfl
  | [], _ :: _ => .isFalse (fun e => nomatch e)
  | _ :: _, [] => .isFalse (fun e => nomatch e)
  | a :: r, b :: s => match D.dec a b, D.decs r s with
    | .isTrue h, .isTrue k => .isTrue (by rw [h, k])
    | .isFalse h, _ => .isFalse (fun e => h (List.cons.inj e).1)
    | _, .isFalse k => .isFalse (fun e => k (List.cons.inj e).2)
end
instance : DecidableEq D := D.dec

inductive MO where
  | lst (l : List D) | rol (l : List D) | dK (kvs : List (Key × D)) | ins (c : Str) (fs : List (Str × D))
deriving DecidableEq

abbrev MH := List MO
abbrev Slots := List (Option D)

inductive R (α : Type) where
  | ok (a : α) (h : MH) | exc (x : Str) (fs : List (Str × D)) (h : MH) | bad

def R.bind {α β : Type} (r : R α) (f : α → MH → R β) : R β := match r with
  | .ok a h => f a h
  | .exc x fs h => .exc x fs h
  | .bad => .bad
theorem R.bind_ok {α β : Type} (a : α) (h : MH) (f : α → MH → R β) : (R.ok a h).bind f = f a h := rfl
theorem R.bind_exc {α β : Type} (x : Str) (fs : List (Str × D)) (h : MH) (f : α → MH → R β) : (R.exc x fs h : R α).bind f = .exc x fs h := rfl
theorem R.bind_bad {α β : Type} (f : α → MH → R β) : (R.bad : R α).bind f = .bad := rfl

/-- the written part, the classes by name -/
structure G where
  K : PySem.W.Frag
  cm : Str → Option Addr

/-! ### values and the heap -/
mutual
inductive VR (g : G) (H : Hp) (μ : List Addr) : V → D → Prop
  | non : VR g H μ .non .non
  | bl (b : Bool) : VR g H μ (.bl b) (.bl b)
  | int (i : Int) : VR g H μ (.int i) (.int i)
  | str (x : Str) : VR g H μ (.str x) (.str x)
  | ref {p : Addr} {i : Nat} : μ[i]? = some p → VR g H μ (.ref p) (.ref i)
  | tup {p : Addr} {xs : List V} {ds : List D} : SqT g.K H p xs → VRs g H μ xs ds → VR g H μ (.ref p) (.tup ds)
inductive VRs (g : G) (H : Hp) (μ : List Addr) : List V → List D → Prop
  | nil : VRs g H μ [] []
  | cons {v : V} {d : D} {vs : List V} {ds : List D} : VR g H μ v d → VRs g H μ vs ds → VRs g H μ (v :: vs) (d :: ds)
end
inductive KR {κ : Type} (g : G) (H : Hp) (μ : List Addr) : List (κ × V) → List (κ × D) → Prop
  | nil : KR g H μ [] []
  | cons {k : κ} {v : V} {d : D} {vs : List (κ × V)} {ds : List (κ × D)} : VR g H μ v d → KR g H μ vs ds → KR g H μ ((k, v) :: vs) ((k, d) :: ds)
inductive SR (g : G) (H : Hp) (μ : List Addr) : List (Option V) → Slots → Prop
  | nil : SR g H μ [] []
  | no {o : Option V} {σ : List (Option V)} {ρ : Slots} : SR g H μ σ ρ → SR g H μ (o :: σ) (none :: ρ)
  | yes {v : V} {d : D} {σ : List (Option V)} {ρ : Slots} : VR g H μ v d → SR g H μ σ ρ → SR g H μ (some v :: σ) (some d :: ρ)

/-- a list that is only read -/
def Lk (K : PySem.W.Frag) (H : Hp) (a : Addr) (xs : List V) : Prop :=
  (∃ o, H a = some (.frz o (.lst xs))) ∨ ∃ (o : Obj) (its : Array Value) (n : Nat), K.lookup a = some o ∧ o.cls = .type "list" ∧ o.dict = none ∧ o.data = .seq its n ∧ its.size ≤ sizeLine ∧ Vals xs its.toList
theorem Lk.sq {K : PySem.W.Frag} {H : Hp} {a : Addr} {xs : List V} (h : Lk K H a xs) : SqL K H a xs := by
  rcases h with ⟨o, h⟩ | h
  · exact .inl (.inr ⟨o, h⟩)
  · exact .inr h

def OR (g : G) (H : Hp) (μ : List Addr) (p : Addr) : MO → Prop
  | .lst ds => ∃ xs, H p = some (.lst xs) ∧ VRs g H μ xs ds
  | .rol ds => ∃ xs, Lk g.K H p xs ∧ VRs g H μ xs ds
  | .dK kvs => ∃ kv, H p = some (.dK kv) ∧ KR g H μ kv kvs
  | .ins c fs => ∃ C dx fv, H p = some (.ins C dx fv) ∧ g.cm c = some C ∧ KR g H μ fv fs
def isMut : MO → Bool
  | .rol _ => false
  | _ => true
structure HR (g : G) (H : Hp) (μ : List Addr) (h : MH) : Prop where
  len : μ.length = h.length
  ob : ∀ (i : Nat) (p : Addr) (o : MO), μ[i]? = some p → h[i]? = some o → OR g H μ p o
  nd : ∀ (i j : Nat) (p : Addr) (o u : MO), μ[i]? = some p → μ[j]? = some p → h[i]? = some o → h[j]? = some u → isMut o = true → isMut u = true → i = j

/-- what stands stands on: the tuples, the numbering -/
structure Mon (g : G) (H H' : Hp) (μ μ' : List Addr) : Prop where
  pre : μ <+: μ'
  tups : ∀ p xs, SqT g.K H p xs → SqT g.K H' p xs
section
variable {g : G} {H H1 H2 : Hp} {μ μ1 μ2 : List Addr}
theorem Mon.refl : Mon g H H μ μ := ⟨List.prefix_rfl, fun _ _ h => h⟩
theorem Mon.trans (a : Mon g H H1 μ μ1) (b : Mon g H1 H2 μ1 μ2) : Mon g H H2 μ μ2 := ⟨a.pre.trans b.pre, fun p xs h => b.tups p xs (a.tups p xs h)⟩
theorem Mon.ix (m : Mon g H H1 μ μ1) {i : Nat} {p : Addr} (h : μ[i]? = some p) : μ1[i]? = some p := by
  obtain ⟨t, rfl⟩ := m.pre
  rw [List.getElem?_append_left (List.getElem?_eq_some_iff.mp h).1]
  exact h
mutual
theorem VR.mono (m : Mon g H H1 μ μ1) : ∀ {v : V} {d : D}, VR g H μ v d → VR g H1 μ1 v d
  | _, _, .non => .non
  | _, _, .bl b => .bl b
  | _, _, .int i => .int i
  | _, _, .str x => .str x
  | _, _, .ref h => .ref (m.ix h)
  | _, _, .tup h hs => .tup (m.tups _ _ h) (VRs.mono m hs)
theorem VRs.mono (m : Mon g H H1 μ μ1) : ∀ {vs : List V} {ds : List D}, VRs g H μ vs ds → VRs g H1 μ1 vs ds
  | _, _, .nil => .nil
  | _, _, .cons a b => .cons (VR.mono m a) (VRs.mono m b)
end
theorem KR.mono {κ : Type} (m : Mon g H H1 μ μ1) : ∀ {vs : List (κ × V)} {ds : List (κ × D)}, KR g H μ vs ds → KR g H1 μ1 vs ds
  | _, _, .nil => .nil
  | _, _, .cons a b => .cons (a.mono m) (KR.mono m b)
theorem SR.mono (m : Mon g H H1 μ μ1) : ∀ {σ : List (Option V)} {ρ : Slots}, SR g H μ σ ρ → SR g H1 μ1 σ ρ
  | _, _, .nil => .nil
  | _, _, .no b => .no (SR.mono m b)
  | _, _, .yes a b => .yes (a.mono m) (SR.mono m b)
theorem VRs.length : ∀ {vs : List V} {ds : List D}, VRs g H μ vs ds → vs.length = ds.length
  | _, _, .nil => rfl
  | _, _, .cons _ b => by rw [List.length_cons, List.length_cons, VRs.length b]
theorem VRs.get : ∀ {vs : List V} {ds : List D} {i : Nat} {d : D}, VRs g H μ vs ds → ds[i]? = some d → ∃ v, vs[i]? = some v ∧ VR g H μ v d
  | _, _, _, _, .nil, e => by simp at e
  | _, _, 0, _, .cons a _, e => by
    simp only [List.getElem?_cons_zero, Option.some.injEq] at e
    subst e
    exact ⟨_, rfl, a⟩
  | _, _, i + 1, _, .cons _ b, e => by
    obtain ⟨v, h1, h2⟩ := VRs.get (i := i) b (by simpa using e)
    exact ⟨v, by simpa using h1, h2⟩
theorem VRs.getV : ∀ {vs : List V} {ds : List D} {i : Nat} {v : V}, VRs g H μ vs ds → vs[i]? = some v → ∃ d, ds[i]? = some d ∧ VR g H μ v d
  | _, _, _, _, .nil, e => by simp at e
  | _, _, 0, _, .cons a _, e => by
    simp only [List.getElem?_cons_zero, Option.some.injEq] at e
    subst e
    exact ⟨_, rfl, a⟩
  | _, _, i + 1, _, .cons _ b, e => by
    obtain ⟨v, h1, h2⟩ := VRs.getV (i := i) b (by simpa using e)
    exact ⟨v, by simpa using h1, h2⟩
theorem VRs.append : ∀ {vs ws : List V} {ds es : List D}, VRs g H μ vs ds → VRs g H μ ws es → VRs g H μ (vs ++ ws) (ds ++ es)
  | _, _, _, _, .nil, h => h
  | _, _, _, _, .cons a b, h => .cons a (VRs.append b h)
theorem VRs.take (n : Nat) : ∀ {vs : List V} {ds : List D}, VRs g H μ vs ds → VRs g H μ (vs.take n) (ds.take n) := by
  induction n with
  | zero => intro vs ds _; simp only [List.take_zero]; exact .nil
  | succ n ih =>
    intro vs ds h
    cases h with
    | nil => simp only [List.take_nil]; exact .nil
    | cons a b => simp only [List.take_succ_cons]; exact .cons a (ih b)
theorem VRs.drop (n : Nat) : ∀ {vs : List V} {ds : List D}, VRs g H μ vs ds → VRs g H μ (vs.drop n) (ds.drop n) := by
  induction n with
  | zero => intro vs ds h; exact h
  | succ n ih =>
    intro vs ds h
    cases h with
    | nil => simp only [List.drop_nil]; exact .nil
    | cons a b => simp only [List.drop_succ_cons]; exact ih b
theorem VRs.set (i : Nat) {v : V} {d : D} (r : VR g H μ v d) : ∀ {vs : List V} {ds : List D}, VRs g H μ vs ds → VRs g H μ (vs.set i v) (ds.set i d) := by
  induction i with
  | zero =>
    intro vs ds h
    cases h with
    | nil => exact .nil
    | cons a b => exact .cons r b
  | succ n ih =>
    intro vs ds h
    cases h with
    | nil => exact .nil
    | cons a b => exact .cons a (ih b)
theorem VRs.reverse : ∀ {vs : List V} {ds : List D}, VRs g H μ vs ds → VRs g H μ vs.reverse ds.reverse
  | _, _, .nil => .nil
  | _, _, .cons a b => by
    rw [List.reverse_cons, List.reverse_cons]
    exact (VRs.reverse b).append (.cons a .nil)
theorem VRs.dropLast : ∀ {vs : List V} {ds : List D}, VRs g H μ vs ds → VRs g H μ vs.dropLast ds.dropLast
  | _, _, .nil => .nil
  | _, _, .cons a .nil => .nil
  | _, _, .cons a (.cons b c) => .cons a (VRs.dropLast (.cons b c))
theorem VRs.one {v : V} {d : D} (a : VR g H μ v d) : VRs g H μ [v] [d] := .cons a .nil
theorem SR.get : ∀ {σ : List (Option V)} {ρ : Slots} {i : Nat} {d : D}, SR g H μ σ ρ → ρ[i]? = some (some d) → ∃ v, σ[i]? = some (some v) ∧ VR g H μ v d
  | _, _, _, _, .nil, e => by simp at e
  | _, _, 0, _, .no _, e => by simp at e
  | _, _, 0, _, .yes a _, e => by
    simp only [List.getElem?_cons_zero, Option.some.injEq] at e
    subst e
    exact ⟨_, rfl, a⟩
  | _, _, i + 1, _, .no b, e => by
    obtain ⟨v, h1, h2⟩ := SR.get (i := i) b (by simpa using e)
    exact ⟨v, by simpa using h1, h2⟩
  | _, _, i + 1, _, .yes _ b, e => by
    obtain ⟨v, h1, h2⟩ := SR.get (i := i) b (by simpa using e)
    exact ⟨v, by simpa using h1, h2⟩
theorem SR.set (i : Nat) {v : V} {d : D} (r : VR g H μ v d) : ∀ {σ : List (Option V)} {ρ : Slots}, SR g H μ σ ρ → SR g H μ (σ.set i (some v)) (ρ.set i (some d)) := by
  induction i with
  | zero =>
    intro σ ρ h
    cases h with
    | nil => exact .nil
    | no b => exact .yes r b
    | yes a b => exact .yes r b
  | succ n ih =>
    intro σ ρ h
    cases h with
    | nil => exact .nil
    | no b => exact .no (ih b)
    | yes a b => exact .yes a (ih b)
theorem SR.unset (i : Nat) (o : Option V) : ∀ {σ : List (Option V)} {ρ : Slots}, SR g H μ σ ρ → SR g H μ (σ.set i o) (ρ.set i none) := by
  induction i with
  | zero =>
    intro σ ρ h
    cases h with
    | nil => exact .nil
    | no b => exact .no b
    | yes a b => exact .no b
  | succ n ih =>
    intro σ ρ h
    cases h with
    | nil => exact .nil
    | no b => exact .no (ih b)
    | yes a b => exact .yes a (ih b)
theorem SR.start : ∀ {vs : List V} {ds : List D} (n : Nat), VRs g H μ vs ds → SR g H μ (vs.map some ++ List.replicate n none) (ds.map some ++ List.replicate n none)
  | _, _, n, .nil => by
    show SR g H μ (List.replicate n none) (List.replicate n none)
    induction n with
    | zero => exact .nil
    | succ n ih => rw [List.replicate_succ]; exact .no ih
  | _, _, n, .cons a b => .yes a (SR.start n b)

/-! ### the heap changes -/
/-- a place that may be written: neither a tuple's nor a locked thing's -/
def Saf (H : Hp) (p : Addr) : Prop := ∀ u, H p = some u → (∀ xs, u ≠ .tup xs) ∧ ∀ o v, u ≠ .frz o v
theorem Saf.fresh {p : Addr} (h : H p = none) : Saf H p := fun u e => by rw [h] at e; cases e
theorem Saf.lst {p : Addr} {xs : List V} (h : H p = some (.lst xs)) : Saf H p := fun u e => by
  rw [h] at e
  cases e
  exact ⟨fun _ z => (nomatch z), fun _ _ z => (nomatch z)⟩
theorem Saf.dK {p : Addr} {xs : List (Key × V)} (h : H p = some (.dK xs)) : Saf H p := fun u e => by
  rw [h] at e
  cases e
  exact ⟨fun _ z => (nomatch z), fun _ _ z => (nomatch z)⟩
theorem Saf.ins {p C dx : Addr} {xs : List (Str × V)} (h : H p = some (.ins C dx xs)) : Saf H p := fun u e => by
  rw [h] at e
  cases e
  exact ⟨fun _ z => (nomatch z), fun _ _ z => (nomatch z)⟩
theorem Saf.mon {p : Addr} {o : HO} (s : Saf H p) : Mon g H (upd H p o) μ μ := ⟨List.prefix_rfl, fun q xs h => by
  rcases h with (h | ⟨u, h⟩) | h
  · refine .inl (.inl ?_)
    rw [upd_ne]
    · exact h
    · rintro rfl; exact (s _ h).1 xs rfl
  · refine .inl (.inr ⟨u, ?_⟩)
    rw [upd_ne]
    · exact h
    · rintro rfl; exact (s _ h).2 u _ rfl
  · exact .inr h⟩
theorem OR.mono_at {p : Addr} {o : MO} (m : Mon g H H1 μ μ1) (k : ∀ u, H p = some u → H1 p = some u) (h : OR g H μ p o) : OR g H1 μ1 p o := by
  cases o with
  | lst ds => obtain ⟨xs, a, b⟩ := h; exact ⟨xs, k _ a, b.mono m⟩
  | rol ds =>
    obtain ⟨xs, a, b⟩ := h
    refine ⟨xs, ?_, b.mono m⟩
    rcases a with ⟨u, a⟩ | a
    · exact .inl ⟨u, k _ a⟩
    · exact .inr a
  | dK kvs => obtain ⟨xs, a, b⟩ := h; exact ⟨xs, k _ a, b.mono m⟩
  | ins c fs => obtain ⟨C, dx, xs, a, c', b⟩ := h; exact ⟨C, dx, xs, k _ a, c', b.mono m⟩
theorem OR.mut {p : Addr} {o : MO} (h : OR g H μ p o) (hm : isMut o = true) : ∃ u, H p = some u ∧ (∀ w v, u ≠ .frz w v) := by
  cases o with
  | lst ds => obtain ⟨xs, a, b⟩ := h; exact ⟨_, a, fun _ _ z => nomatch z⟩
  | rol ds => cases hm
  | dK kvs => obtain ⟨xs, a, b⟩ := h; exact ⟨_, a, fun _ _ z => nomatch z⟩
  | ins c fs => obtain ⟨C, dx, xs, a, c', b⟩ := h; exact ⟨_, a, fun _ _ z => nomatch z⟩
/-- a new thing is laid that is no cell of h -/
theorem HR.laid {h : MH} {p : Addr} {o : HO} (r : HR g H μ h) (hp : H p = none) : HR g (upd H p o) μ h :=
  ⟨r.len, fun i q u hi hu => (r.ob i q u hi hu).mono_at (Saf.fresh hp).mon fun w e => by rw [upd_ne (ne_of_none e hp)]; exact e, r.nd⟩
/-- a new cell -/
theorem HR.push {h : MH} {p : Addr} {o : HO} {u : MO} (r : HR g H μ h) (hp : H p = none) (hu : OR g (upd H p o) (μ ++ [p]) p u) : HR g (upd H p o) (μ ++ [p]) (h ++ [u]) := by
  have m : Mon g H (upd H p o) μ (μ ++ [p]) := ⟨List.prefix_append _ _, (Saf.fresh hp : Saf H p).mon (g := g) (μ := μ) (o := o) |>.tups⟩
  have key : ∀ (i : Nat) (q : Addr), (μ ++ [p])[i]? = some q → (i < μ.length ∧ μ[i]? = some q) ∨ (i = μ.length ∧ q = p) := fun i q e => by
    by_cases hi : i < μ.length
    · rw [List.getElem?_append_left hi] at e; exact .inl ⟨hi, e⟩
    · rw [List.getElem?_append_right (by omega)] at e
      have : i - μ.length = 0 := by
        have := (List.getElem?_eq_some_iff.mp e).1
        simp at this; omega
      rw [this] at e
      simp at e
      exact .inr ⟨by omega, e.symm⟩
  have keyh : ∀ (i : Nat) (w : MO), (h ++ [u])[i]? = some w → (i < h.length ∧ h[i]? = some w) ∨ (i = h.length ∧ w = u) := fun i w e => by
    by_cases hi : i < h.length
    · rw [List.getElem?_append_left hi] at e; exact .inl ⟨hi, e⟩
    · rw [List.getElem?_append_right (by omega)] at e
      have : i - h.length = 0 := by
        have := (List.getElem?_eq_some_iff.mp e).1
        simp at this; omega
      rw [this] at e
      simp at e
      exact .inr ⟨by omega, e.symm⟩
  have l := r.len
  refine ⟨by simp [l], fun i q w hi hw => ?_, fun i j q w v hi hj hw hv m1 m2 => ?_⟩
  · rcases key i q hi with ⟨a, b⟩ | ⟨a, b⟩
    · rcases keyh i w hw with ⟨c, d⟩ | ⟨c, d⟩
      · exact (r.ob i q w b d).mono_at m fun x e => by rw [upd_ne (ne_of_none e hp)]; exact e
      · omega
    · rcases keyh i w hw with ⟨c, d⟩ | ⟨c, d⟩
      · omega
      · subst b d; exact hu
  · rcases key i q hi with ⟨a, b⟩ | ⟨a, b⟩ <;> rcases key j q hj with ⟨a', b'⟩ | ⟨a', b'⟩
    · rcases keyh i w hw with ⟨c, d⟩ | ⟨c, d⟩
      · rcases keyh j v hv with ⟨c', d'⟩ | ⟨c', d'⟩
        · exact r.nd i j q w v b b' d d' m1 m2
        · omega
      · omega
    · rcases keyh i w hw with ⟨c, d⟩ | ⟨c, d⟩
      · obtain ⟨x, e, _⟩ := (r.ob i q w b d).mut m1
        subst b'
        rw [hp] at e; cases e
      · omega
    · rcases keyh j v hv with ⟨c, d⟩ | ⟨c, d⟩
      · obtain ⟨x, e, _⟩ := (r.ob j q v b' d).mut m2
        subst b
        rw [hp] at e; cases e
      · omega
    · omega
/-- a cell is written -/
theorem HR.write {h : MH} {i : Nat} {p : Addr} {o : HO} {u w : MO} (r : HR g H μ h) (hi : μ[i]? = some p) (hw : h[i]? = some w) (mw : isMut w = true) (s : Saf H p) (mu : isMut u = true) (hu : OR g (upd H p o) μ p u) : HR g (upd H p o) μ (h.set i u) := by
  have m : Mon g H (upd H p o) μ μ := s.mon
  have hlt : i < h.length := (List.getElem?_eq_some_iff.mp hw).1
  refine ⟨by rw [List.length_set]; exact r.len, fun j q v hj hv => ?_, fun j k q v x hj hk hv hx m1 m2 => ?_⟩
  · by_cases e : i = j
    · subst e
      rw [List.getElem?_set_self hlt] at hv
      rw [hi] at hj
      cases hj; cases hv
      exact hu
    · rw [List.getElem?_set_ne e] at hv
      have old := r.ob j q v hj hv
      cases mv : isMut v with
      | true =>
        refine old.mono_at m fun x ex => ?_
        rw [upd_ne]
        · exact ex
        · rintro rfl; exact e (r.nd i j q w v hi hj hw hv mw mv)
      | false =>
        cases v with
        | rol ds =>
          obtain ⟨xs, a, b⟩ := old
          refine ⟨xs, ?_, b.mono m⟩
          rcases a with ⟨u', a⟩ | a
          · refine .inl ⟨u', ?_⟩
            rw [upd_ne]
            · exact a
            · rintro rfl; exact (s _ a).2 _ _ rfl
          · exact .inr a
        | lst ds => cases mv
        | dK kvs => cases mv
        | ins c fs => cases mv
  · have key : ∀ (j : Nat) (v : MO), (h.set i u)[j]? = some v → isMut v = true → ∃ v', h[j]? = some v' ∧ isMut v' = true := fun j v hv mv => by
      by_cases e : i = j
      · subst e; exact ⟨w, hw, mw⟩
      · rw [List.getElem?_set_ne e] at hv; exact ⟨v, hv, mv⟩
    obtain ⟨v', hv', mv'⟩ := key j v hv m1
    obtain ⟨x', hx', mx'⟩ := key k x hx m2
    exact r.nd j k q v' x' hj hk hv' hx' mv' mx'
end
end Mi

namespace Mi
open PySem L2

/-! ### what is wanted behind -/
/-- an exception of the class named x with these fields -/
def XR (g : G) (H : Hp) (μ : List Addr) (cls : Value) (d : Option Addr) (x : Str) (fs : List (Str × D)) : Prop :=
  ∃ C, cls = .ref C ∧ g.cm x = some C ∧ (fs = [] ∨ ∃ dd fv, d = some dd ∧ H dd = some (.xd fv) ∧ KR g H μ fv fs)
def Bk {α β : Type} (rel : Hp → List Addr → β → α → Prop) (g : G) (H : Hp) (μ : List Addr) (r : R α) (Q : β → Hp → Prop) (W : XK) : Prop := match r with
  | .ok a h' => ∀ b H' μ', Mon g H H' μ μ' → HR g H' μ' h' → rel H' μ' b a → Q b H'
  | .exc x fs h' => ∀ cls d H' μ', Mon g H H' μ μ' → HR g H' μ' h' → XR g H' μ' cls d x fs → W cls d H'
  | .bad => False
abbrev eqR : Hp → List Addr → Bool → Bool → Prop := fun _ _ b a => b = a
abbrev opR : Hp → List Addr → Option Int → Option Int → Prop := fun _ _ b a => b = a
section
variable {g : G} {H H1 : Hp} {μ μ1 : List Addr} {α α' β β' : Type} {rel : Hp → List Addr → β → α → Prop} {rel' : Hp → List Addr → β' → α' → Prop}
theorem Bk.mono {r : R α} {Q : β → Hp → Prop} {W : XK} (m : Mon g H H1 μ μ1) (h : Bk rel g H μ r Q W) : Bk rel g H1 μ1 r Q W := by
  cases r with
  | ok a h' => exact fun b H' μ' m' => h b H' μ' (m.trans m')
  | exc x fs h' => exact fun cls d H' μ' m' => h cls d H' μ' (m.trans m')
  | bad => exact h
theorem Bk.bind {r : R α} {f : α → MH → R α'} {Q : β → Hp → Prop} {Q' : β' → Hp → Prop} {W : XK} (hb : Bk rel' g H μ (r.bind f) Q' W)
    (k : ∀ a h1 b H1 μ1, r = .ok a h1 → Mon g H H1 μ μ1 → HR g H1 μ1 h1 → rel H1 μ1 b a → Bk rel' g H1 μ1 (f a h1) Q' W → Q b H1) : Bk rel g H μ r Q W := by
  cases r with
  | ok a h' => exact fun b H' μ' m hr hv => k a h' b H' μ' rfl m hr hv (Bk.mono m hb)
  | exc x fs h' => exact hb
  | bad => exact hb
end

abbrev ME := Slots → MH → R D
abbrev MT := Slots → MH → R Bool
abbrev MA := Slots → MH → R (List D)
abbrev MP := Slots → MH → R (Option Int)
def tX {α β : Type} (rel : G → Hp → List Addr → β → α → Prop) (g : G) (W : WX) (m : Slots → MH → R α) : St → Hp → (β → Hp → Prop) → Prop := fun σ H Q =>
  ∃ ρ h μ, SR g H μ σ ρ ∧ HR g H μ h ∧ Bk (rel g) g H μ (m ρ h) Q (fun c d H' => W c d σ H')
abbrev tE (g : G) (W : WX) (m : ME) : TE := tX VR g W m
abbrev tT (g : G) (W : WX) (m : MT) : TT := tX (fun _ => eqR) g W m
abbrev tA (g : G) (W : WX) (m : MA) : TA := tX VRs g W m
abbrev tP (g : G) (W : WX) (m : MP) : TO := tX (fun _ => opR) g W m

inductive Out where
  | nx (ρ : Slots) (h : MH) | rt (d : D) (h : MH) | bk (ρ : Slots) (h : MH) | ct (ρ : Slots) (h : MH) | exc (x : Str) (fs : List (Str × D)) (ρ : Slots) (h : MH) | bad
abbrev MS := Slots → MH → Out
def BkS (g : G) (H : Hp) (μ : List Addr) (o : Out) (E : Ends) (W : WX) : Prop := match o with
  | .nx ρ h => ∀ σ' H' μ', Mon g H H' μ μ' → SR g H' μ' σ' ρ → HR g H' μ' h → E.nx σ' H'
  | .rt d h => ∀ v H' μ', Mon g H H' μ μ' → HR g H' μ' h → VR g H' μ' v d → E.rt v H'
  | .bk ρ h => ∀ σ' H' μ', Mon g H H' μ μ' → SR g H' μ' σ' ρ → HR g H' μ' h → E.bk σ' H'
  | .ct ρ h => ∀ σ' H' μ', Mon g H H' μ μ' → SR g H' μ' σ' ρ → HR g H' μ' h → E.ct σ' H'
  | .exc x fs ρ h => ∀ cls d σ' H' μ', Mon g H H' μ μ' → SR g H' μ' σ' ρ → HR g H' μ' h → XR g H' μ' cls d x fs → W cls d σ' H'
  | .bad => False
theorem BkS.mono {g : G} {H H1 : Hp} {μ μ1 : List Addr} {o : Out} {E : Ends} {W : WX} (m : Mon g H H1 μ μ1) (h : BkS g H μ o E W) : BkS g H1 μ1 o E W := by
  cases o with
  | nx ρ h' => exact fun σ' H' μ' m' => h σ' H' μ' (m.trans m')
  | rt d h' => exact fun v H' μ' m' => h v H' μ' (m.trans m')
  | bk ρ h' => exact fun σ' H' μ' m' => h σ' H' μ' (m.trans m')
  | ct ρ h' => exact fun σ' H' μ' m' => h σ' H' μ' (m.trans m')
  | exc x fs ρ h' => exact fun cls d σ' H' μ' m' => h cls d σ' H' μ' (m.trans m')
  | bad => exact h
def tS (g : G) (W : WX) (m : MS) : TS := fun E σ H => ∃ ρ h μ, SR g H μ σ ρ ∧ HR g H μ h ∧ BkS g H μ (m ρ h) E W

/-- an expression's end within a statement -/
def R.out {α : Type} (r : R α) (ρ : Slots) (k : α → MH → Out) : Out := match r with
  | .ok a h => k a h
  | .exc x fs h => .exc x fs ρ h
  | .bad => .bad
theorem R.out_ok {α : Type} (a : α) (h : MH) (ρ : Slots) (k : α → MH → Out) : (R.ok a h).out ρ k = k a h := rfl
theorem R.out_exc {α : Type} (x : Str) (fs : List (Str × D)) (h : MH) (ρ : Slots) (k : α → MH → Out) : (R.exc x fs h : R α).out ρ k = .exc x fs ρ h := rfl
theorem R.out_bad {α : Type} (ρ : Slots) (k : α → MH → Out) : (R.bad : R α).out ρ k = .bad := rfl

section
variable {g : G} {W : WX} {α β α' β' : Type} {rel : G → Hp → List Addr → β → α → Prop} {rel' : G → Hp → List Addr → β' → α' → Prop} {σ : St} {H : Hp} {μ : List Addr} {ρ : Slots} {h : MH}
/-- one part is read; what follows it -/
theorem step {ma : Slots → MH → R α} {f : α → MH → R α'} {Q : β → Hp → Prop} {Q' : β' → Hp → Prop} (sr : SR g H μ σ ρ) (hr : HR g H μ h) (hb : Bk (rel' g) g H μ ((ma ρ h).bind f) Q' (fun c d H' => W c d σ H'))
    (k : ∀ b a h1 H1 μ1, Mon g H H1 μ μ1 → SR g H1 μ1 σ ρ → HR g H1 μ1 h1 → rel g H1 μ1 b a → Bk (rel' g) g H1 μ1 (f a h1) Q' (fun c d H' => W c d σ H') → Q b H1) : tX rel g W ma σ H Q :=
  ⟨ρ, h, μ, sr, hr, Bk.bind hb fun a h1 b H1 μ1 _ m hr1 hv bk => k b a h1 H1 μ1 m (sr.mono m) hr1 hv bk⟩
theorem stepS {ma : Slots → MH → R α} {f : α → MH → Out} {Q : β → Hp → Prop} {E : Ends} (sr : SR g H μ σ ρ) (hr : HR g H μ h) (hb : BkS g H μ ((ma ρ h).out ρ f) E W)
    (k : ∀ b a h1 H1 μ1, Mon g H H1 μ μ1 → SR g H1 μ1 σ ρ → HR g H1 μ1 h1 → rel g H1 μ1 b a → BkS g H1 μ1 (f a h1) E W → Q b H1) : tX rel g W ma σ H Q := by
  refine ⟨ρ, h, μ, sr, hr, ?_⟩
  cases e : ma ρ h with
  | ok a h' =>
    rw [e] at hb
    exact fun b H' μ' m hr' hv => k b a h' H' μ' m (sr.mono m) hr' hv (BkS.mono m hb)
  | exc x fs h' =>
    rw [e] at hb
    exact fun cls d H' μ' m hr' hx => hb cls d σ H' μ' m (sr.mono m) hr' hx
  | bad =>
    rw [e] at hb
    exact hb
end

/-! ### the judgements are monotone -/
section
variable {X : Cx}
theorem pe_mono {e : Expr} {t t' : TE} (h : PE X e t) (hm : ∀ σ H Q, t' σ H Q → t σ H Q) : PE X e t' := ⟨fun pins s σ H Q I q => h.run pins s σ H Q I (hm σ H Q q)⟩
theorem pt_mono {e : Expr} {t t' : TT} (h : PT X e t) (hm : ∀ σ H Q, t' σ H Q → t σ H Q) : PT X e t' := ⟨fun pins s σ H Q I q => h.run pins s σ H Q I (hm σ H Q q)⟩
theorem pw_mono {e : Expr} {t t' : TT} (h : PW X e t) (hm : ∀ σ H Q, t' σ H Q → t σ H Q) : PW X e t' := ⟨fun wh pins s σ H Q I q => h.run wh pins s σ H Q I (hm σ H Q q)⟩
theorem pa_mono {es : List Expr} {t t' : TA} (h : PA X es t) (hm : ∀ σ H Q, t' σ H Q → t σ H Q) : PA X es t' := ⟨fun pos pins s σ H Q I q => h.run pos pins s σ H Q I (hm σ H Q q)⟩
theorem ps_mono {st : Stmt} {t t' : TS} (h : PS X st t) (hm : ∀ E σ H, t' E σ H → t E σ H) : PS X st t' := ⟨fun pins s σ H E I q => h.run pins s σ H E I (hm E σ H q)⟩
theorem pss_mono {st : List Stmt} {t t' : TS} (h : PSs X st t) (hm : ∀ E σ H, t' E σ H → t E σ H) : PSs X st t' := ⟨fun pins s σ H E I q => h.run pins s σ H E I (hm E σ H q)⟩
theorem pe_or2 {e : Expr} {t u : TE} (h : PE X e t) (h' : PE X e u) : PE X e (fun σ H Q => t σ H Q ∨ u σ H Q) := ⟨fun pins s σ H Q I q => by
  rcases q with q | q
  · exact h.run pins s σ H Q I q
  · exact h'.run pins s σ H Q I q⟩
end

/-! ### plain parts -/
def mVar (i : Nat) : ME := fun ρ h => match ρ[i]? with
  | some (some d) => .ok d h
  | _ => .bad
def mC (d : D) : ME := fun _ h => .ok d h
def mBin (f : D → D → MH → R D) (a b : ME) : ME := fun ρ h => (a ρ h).bind fun x h1 => (b ρ h1).bind fun y h2 => f x y h2
def mUn (f : D → MH → R D) (a : ME) : ME := fun ρ h => (a ρ h).bind fun x h1 => f x h1
def mNil : MA := fun _ h => .ok [] h
def mCons (a : ME) (r : MA) : MA := fun ρ h => (a ρ h).bind fun x h1 => (r ρ h1).bind fun xs h2 => .ok (x :: xs) h2
def mTup (a : MA) : ME := fun ρ h => (a ρ h).bind fun xs h1 => if xs.length ≤ 1000000 then .ok (.tup xs) h1 else .bad
def mLst (a : MA) : ME := fun ρ h => (a ρ h).bind fun xs h1 => if xs.length ≤ 1000000 then .ok (.ref h1.length) (h1 ++ [.lst xs]) else .bad
def mCall (F : List D → MH → R D) (a : MA) : ME := fun ρ h => (a ρ h).bind fun xs h1 => F xs h1

/-- an operation by values -/
def S2 (g : G) (r : R2) (f : D → D → MH → R D) : Prop := ∀ (H : Hp) (μ : List Addr) (h : MH) (x y : V) (a b : D) (Q : VK) (W : XK), HR g H μ h → VR g H μ x a → VR g H μ y b → Bk (VR g) g H μ (f a b h) Q W → r x y H Q
def S1 (g : G) (r : V → Hp → VK → Prop) (f : D → MH → R D) : Prop := ∀ (H : Hp) (μ : List Addr) (h : MH) (x : V) (a : D) (Q : VK) (W : XK), HR g H μ h → VR g H μ x a → Bk (VR g) g H μ (f a h) Q W → r x H Q
def SN (g : G) (r : List V → Hp → VK → Prop) (f : List D → MH → R D) : Prop := ∀ (H : Hp) (μ : List Addr) (h : MH) (xs : List V) (ds : List D) (Q : VK) (W : XK), HR g H μ h → VRs g H μ xs ds → Bk (VR g) g H μ (f ds h) Q W → r xs H Q
def SM (g : G) (r : V → List V → Hp → VK → Prop) (f : D → List D → MH → R D) : Prop := ∀ (H : Hp) (μ : List Addr) (h : MH) (x : V) (xs : List V) (a : D) (ds : List D) (Q : VK) (W : XK), HR g H μ h → VR g H μ x a → VRs g H μ xs ds → Bk (VR g) g H μ (f a ds h) Q W → r x xs H Q

section
variable {g : G} {H : Hp} {μ : List Addr} {h : MH} {Q : VK} {W : XK}
/-- the ends of an operation -/
theorem Bk.val {v : V} {d : D} (hb : Bk (VR g) g H μ (.ok d h) Q W) (hr : HR g H μ h) (hv : VR g H μ v d) : Q v H := hb v H μ Mon.refl hr hv
theorem Bk.newT {xs : List V} {ds : List D} {p : Addr} (hb : Bk (VR g) g H μ (.ok (.tup ds) h) Q W) (hr : HR g H μ h) (hv : VRs g H μ xs ds) (hp : H p = none) : Q (.ref p) (upd H p (.tup xs)) := by
  have m : Mon g H (upd H p (.tup xs)) μ μ := (Saf.fresh hp).mon
  exact hb _ _ μ m (hr.laid hp) (.tup (.inl (.inl upd_same)) (hv.mono m))
theorem mon_push {p : Addr} {o : HO} (hp : H p = none) : Mon g H (upd H p o) μ (μ ++ [p]) := ⟨List.prefix_append _ _, ((Saf.fresh hp : Saf H p).mon (g := g) (μ := μ) (o := o)).tups⟩
theorem ix_push {p : Addr} {n : Nat} (l : μ.length = n) : (μ ++ [p])[n]? = some p := by
  subst l
  simp
theorem Bk.newL {xs : List V} {ds : List D} {p : Addr} (hb : Bk (VR g) g H μ (.ok (.ref h.length) (h ++ [.lst ds])) Q W) (hr : HR g H μ h) (hv : VRs g H μ xs ds) (hp : H p = none) : Q (.ref p) (upd H p (.lst xs)) :=
  hb _ _ (μ ++ [p]) (mon_push hp) (hr.push hp ⟨xs, upd_same, hv.mono (mon_push hp)⟩) (.ref (ix_push hr.len))
theorem Bk.setL {xs xs' : List V} {ds ds' : List D} {p : Addr} {i : Nat} {v : V} {d : D} (hb : Bk (VR g) g H μ (.ok d (h.set i (.lst ds'))) Q W) (hr : HR g H μ h) (hi : μ[i]? = some p) (hh : h[i]? = some (.lst ds)) (hp : H p = some (.lst xs)) (hv : VRs g H μ xs' ds') (hd : VR g H μ v d) : Q v (upd H p (.lst xs')) := by
  have m : Mon g H (upd H p (.lst xs')) μ μ := (Saf.lst hp).mon
  exact hb v _ μ m (hr.write hi hh rfl (Saf.lst hp) rfl ⟨xs', upd_same, hv.mono m⟩) (hd.mono m)
/-- a cell that is a list -/
theorem HR.lst {i : Nat} {p : Addr} {ds : List D} (hr : HR g H μ h) (hi : μ[i]? = some p) (hh : h[i]? = some (.lst ds)) : ∃ xs, H p = some (.lst xs) ∧ VRs g H μ xs ds := hr.ob i p _ hi hh
/-- a list that may be read: a cell that changes or not -/
def getL (h : MH) (i : Nat) : Option (List D) := match h[i]? with
  | some (.lst l) => some l
  | some (.rol l) => some l
  | _ => none
theorem HR.list {i : Nat} {p : Addr} {ds : List D} (hr : HR g H μ h) (hi : μ[i]? = some p) (hh : getL h i = some ds) : ∃ xs, SqL g.K H p xs ∧ VRs g H μ xs ds := by
  unfold getL at hh
  split at hh
  · rename_i l e
    cases hh
    obtain ⟨xs, a, b⟩ := hr.ob i p _ hi e
    exact ⟨xs, .inl (.inl a), b⟩
  · rename_i l e
    cases hh
    obtain ⟨xs, a, b⟩ := hr.ob i p _ hi e
    exact ⟨xs, a.sq, b⟩
  · cases hh
end
theorem sz6 {n : Nat} (h : n ≤ 1000000) : n ≤ sizeLine := Nat.le_trans h (by decide)
theorem sz6' {n : Nat} (h : n < 1000000) : n < sizeLine := Nat.lt_trans h (by decide)

section
variable {X : Cx} {g : G} {W : WX} {a b e : Expr} {ma mb : ME} {pos : Pos} {es : List Expr} {mr : MA}
theorem se_var {i : Nat} {x : Str} (hN : X.N[i]? = some x) (hv : Vis X.env.scope x) (hd : (x == ("__debug__" : Str)) = false := by decide) (hcd : (x == ("__classdict__" : Str)) = false := by decide) : PE X (.Name x pos) (tE g W (mVar i)) :=
  pe_mono (pe_var hN hv hd hcd) fun σ H Q ⟨ρ, h, μ, sr, hr, bk⟩ => by
    unfold mVar at bk
    split at bk
    · rename_i d e
      obtain ⟨v, h1, h2⟩ := sr.get e
      exact ⟨v, h1, bk.val hr h2⟩
    · exact bk.elim
theorem mv (i : Nat) {x : Str} {pos : Pos} (hN : X.N[i]? = some x := by rfl) (hv : Vis X.env.scope x := by first | exact Or.inl rfl | exact Or.inr (Or.inl rfl) | exact Or.inr (Or.inr rfl)) (hd : (x == ("__debug__" : Str)) = false := by decide)
    (hcd : (x == ("__classdict__" : Str)) = false := by decide) : PE X (.Name x pos) (tE g W (mVar i)) := se_var hN hv hd hcd
theorem se_const {v : V} {d : D} (h : PE X e (tC v)) (hv : ∀ H μ, VR g H μ v d) : PE X e (tE g W (mC d)) := pe_mono h fun σ H Q ⟨ρ, hh, μ, sr, hr, bk⟩ => bk.val hr (hv H μ)
theorem se_int {i : Int} {j : Nat} : PE X (.Constant (.int i) j pos) (tE g W (mC (.int i))) := se_const pe_int fun _ _ => .int i
theorem se_bl {i : Bool} {j : Nat} : PE X (.Constant (.bool i) j pos) (tE g W (mC (.bl i))) := se_const pe_bl fun _ _ => .bl i
theorem se_non {j : Nat} : PE X (.Constant .none j pos) (tE g W (mC .non)) := se_const pe_non fun _ _ => .non
theorem se_str {x : Str} {j : Nat} : PE X (.Constant (.str x) j pos) (tE g W (mC (.str x))) := se_const pe_str fun _ _ => .str x
theorem se_globS {x y : Str} {t : Tok} (hg : Gl X x) (hm : X.mg x = some (.str y t)) (hd : (x == ("__debug__" : Str)) = false := by decide) : PE X (.Name x pos) (tE g W (mC (.str y))) := se_const (pe_glob (v := .str y) hg hm ⟨t, rfl⟩ hd) fun _ _ => .str y
theorem se_globI {x : Str} {y : Int} {t : Tok} (hg : Gl X x) (hm : X.mg x = some (.int y t)) (hd : (x == ("__debug__" : Str)) = false := by decide) : PE X (.Name x pos) (tE g W (mC (.int y))) := se_const (pe_glob (v := .int y) hg hm ⟨t, rfl⟩ hd) fun _ _ => .int y
/-- two parts by values -/
theorem two {r : R2} {f : D → D → MH → R D} (hs : S2 g r f) {σ : St} {H : Hp} {Q : VK} (q : tE g W (mBin f ma mb) σ H Q) : tOp r (tE g W ma) (tE g W mb) σ H Q := by
  obtain ⟨ρ, h, μ, sr, hr, bk⟩ := q
  exact step sr hr bk fun x a h1 H1 μ1 m1 sr1 hr1 vx bk1 => step sr1 hr1 bk1 fun y b h2 H2 μ2 m2 sr2 hr2 vy bk2 => hs H2 μ2 h2 x y a b Q _ hr2 (vx.mono m2) vy bk2
theorem se_bin {op : Operator} {r : R2} {f : D → D → MH → R D} (ho : OpR X (binaryOp op) r) (hs : S2 g r f) (ha : PE X a (tE g W ma)) (hb : PE X b (tE g W mb)) : PE X (.BinOp a op b pos) (tE g W (mBin f ma mb)) :=
  pe_mono (pe_op ho ha hb) fun σ H Q q => two hs q
theorem se_cmp {op : CmpOp} {r : R2} {f : D → D → MH → R D} (ho : OpR X (compareOp op) r) (hs : S2 g r f) (ha : PE X a (tE g W ma)) (hb : PE X b (tE g W mb)) (hm : behindInMarks op b = false) : PE X (.Compare a [op] [b] pos) (tE g W (mBin f ma mb)) :=
  pe_mono (pe_cmpR ho ha hb hm) fun σ H Q q => two hs q
theorem se_un {op : UnaryOp} {r : V → Hp → VK → Prop} {f : D → MH → R D} (ho : UnR X (unaryOp op) r) (hs : S1 g r f) (ha : PE X a (tE g W ma)) : PE X (.UnaryOp op a pos) (tE g W (mUn f ma)) :=
  pe_mono (pe_un ho ha) fun σ H Q ⟨ρ, h, μ, sr, hr, bk⟩ => step sr hr bk fun x a h1 H1 μ1 m1 sr1 hr1 vx bk1 => hs H1 μ1 h1 x a Q _ hr1 vx bk1
theorem se_ix {r : R2} {f : D → D → MH → R D} (hx : IxR X r) (hs : S2 g r f) (ha : PE X a (tE g W ma)) (hb : PE X b (tE g W mb)) (hp : PlainIx b) : PE X (.Subscript a b pos) (tE g W (mBin f ma mb)) :=
  pe_mono (pe_ix hx ha hb hp) fun σ H Q q => two hs q

/-! ### arguments, displays -/
theorem sa_nil : PA X [] (tA g W mNil) := pa_mono pa_nil fun σ H Q ⟨ρ, h, μ, sr, hr, bk⟩ => bk [] H μ Mon.refl hr .nil
theorem sa_cons (ha : PE X e (tE g W ma)) (hr : PA X es (tA g W mr)) (hs : starEach (e :: es) X.env = (false, eval e X.env) :: starEach es X.env := by rfl) : PA X (e :: es) (tA g W (mCons ma mr)) :=
  pa_mono (pa_cons ha hr hs) fun σ H Q ⟨ρ, h, μ, sr, hr, bk⟩ => step sr hr bk fun x a h1 H1 μ1 m1 sr1 hr1 vx bk1 => step sr1 hr1 bk1 fun xs ds h2 H2 μ2 m2 sr2 hr2 vs bk2 => bk2 (x :: xs) H2 μ2 Mon.refl hr2 (.cons (vx.mono m2) vs)
theorem se_tup {x1 : Nat} (h : PA X es (tA g W mr)) : PE X (.Tuple es x1 pos) (tE g W (mTup mr)) :=
  pe_mono (pe_tup h) fun σ H Q ⟨ρ, h, μ, sr, hr, bk⟩ => step sr hr bk fun xs ds h1 H1 μ1 m1 sr1 hr1 vs bk1 => by
    split at bk1
    · rename_i hl
      exact ⟨by rw [vs.length]; exact sz6 hl, fun p hp => bk1.newT hr1 vs hp⟩
    · exact bk1.elim
theorem se_lst (h : PA X es (tA g W mr)) : PE X (.List es pos) (tE g W (mLst mr)) :=
  pe_mono (pe_lst h) fun σ H Q ⟨ρ, h, μ, sr, hr, bk⟩ => step sr hr bk fun xs ds h1 H1 μ1 m1 sr1 hr1 vs bk1 => by
    split at bk1
    · rename_i hl
      exact ⟨by rw [vs.length]; exact sz6 hl, fun p hp => bk1.newL hr1 vs hp⟩
    · exact bk1.elim
/-! ### calls of built-ins -/
theorem se_callB {x : Str} {p : Pos} {id : String} {r : List V → Hp → VK → Prop} {f : List D → MH → R D} (hc : CallR X (.builtin id) r) (hs : SN g r f) (hg : Gl X x) (hm : X.mg x = none) (hv : bootBuiltins x = some (.builtin id)) (ha : PA X (e :: es) (tA g W mr))
    (hn : x ≠ "__name__" := by decide) (hdb : (x == ("__debug__" : Str)) = false := by decide)
    (he : starEach (e :: es) X.env = (false, eval e X.env) :: starEach es X.env := by rfl) (hpl : (backTo pos (starEach es X.env)).any (·.1) = false := by rfl) : PE X (.Call (.Name x p) (e :: es) [] pos) (tE g W (mCall f mr)) :=
  pe_mono (pe_callB hc hg hm hv ha hn hdb he hpl) fun σ H Q ⟨ρ, h, μ, sr, hr, bk⟩ => step sr hr bk fun xs ds h1 H1 μ1 m1 sr1 hr1 vs bk1 => hs H1 μ1 h1 xs ds Q _ hr1 vs bk1
theorem se_callTy {x : Str} {p : Pos} {T : String} {r : List V → Hp → VK → Prop} {f : List D → MH → R D} (hc : CallR X (.type T) r) (hs : SN g r f) (hg : Gl X x) (hm : X.mg x = none) (hv : bootBuiltins x = some (.type T)) (ha : PA X (e :: es) (tA g W mr))
    (hn : x ≠ "__name__" := by decide) (hdb : (x == ("__debug__" : Str)) = false := by decide)
    (he : starEach (e :: es) X.env = (false, eval e X.env) :: starEach es X.env := by rfl) (hpl : (backTo pos (starEach es X.env)).any (·.1) = false := by rfl) : PE X (.Call (.Name x p) (e :: es) [] pos) (tE g W (mCall f mr)) :=
  pe_mono (pe_callTy hc hg hm hv ha hn hdb he hpl) fun σ H Q ⟨ρ, h, μ, sr, hr, bk⟩ => step sr hr bk fun xs ds h1 H1 μ1 m1 sr1 hr1 vs bk1 => hs H1 μ1 h1 xs ds Q _ hr1 vs bk1
/-! ### methods of built-in types -/
def mMeth (T : D → MH → Bool) (f : D → List D → MH → R D) (a : ME) (r : MA) : ME := fun ρ h => (a ρ h).bind fun x h1 => if T x h1 = true then (r ρ h1).bind fun xs h2 => f x xs h2 else .bad
def isListD (x : D) (h : MH) : Bool := match x with
  | .ref i => (getL h i).isSome
  | _ => false
def isStrD (x : D) (_ : MH) : Bool := match x with
  | .str _ => true
  | _ => false
def isTupD (x : D) (_ : MH) : Bool := match x with
  | .tup _ => true
  | _ => false
/-! ### defs of the program -/
def spM (g : G) (F : List D → MH → R D) : Sp := fun vs H Q E => ∃ ds h μ, VRs g H μ vs ds ∧ HR g H μ h ∧ Bk (VR g) g H μ (F ds h) Q E
theorem se_call {k : Nat} {f : Addr} {fd : FuncData} {ps : List Str} {F : List D → MH → R D} {x : Str} {p : Pos} (FF : FnOk X.prog X.w X.K X.mg X.base (L2.CX X.prog X.w) k f fd ps (spM g F)) (hr : Room k X.A) (tk : Takes X W) (hm : X.mg x = some (.ref f)) (hk : PySem.W.keepIn X.K (.ref f) = true) (hb : Binds X.K fd ps [])
    (ha : PA X (e :: es) (tA g W mr)) (hg : Gl X x := by rfl) (hdb : (x == ("__debug__" : Str)) = false := by decide) (he : starEach (e :: es) X.env = (false, eval e X.env) :: starEach es X.env := by rfl) (hpl : (backTo pos (starEach es X.env)).any (·.1) = false := by rfl) :
    PE X (.Call (.Name x p) (e :: es) [] pos) (tE g W (mCall F mr)) :=
  pe_mono (pe_callS FF hr hg hm hk hb (fun σ => passAt tk σ) ha hdb he hpl) fun σ H Q ⟨ρ, h, μ, sr, hr, bk⟩ => step sr hr bk fun xs ds h1 H1 μ1 m1 sr1 hr1 vs bk1 => ⟨ds, h1, μ1, vs, hr1, bk1⟩

/-! ### tests -/
def mB (a : ME) : MT := fun ρ h => (a ρ h).bind fun x h1 => match x with
  | .bl b => .ok b h1
  | _ => .bad
def mAnd (a b : MT) : MT := fun ρ h => (a ρ h).bind fun x h1 => if x = true then b ρ h1 else .ok false h1
def mOr (a b : MT) : MT := fun ρ h => (a ρ h).bind fun x h1 => if x = true then .ok true h1 else b ρ h1
def mNot (a : MT) : MT := fun ρ h => (a ρ h).bind fun x h1 => .ok (!x) h1
theorem bl_of {σ : St} {H : Hp} {Q : Bool → Hp → Prop} (q : tT g W (mB ma) σ H Q) : tE g W ma σ H fun x H1 => ∃ c, x = .bl c ∧ Q c H1 := by
  obtain ⟨ρ, h, μ, sr, hr, bk⟩ := q
  refine step (rel := VR) (rel' := fun _ => eqR) (ma := ma) sr hr bk fun x a h1 H1 μ1 m1 sr1 hr1 vx bk1 => ?_
  cases vx with
  | bl b => exact ⟨b, rfl, bk1 b H1 μ1 Mon.refl hr1 rfl⟩
  | _ => exact bk1.elim
theorem st_val (ha : PE X a (tE g W ma)) (he : ∀ whole, isTrue a X.env whole = (do let v ← whole; standAt a.pos; holding [v] (truthy v)) := by intro _; rfl) : PT X a (tT g W (mB ma)) :=
  pt_mono (pt_val ha he) fun σ H Q q => bl_of q
theorem st_cmp {op : CmpOp} {r : R2} {f : D → D → MH → R D} (ho : OpR X (compareOp op) r) (hs : S2 g r f) (ha : PE X a (tE g W ma)) (hb : PE X b (tE g W mb)) (hm : behindInMarks op b = false) : PT X (.Compare a [op] [b] pos) (tT g W (mB (mBin f ma mb))) :=
  pt_mono (pt_cmpR ho ha hb hm) fun σ H Q ⟨ρ, h, μ, sr, hr, bk⟩ => by
    refine two (W := W) (f := f) hs ⟨ρ, h, μ, sr, hr, ?_⟩
    refine Bk.bind bk fun a h1 b H1 μ1 _ m hr1 hv bk1 => ?_
    cases hv with
    | bl b => exact ⟨b, rfl, bk1 b H1 μ1 Mon.refl hr1 rfl⟩
    | _ => exact bk1.elim
variable {tm um : MT} {rest : List Expr}
theorem st_not (ha : PT X a (tT g W tm)) : PT X (.UnaryOp .Not a pos) (tT g W (mNot tm)) :=
  pt_mono (pt_not ha) fun σ H Q ⟨ρ, h, μ, sr, hr, bk⟩ => step (rel := fun _ => eqR) (rel' := fun _ => eqR) (ma := tm) (Q' := Q) sr hr bk fun x a h1 H1 μ1 m1 sr1 hr1 vx bk1 => by
    cases vx
    exact bk1 _ H1 μ1 Mon.refl hr1 rfl
theorem sw_and1 (ha : PT X a (tT g W tm)) : PW X (.BoolOp .And [a] pos) (tT g W tm) := pw_and1 ha
theorem sw_or1 (ha : PT X a (tT g W tm)) : PW X (.BoolOp .Or [a] pos) (tT g W tm) := pw_or1 ha
theorem sw_and (ha : PT X a (tT g W tm)) (hb : PW X (.BoolOp .And (b :: rest) pos) (tT g W um)) : PW X (.BoolOp .And (a :: b :: rest) pos) (tT g W (mAnd tm um)) :=
  pw_mono (pw_and ha hb) fun σ H Q ⟨ρ, h, μ, sr, hr, bk⟩ => step (rel := fun _ => eqR) (rel' := fun _ => eqR) (ma := tm) (Q' := Q) sr hr bk fun x a h1 H1 μ1 m1 sr1 hr1 vx bk1 => by
    cases vx
    cases x with
    | true => exact ⟨ρ, h1, μ1, sr1, hr1, bk1⟩
    | false => exact bk1 _ H1 μ1 Mon.refl hr1 rfl
theorem sw_or (ha : PT X a (tT g W tm)) (hb : PW X (.BoolOp .Or (b :: rest) pos) (tT g W um)) : PW X (.BoolOp .Or (a :: b :: rest) pos) (tT g W (mOr tm um)) :=
  pw_mono (pw_or ha hb) fun σ H Q ⟨ρ, h, μ, sr, hr, bk⟩ => step (rel := fun _ => eqR) (rel' := fun _ => eqR) (ma := tm) (Q' := Q) sr hr bk fun x a h1 H1 μ1 m1 sr1 hr1 vx bk1 => by
    cases vx
    cases x with
    | false => exact ⟨ρ, h1, μ1, sr1, hr1, bk1⟩
    | true => exact bk1 _ H1 μ1 Mon.refl hr1 rfl
/-! ### and, or, not as values (of truths) -/
def mAndV (a b : ME) : ME := fun ρ h => (a ρ h).bind fun x h1 => match x with
  | .bl true => b ρ h1
  | .bl false => .ok (.bl false) h1
  | _ => .bad
def mOrV (a b : ME) : ME := fun ρ h => (a ρ h).bind fun x h1 => match x with
  | .bl false => b ρ h1
  | .bl true => .ok (.bl true) h1
  | _ => .bad
def mNotV (a : ME) : ME := fun ρ h => (a ρ h).bind fun x h1 => match x with
  | .bl b => .ok (.bl (!b)) h1
  | _ => .bad
theorem se_one {op : BoolOp} {t : TE} (h : PE X a t) : PE X (.BoolOp op [a] pos) t := pe_one h
theorem se_and (ha : PE X a (tE g W ma)) (hb : PE X (.BoolOp .And (b :: rest) pos) (tE g W mb)) : PE X (.BoolOp .And (a :: b :: rest) pos) (tE g W (mAndV ma mb)) :=
  pe_mono (pe_and ha hb) fun σ H Q ⟨ρ, h, μ, sr, hr, bk⟩ => step (rel := VR) (rel' := VR) (ma := ma) (Q' := Q) sr hr bk fun x a h1 H1 μ1 m1 sr1 hr1 vx bk1 => by
    cases vx with
    | bl b =>
      cases b with
      | true => exact ⟨true, rfl, ρ, h1, μ1, sr1, hr1, bk1⟩
      | false => exact ⟨false, rfl, bk1.val hr1 (.bl false)⟩
    | _ => exact bk1.elim
theorem se_or (ha : PE X a (tE g W ma)) (hb : PE X (.BoolOp .Or (b :: rest) pos) (tE g W mb)) : PE X (.BoolOp .Or (a :: b :: rest) pos) (tE g W (mOrV ma mb)) :=
  pe_mono (pe_or ha hb) fun σ H Q ⟨ρ, h, μ, sr, hr, bk⟩ => step (rel := VR) (rel' := VR) (ma := ma) (Q' := Q) sr hr bk fun x a h1 H1 μ1 m1 sr1 hr1 vx bk1 => by
    cases vx with
    | bl b =>
      cases b with
      | false => exact ⟨false, rfl, ρ, h1, μ1, sr1, hr1, bk1⟩
      | true => exact ⟨true, rfl, bk1.val hr1 (.bl true)⟩
    | _ => exact bk1.elim
theorem se_not (ha : PE X a (tE g W ma)) : PE X (.UnaryOp .Not a pos) (tE g W (mNotV ma)) :=
  pe_mono (pe_not ha) fun σ H Q ⟨ρ, h, μ, sr, hr, bk⟩ => step (rel := VR) (rel' := VR) (ma := ma) (Q' := Q) sr hr bk fun x a h1 H1 μ1 m1 sr1 hr1 vx bk1 => by
    cases vx with
    | bl b => exact ⟨b, rfl, bk1.val hr1 (.bl _)⟩
    | _ => exact bk1.elim
def mIfE (c : MT) (a b : ME) : ME := fun ρ h => (c ρ h).bind fun x h1 => if x = true then a ρ h1 else b ρ h1
theorem se_ifE {c : Expr} (hc : PT X c (tT g W tm)) (ha : PE X a (tE g W ma)) (hb : PE X b (tE g W mb)) : PE X (.IfExp c a b pos) (tE g W (mIfE tm ma mb)) :=
  pe_mono (pe_ifExp hc ha hb) fun σ H Q ⟨ρ, h, μ, sr, hr, bk⟩ => step (rel := fun _ => eqR) (rel' := VR) (ma := tm) (Q' := Q) sr hr bk fun x a h1 H1 μ1 m1 sr1 hr1 vx bk1 => by
    cases vx
    cases x with
    | true => exact ⟨ρ, h1, μ1, sr1, hr1, bk1⟩
    | false => exact ⟨ρ, h1, μ1, sr1, hr1, bk1⟩
end

/-! ### statements -/
def mSkip : MS := fun ρ h => .nx ρ h
def mSeq (a b : MS) : MS := fun ρ h => match a ρ h with
  | .nx ρ' h' => b ρ' h'
  | o => o
def mBreak : MS := fun ρ h => .bk ρ h
def mCont : MS := fun ρ h => .ct ρ h
def mDrop (e : ME) : MS := fun ρ h => (e ρ h).out ρ fun _ h1 => .nx ρ h1
def mRet (e : ME) : MS := fun ρ h => (e ρ h).out ρ fun d h1 => .rt d h1
def mRetN : MS := fun _ h => .rt .non h
def mIf (c : MT) (a b : MS) : MS := fun ρ h => (c ρ h).out ρ fun x h1 => if x = true then a ρ h1 else b ρ h1
def mAsg (i : Nat) (e : ME) : MS := fun ρ h => (e ρ h).out ρ fun d h1 => .nx (ρ.set i (some d)) h1
section
variable {X : Cx} {g : G} {W : WX} {e : Expr} {me : ME} {pos : Pos} {st : Stmt} {rest : List Stmt} {ms mr : MS}
theorem ss_nil : PSs X [] (tS g W mSkip) := pss_mono pss_nil fun E σ H ⟨ρ, h, μ, sr, hr, bk⟩ => bk σ H μ Mon.refl sr hr
theorem seq_of {E : Ends} {σ : St} {H : Hp} (q : tS g W (mSeq ms mr) E σ H) : tSeq (tS g W ms) (tS g W mr) E σ H := by
  obtain ⟨ρ, h, μ, sr, hr, bk⟩ := q
  refine ⟨ρ, h, μ, sr, hr, ?_⟩
  unfold mSeq at bk
  cases e : ms ρ h with
  | nx ρ' h' =>
    rw [e] at bk
    exact fun σ' H' μ' m sr' hr' => ⟨ρ', h', μ', sr', hr', BkS.mono m bk⟩
  | rt d h' => rw [e] at bk; exact bk
  | bk ρ' h' => rw [e] at bk; exact bk
  | ct ρ' h' => rw [e] at bk; exact bk
  | exc x fs ρ' h' => rw [e] at bk; exact bk
  | bad => rw [e] at bk; exact bk
theorem ss_cons (h1 : PS X st (tS g W ms)) (h2 : PSs X rest (tS g W mr)) : PSs X (st :: rest) (tS g W (mSeq ms mr)) := pss_mono (pss_cons h1 h2) fun E σ H q => seq_of q
theorem ss_one (h1 : PS X st (tS g W ms)) : PSs X [st] (tS g W ms) := pss_one h1
theorem sx_pass : PS X (.Pass pos) (tS g W mSkip) := ps_mono ps_pass fun E σ H ⟨ρ, h, μ, sr, hr, bk⟩ => bk σ H μ Mon.refl sr hr
theorem sx_break : PS X (.Break pos) (tS g W mBreak) := ps_mono ps_break fun E σ H ⟨ρ, h, μ, sr, hr, bk⟩ => bk σ H μ Mon.refl sr hr
theorem sx_continue : PS X (.Continue pos) (tS g W mCont) := ps_mono ps_continue fun E σ H ⟨ρ, h, μ, sr, hr, bk⟩ => bk σ H μ Mon.refl sr hr
theorem sx_doc {x : Str} {j : Nat} {pos' : Pos} : PS X (.Expr (.Constant (.str x) j pos) pos') (tS g W mSkip) := ps_mono ps_doc fun E σ H ⟨ρ, h, μ, sr, hr, bk⟩ => bk σ H μ Mon.refl sr hr
theorem sx_expr (he : PE X e (tE g W me)) (hs : swapsWith e none pos.line X.env = pure false := by rfl) : PS X (.Expr e pos) (tS g W (mDrop me)) :=
  ps_mono (ps_expr he hs) fun E σ H ⟨ρ, h, μ, sr, hr, bk⟩ => stepS (rel := VR) (ma := me) (E := E) sr hr bk fun x a h1 H1 μ1 m1 sr1 hr1 vx bk1 => bk1 σ H1 μ1 Mon.refl sr1 hr1
theorem sx_ret (he : PE X e (tE g W me)) : PS X (.Return (some e) pos) (tS g W (mRet me)) :=
  ps_mono (ps_ret he) fun E σ H ⟨ρ, h, μ, sr, hr, bk⟩ => stepS (rel := VR) (ma := me) (E := E) sr hr bk fun x a h1 H1 μ1 m1 sr1 hr1 vx bk1 => bk1 x H1 μ1 Mon.refl hr1 vx
theorem sx_retN : PS X (.Return none pos) (tS g W mRetN) := ps_mono ps_retN fun E σ H ⟨ρ, h, μ, sr, hr, bk⟩ => bk .non H μ Mon.refl hr .non
theorem sx_if {c : Expr} {a b : List Stmt} {tm : MT} (hc : PT X c (tT g W tm)) (ha : PSs X a (tS g W ms)) (hb : PSs X b (tS g W mr)) : PS X (.If c a b pos) (tS g W (mIf tm ms mr)) :=
  ps_mono (ps_if hc ha hb) fun E σ H ⟨ρ, h, μ, sr, hr, bk⟩ => stepS (rel := fun _ => eqR) (ma := tm) (E := E) sr hr bk fun x a h1 H1 μ1 m1 sr1 hr1 vx bk1 => by
    cases vx
    cases x with
    | true => exact ⟨ρ, h1, μ1, sr1, hr1, bk1⟩
    | false => exact ⟨ρ, h1, μ1, sr1, hr1, bk1⟩
theorem sx_set {i : Nat} {x : Str} {pos' : Pos} (he : PE X e (tE g W me)) (hN : X.N.Nodup) (hi : X.N[i]? = some x := by rfl) (hx : Loc X.env.scope x := by first | exact Or.inl rfl | exact Or.inr rfl) (hs : swapsWith e (some (.Name x pos')) pos.line X.env = pure false := by rfl)
    (hf : X.fn x = true ∨ X.env.scope.names.lookup x = some .local := by first | exact .inl rfl | exact .inr rfl | assumption) : PS X (.Assign [.Name x pos'] e pos) (tS g W (mAsg i me)) :=
  ps_mono (ps_set hN hi hx he hs hf) fun E σ H ⟨ρ, h, μ, sr, hr, bk⟩ => stepS (rel := VR) (ma := me) (E := E) sr hr bk fun v d h1 H1 μ1 m1 sr1 hr1 vx bk1 => bk1 _ H1 μ1 Mon.refl (sr1.set i vx) hr1
end
end Mi

namespace Mi
open PySem L2

/-! ### operators by values -/
def dAdd : D → D → MH → R D
  | .int i, .int j, h => .ok (.int (i + j)) h
  | .str x, .str y, h => if x.length + y.length ≤ 1000000 then .ok (.str (x ++ y)) h else .bad
  | .tup a, .tup b, h => if a.length + b.length ≤ 1000000 then .ok (.tup (a ++ b)) h else .bad
  | .ref i, .ref j, h => match h[i]?, h[j]? with
    | some (.lst a), some (.lst b) => if a.length + b.length ≤ 1000000 then .ok (.ref h.length) (h ++ [.lst (a ++ b)]) else .bad
    | _, _ => .bad
  | _, _, _ => .bad
def dSub : D → D → MH → R D
  | .int i, .int j, h => .ok (.int (i - j)) h
  | _, _, _ => .bad
def dMul : D → D → MH → R D
  | .int i, .int j, h => if (Builtin.Int.intBits i : Int) + (Builtin.Int.intBits j : Int) ≤ 134217728 then .ok (.int (i * j)) h else .bad
  | .str x, .int n, h => if n ≤ 1000000 ∧ -1000000 ≤ n ∧ x.length * n.toNat ≤ 1000000 then .ok (.str (Txt.mul x n)) h else .bad
  | _, _, _ => .bad
def dFdiv : D → D → MH → R D
  | .int i, .int j, h => if 0 < j ∧ j.natAbs.log2 < 9000 then .ok (.int (i / j)) h else .bad
  | _, _, _ => .bad
def dMod : D → D → MH → R D
  | .int i, .int j, h => if 0 < j then .ok (.int (i % j)) h else .bad
  | _, _, _ => .bad
def dPow : D → D → MH → R D
  | .int i, .int j, h => if 0 ≤ j ∧ j ≤ 1000000 ∧ i.natAbs < 2 ^ 64 then .ok (.int (i ^ j.toNat)) h else .bad
  | _, _, _ => .bad
def dShl : D → D → MH → R D
  | .int i, .int j, h => if 0 ≤ j ∧ j ≤ 1000000 ∧ i.natAbs < 2 ^ 64 then .ok (.int (i * 2 ^ j.toNat)) h else .bad
  | _, _, _ => .bad
def dBand : D → D → MH → R D
  | .int i, .int j, h => .ok (.int (Builtin.bitAnd i j)) h
  | _, _, _ => .bad
def dBor : D → D → MH → R D
  | .int i, .int j, h => .ok (.int (Builtin.bitOr i j)) h
  | _, _, _ => .bad
def dLt : D → D → MH → R D
  | .int i, .int j, h => .ok (.bl (decide (i < j))) h
  | _, _, _ => .bad
def dLe : D → D → MH → R D
  | .int i, .int j, h => .ok (.bl (decide (i ≤ j))) h
  | _, _, _ => .bad
def dGt : D → D → MH → R D
  | .int i, .int j, h => .ok (.bl (decide (j < i))) h
  | _, _, _ => .bad
def dGe : D → D → MH → R D
  | .int i, .int j, h => .ok (.bl (decide (j ≤ i))) h
  | _, _, _ => .bad
def dNeg : D → MH → R D
  | .int i, h => .ok (.int (-i)) h
  | _, _ => .bad

section
variable {g : G} {X : Cx}
theorem s2_int {C : Int → Int → Prop} [∀ i j, Decidable (C i j)] {o : Int → Int → Int} {f : D → D → MH → R D} (hi : ∀ i j h, f (.int i) (.int j) h = if C i j then .ok (.int (o i j)) h else .bad) (hb : ∀ a b h, (∀ i j, ¬ (a = .int i ∧ b = .int j)) → f a b h = .bad) :
    S2 g (rI C fun i j => .int (o i j)) f := by
  intro H μ h x y a b Q W hr vx vy bk
  have no : (∀ i j, ¬ (a = .int i ∧ b = .int j)) → rI C (fun i j => .int (o i j)) x y H Q := fun z => by rw [hb a b h z] at bk; exact bk.elim
  cases vx with
  | int i =>
    cases vy with
    | int j =>
      rw [hi] at bk
      by_cases c : C i j
      · rw [if_pos c] at bk
        exact ⟨i, j, rfl, rfl, c, bk.val hr (.int _)⟩
      · rw [if_neg c] at bk; exact bk.elim
    | _ => exact no fun _ _ z => nomatch z.2
  | _ => exact no fun _ _ z => nomatch z.1
theorem s2_int0 {o : Int → Int → V} {o' : Int → Int → D} {f : D → D → MH → R D} (hi : ∀ i j h, f (.int i) (.int j) h = .ok (o' i j) h) (hv : ∀ H μ i j, VR g H μ (o i j) (o' i j)) (hb : ∀ a b h, (∀ i j, ¬ (a = .int i ∧ b = .int j)) → f a b h = .bad) :
    S2 g (rI0 o) f := by
  intro H μ h x y a b Q W hr vx vy bk
  have no : (∀ i j, ¬ (a = .int i ∧ b = .int j)) → rI0 o x y H Q := fun z => by rw [hb a b h z] at bk; exact bk.elim
  cases vx with
  | int i =>
    cases vy with
    | int j =>
      rw [hi] at bk
      exact ⟨i, j, rfl, rfl, bk.val hr (hv _ _ _ _)⟩
    | _ => exact no fun _ _ z => nomatch z.2
  | _ => exact no fun _ _ z => nomatch z.1
theorem int_bad {f : D → D → MH → R D} (hf : ∀ (a b : D) (h : MH), (match a, b with | D.int _, D.int _ => True | _, _ => f a b h = .bad)) : ∀ a b h, (∀ i j, ¬ (a = .int i ∧ b = .int j)) → f a b h = .bad := fun a b h z => by
  have := hf a b h
  split at this
  · exact absurd ⟨rfl, rfl⟩ (z _ _)
  · exact this
theorem s2_sub : S2 g (rI0 fun i j => .int (i - j)) dSub := s2_int0 (o' := fun i j => .int (i - j)) (fun _ _ _ => rfl) (fun _ _ _ _ => .int _) (int_bad fun a b h => by cases a <;> cases b <;> first | trivial | rfl)
theorem s2_fdiv : S2 g (rI CDivW fun i j => .int (i / j)) dFdiv := s2_int (C := fun i j => 0 < j ∧ j.natAbs.log2 < 9000) (o := fun i j => i / j) (fun _ _ _ => rfl) (int_bad fun a b h => by cases a <;> cases b <;> first | trivial | rfl)
theorem s2_mod : S2 g (rI (fun _ j => 0 < j) fun i j => .int (i % j)) dMod := s2_int (C := fun i j => 0 < j) (o := fun i j => i % j) (fun _ _ _ => rfl) (int_bad fun a b h => by cases a <;> cases b <;> first | trivial | rfl)
theorem s2_pow : S2 g (rI CPow fun i j => .int (i ^ j.toNat)) dPow := s2_int (C := fun i j => 0 ≤ j ∧ j ≤ 1000000 ∧ i.natAbs < 2 ^ 64) (o := fun i j => i ^ j.toNat) (fun _ _ _ => rfl) (int_bad fun a b h => by cases a <;> cases b <;> first | trivial | rfl)
theorem s2_shl : S2 g (rI CPow fun i j => .int (i * 2 ^ j.toNat)) dShl := s2_int (C := fun i j => 0 ≤ j ∧ j ≤ 1000000 ∧ i.natAbs < 2 ^ 64) (o := fun i j => i * 2 ^ j.toNat) (fun _ _ _ => rfl) (int_bad fun a b h => by cases a <;> cases b <;> first | trivial | rfl)
theorem s2_band : S2 g (rI0 fun i j => .int (Builtin.bitAnd i j)) dBand := s2_int0 (o' := fun i j => .int (Builtin.bitAnd i j)) (fun _ _ _ => rfl) (fun _ _ _ _ => .int _) (int_bad fun a b h => by cases a <;> cases b <;> first | trivial | rfl)
theorem s2_bor : S2 g (rI0 fun i j => .int (Builtin.bitOr i j)) dBor := s2_int0 (o' := fun i j => .int (Builtin.bitOr i j)) (fun _ _ _ => rfl) (fun _ _ _ _ => .int _) (int_bad fun a b h => by cases a <;> cases b <;> first | trivial | rfl)
theorem s2_lt : S2 g (rI0 fun i j => .bl (decide (i < j))) dLt := s2_int0 (o' := fun i j => .bl (decide (i < j))) (fun _ _ _ => rfl) (fun _ _ _ _ => .bl _) (int_bad fun a b h => by cases a <;> cases b <;> first | trivial | rfl)
theorem s2_le : S2 g (rI0 fun i j => .bl (decide (i ≤ j))) dLe := s2_int0 (o' := fun i j => .bl (decide (i ≤ j))) (fun _ _ _ => rfl) (fun _ _ _ _ => .bl _) (int_bad fun a b h => by cases a <;> cases b <;> first | trivial | rfl)
theorem s2_gt : S2 g (rI0 fun i j => .bl (decide (j < i))) dGt := s2_int0 (o' := fun i j => .bl (decide (j < i))) (fun _ _ _ => rfl) (fun _ _ _ _ => .bl _) (int_bad fun a b h => by cases a <;> cases b <;> first | trivial | rfl)
theorem s2_ge : S2 g (rI0 fun i j => .bl (decide (j ≤ i))) dGe := s2_int0 (o' := fun i j => .bl (decide (j ≤ i))) (fun _ _ _ => rfl) (fun _ _ _ _ => .bl _) (int_bad fun a b h => by cases a <;> cases b <;> first | trivial | rfl)
theorem s1_neg : S1 g (rU fun i => .int (-i)) dNeg := by
  intro H μ h x a Q W hr vx bk
  cases vx with
  | int i => exact ⟨i, rfl, bk.val hr (.int _)⟩
  | _ => exact bk.elim
/-- + -/
def rAddA (K : PySem.W.Frag) : R2 := fun x y H Q => (rI0 (fun i j => .int (i + j)) x y H Q ∨ (∃ i j, x = .str i ∧ y = .str j ∧ i.length + j.length ≤ sizeLine ∧ Q (.str (i ++ j)) H)) ∨ (rCatA K x y H Q ∨ rCat x y H Q)
theorem op_addA : OpR X (binaryOp .Add) (rAddA X.K) := (op_add.or op_add_str).or (op_catA.or op_cat)
theorem nil_of_vrs {H : Hp} {μ : List Addr} {xs : List V} {ds : List D} (h : VRs g H μ xs ds) (e : xs = []) : ds = [] := by subst e; cases h; rfl
theorem s2_add : S2 g (rAddA g.K) dAdd := by
  intro H μ h x y a b Q W hr vx vy bk
  cases vx with
  | int i =>
    cases vy with
    | int j => exact .inl (.inl ⟨i, j, rfl, rfl, bk.val hr (.int _)⟩)
    | _ => exact bk.elim
  | str i =>
    cases vy with
    | str j =>
      simp only [dAdd] at bk
      split at bk
      · rename_i hl
        exact .inl (.inr ⟨i, j, rfl, rfl, sz6 hl, bk.val hr (.str _)⟩)
      · exact bk.elim
    | _ => exact bk.elim
  | @tup p xs ds hs vs =>
    cases vy with
    | @tup q ys es ht vt =>
      simp only [dAdd] at bk
      split at bk
      · rename_i hl
        refine .inr (.inl ⟨p, q, xs, ys, rfl, rfl, hs, ht, by rw [vs.length, vt.length]; exact sz6 hl, fun e => ?_, fun e e' => ?_, fun e e' r hr' => ?_⟩)
        · rw [nil_of_vrs vs e] at bk
          exact bk.val hr (.tup ht vt)
        · rw [nil_of_vrs vt e', List.append_nil] at bk
          exact bk.val hr (.tup hs vs)
        · exact bk.newT hr (vs.append vt) hr'
      · exact bk.elim
    | _ => exact bk.elim
  | @ref p i hi =>
    cases vy with
    | @ref q j hj =>
      simp only [dAdd] at bk
      split at bk
      · rename_i l1 l2 e1 e2
        obtain ⟨xs, h1, v1⟩ := hr.lst hi e1
        obtain ⟨ys, h2, v2⟩ := hr.lst hj e2
        split at bk
        · rename_i hl
          exact .inr (.inr ⟨p, q, xs, ys, rfl, rfl, h1, h2, by rw [v1.length, v2.length]; exact sz6 hl, fun r hr' => bk.newL hr (v1.append v2) hr'⟩)
        · exact bk.elim
      · exact bk.elim
    | _ => exact bk.elim
  | _ => exact bk.elim
/-- * -/
theorem op_mul_str : OpR X (binaryOp .Mult) (fun x y H Q => ∃ z n, x = .str z ∧ y = .int n ∧ MulOk z n ∧ Q (.str (Txt.mul z n)) H) := by
  intro pins s σ H x y v u Q I rx ry h
  obtain ⟨z, n, rfl, rfl, hok, q⟩ := h
  obtain ⟨t, rfl⟩ := rx
  obtain ⟨t', rfl⟩ := ry
  exact PySem.SB.mul hok fun t' k => ⟨.str _, H, I.tok k, ⟨t', rfl⟩, q⟩
def rMulA : R2 := fun x y H Q => rI CMulX (fun i j => .int (i * j)) x y H Q ∨ (∃ z n, x = .str z ∧ y = .int n ∧ MulOk z n ∧ Q (.str (Txt.mul z n)) H)
theorem op_mulA : OpR X (binaryOp .Mult) rMulA := op_mulX.or op_mul_str
theorem mulOk_of {z : Str} {n : Int} (h1 : n ≤ 1000000) (h2 : -1000000 ≤ n) (h3 : z.length * n.toNat ≤ 1000000) : MulOk z n := by
  refine ⟨?_, fun a b => ?_, fun a b => ?_⟩
  · rw [decide_eq_false (by omega), decide_eq_false (by omega)]; rfl
  · have hz : z.length ≤ 1000000 := Nat.le_trans (Nat.le_mul_of_pos_right _ (by omega)) h3
    have : (2 ^ 63 - 1 : Int) / n ≥ (2 ^ 63 - 1) / 1000000 := by
      have h0 : 0 < n := by omega
      rw [ge_iff_le, Int.le_ediv_iff_mul_le h0]
      have : (2 ^ 63 - 1 : Int) / 1000000 * n ≤ (2 ^ 63 - 1 : Int) / 1000000 * 1000000 := Int.mul_le_mul_of_nonneg_left h1 (by decide)
      exact Int.le_trans this (by decide)
    have h4 : ((2 ^ 63 - 1 : Int)) / 1000000 ≥ 1000000 := by decide
    omega
  · unfold Builtin.Str.tooLong
    simp only [decide_eq_false_iff_not]
    first
      | (show ¬ (z.length * n.toNat > sizeLine); rw [sizeLine_eq]; omega)
      | (rw [decide_eq_false_iff_not, sizeLine_eq]; omega)
      | (simp; omega)
theorem s2_mul : S2 g rMulA dMul := by
  intro H μ h x y a b Q W hr vx vy bk
  cases vx with
  | int i =>
    cases vy with
    | int j =>
      simp only [dMul] at bk
      split at bk
      · rename_i c
        exact .inl ⟨i, j, rfl, rfl, c, bk.val hr (.int _)⟩
      · exact bk.elim
    | _ => exact bk.elim
  | str z =>
    cases vy with
    | int n =>
      simp only [dMul] at bk
      split at bk
      · rename_i c
        exact .inr ⟨z, n, rfl, rfl, mulOk_of c.1 c.2.1 c.2.2, bk.val hr (.str _)⟩
      · exact bk.elim
    | _ => exact bk.elim
  | _ => exact bk.elim
end

/-! ### ==, != -/
def allSome {α : Type} : List (Option α) → Option (List α)
  | [] => some []
  | none :: _ => none
  | some a :: r => (allSome r).map (a :: ·)
def pyOf : Nat → MH → D → Option PyData
  | 0, _, _ => none
  | _ + 1, _, .non => some .none
  | _ + 1, _, .bl b => some (.bool b)
  | _ + 1, _, .int i => some (.int i)
  | _ + 1, _, .str x => some (.str x)
  | n + 1, h, .tup l => (allSome (l.map (pyOf n h))).map .tuple
  | n + 1, h, .ref i => (getL h i).bind fun l => (allSome (l.map (pyOf n h))).map .list
section
variable {g : G} {X : Cx} {H : Hp} {μ : List Addr} {h : MH}
theorem dp_all {f : D → Option PyData} (hf : ∀ d v e, VR g H μ v d → f d = some e → Dp g.K H v e) : ∀ {xs : List V} {ds : List D} {es : List PyData}, VRs g H μ xs ds → allSome (ds.map f) = some es → DpAll g.K H xs es
  | _, _, _, .nil, e => by
    simp only [List.map_nil, allSome, Option.some.injEq] at e
    subst e
    exact .nil
  | _, _, _, .cons (d := d) a b, e => by
    rw [List.map_cons] at e
    cases q : f d with
    | none => rw [q] at e; simp [allSome] at e
    | some z =>
      rw [q] at e
      simp only [allSome, Option.map_eq_some_iff] at e
      obtain ⟨r, e1, rfl⟩ := e
      exact .cons (hf _ _ _ a q) (dp_all hf b e1)
theorem dp_of (hr : HR g H μ h) : ∀ (n : Nat) (d : D) (v : V) (e : PyData), VR g H μ v d → pyOf n h d = some e → Dp g.K H v e
  | 0, _, _, _, _, q => by cases q
  | n + 1, d, v, e, a, q => by
    cases a with
    | non => cases q; exact .non
    | bl b => cases q; exact .bl b
    | int b => cases q; exact .int b
    | str b => cases q; exact .str b
    | tup hs vs =>
      simp only [pyOf, Option.map_eq_some_iff] at q
      obtain ⟨es, q, rfl⟩ := q
      exact .tup hs (dp_all (fun d v e a q => dp_of hr n d v e a q) vs q)
    | ref hi =>
      simp only [pyOf, Option.bind_eq_some_iff, Option.map_eq_some_iff] at q
      obtain ⟨l, q1, es, q2, rfl⟩ := q
      obtain ⟨xs, hs, vs⟩ := hr.list hi q1
      exact .lst hs (dp_all (fun d v e a q => dp_of hr n d v e a q) vs q2)
def scalD : D → D → Bool
  | .non, .non => true | .non, .int _ => true | .int _, .non => true | .non, .bl _ => true | .bl _, .non => true | .non, .str _ => true | .str _, .non => true
  | .int _, .int _ => true | .bl _, .bl _ => true | .str _, .str _ => true
  | .int _, .str _ => true | .str _, .int _ => true | .bl _, .str _ => true | .str _, .bl _ => true
  | _, _ => false
def eqD (a b : D) (h : MH) : Option Bool := if scalD a b = true then some (decide (a = b)) else match pyOf 60 h a, pyOf 60 h b with
  | some d, some e => if SeqAt.shaped d = true ∧ SeqAt.shaped e = true then some (PyData.eqv d e) else none
  | _, _ => none
def dEq (a b : D) (h : MH) : R D := match eqD a b h with
  | some k => .ok (.bl k) h
  | none => .bad
def dNe (a b : D) (h : MH) : R D := match eqD a b h with
  | some k => .ok (.bl (!k)) h
  | none => .bad
def rEqA (K : PySem.W.Frag) : R2 := fun x y H Q => rEq x y H Q ∨ rEqD K x y H Q
def rNeA (K : PySem.W.Frag) : R2 := fun x y H Q => rNe x y H Q ∨ rNeD K x y H Q
theorem op_eqA (hu : X.A.units + 65 < cLine) : OpR X (compareOp .Eq) (rEqA X.K) := op_eq.or (op_eqD (by omega))
theorem op_neA (hu : X.A.units + 65 < cLine) : OpR X (compareOp .NotEq) (rNeA X.K) := op_ne.or (op_neD (by omega))
theorem scal_of {x y : V} {a b : D} (vx : VR g H μ x a) (vy : VR g H μ y b) (e : scalD a b = true) : scal x y = true ∧ decide (x = y) = decide (a = b) := by
  cases vx <;> cases vy <;> first | (cases e; done) | (refine ⟨rfl, ?_⟩; simp)
theorem eq_of {x y : V} {a b : D} {k : Bool} (hr : HR g H μ h) (vx : VR g H μ x a) (vy : VR g H μ y b) (e : eqD a b h = some k) :
    (scal x y = true ∧ decide (x = y) = k) ∨ ∃ d e, Dp g.K H x d ∧ Dp g.K H y e ∧ SeqAt.shaped d = true ∧ SeqAt.shaped e = true ∧ PyData.eqv d e = k := by
  unfold eqD at e
  split at e
  · rename_i s
    obtain ⟨h1, h2⟩ := scal_of vx vy s
    cases e
    exact .inl ⟨h1, h2⟩
  · split at e
    · rename_i d e' q1 q2
      split at e
      · rename_i s
        cases e
        exact .inr ⟨d, e', dp_of hr _ _ _ _ vx q1, dp_of hr _ _ _ _ vy q2, s.1, s.2, rfl⟩
      · cases e
    · cases e
theorem s2_eq : S2 g (rEqA g.K) dEq := by
  intro H μ h x y a b Q W hr vx vy bk
  unfold dEq at bk
  split at bk
  · rename_i k e
    rcases eq_of hr vx vy e with ⟨h1, h2⟩ | ⟨d, e, h1, h2, h3, h4, h5⟩
    · exact .inl ⟨h1, by rw [h2]; exact bk.val hr (.bl _)⟩
    · exact .inr ⟨d, e, h1, h2, h3, h4, by rw [h5]; exact bk.val hr (.bl _)⟩
  · exact bk.elim
theorem s2_ne : S2 g (rNeA g.K) dNe := by
  intro H μ h x y a b Q W hr vx vy bk
  unfold dNe at bk
  split at bk
  · rename_i k e
    rcases eq_of hr vx vy e with ⟨h1, h2⟩ | ⟨d, e, h1, h2, h3, h4, h5⟩
    · exact .inl ⟨h1, by rw [h2]; exact bk.val hr (.bl _)⟩
    · exact .inr ⟨d, e, h1, h2, h3, h4, by rw [h5]; exact bk.val hr (.bl _)⟩
  · exact bk.elim
/-! ### is None -/
def dIsN : D → D → MH → R D
  | a, .non, h => .ok (.bl (decide (a = .non))) h
  | _, _, _ => .bad
def dNotN : D → D → MH → R D
  | a, .non, h => .ok (.bl (!decide (a = .non))) h
  | _, _, _ => .bad
theorem non_of {x : V} {a : D} (vx : VR g H μ x a) : decide (x = .non) = decide (a = .non) := by cases vx <;> simp
theorem s2_isN : S2 g (fun x y H Q => y = .non ∧ Q (.bl (decide (x = .non))) H) dIsN := by
  intro H μ h x y a b Q W hr vx vy bk
  cases vy with
  | non => exact ⟨rfl, by rw [non_of vx]; exact bk.val hr (.bl _)⟩
  | _ => simp only [dIsN] at bk; exact bk.elim
theorem s2_notN : S2 g (fun x y H Q => y = .non ∧ Q (.bl (!decide (x = .non))) H) dNotN := by
  intro H μ h x y a b Q W hr vx vy bk
  cases vy with
  | non => exact ⟨rfl, by rw [non_of vx]; exact bk.val hr (.bl _)⟩
  | _ => simp only [dNotN] at bk; exact bk.elim
/-! ### in -/
def flatD : D → Bool
  | .non => true | .bl _ => true | .int _ => true | .str _ => true | _ => false
def eqF : D → D → Bool
  | .non, .non => true
  | .bl a, .bl b => a == b
  | .bl a, .int b => (if a then 1 else 0) == b
  | .int a, .bl b => a == (if b then 1 else 0)
  | .int a, .int b => a == b
  | .str a, .str b => a == b
  | _, _ => false
def seqOf (h : MH) : D → Option (List D)
  | .tup l => some l
  | .ref i => getL h i
  | _ => none
/-- x in y: a sign in a text, a flat thing in a list or tuple of such, a nested one in a list -/
def inD (a b : D) (h : MH) : Option Bool := match a, b with
  | .str x, .str z => match x.cps.toList with
    | [c] => some (decide (c ∈ z.cps.toList))
    | _ => none
  | a, b => match seqOf h b with
    | some l => if flatD a = true ∧ l.all flatD = true then some (l.any fun y => eqF y a) else match pyOf 60 h a, pyOf 60 h b with
      | some d, some (.list es) => if SeqAt.shaped d = true ∧ SeqAt.shaped (.list es) = true then some (es.any fun z => PyData.eqv z d) else none
      | _, _ => none
    | none => none
def dIn (a b : D) (h : MH) : R D := match inD a b h with
  | some k => .ok (.bl k) h
  | none => .bad
def dNotIn (a b : D) (h : MH) : R D := match inD a b h with
  | some k => .ok (.bl (!k)) h
  | none => .bad
def rInA (K : PySem.W.Frag) : R2 := fun x y H Q => (∃ (c : Nat) (z : Str), x = .str ⟨#[c]⟩ ∧ y = .str z ∧ Q (.bl (decide (c ∈ z.cps.toList))) H) ∨ (rIn K false x y H Q ∨ rInD K x y H Q)
def rNotInA (K : PySem.W.Frag) : R2 := fun x y H Q => (∃ (c : Nat) (z : Str), x = .str ⟨#[c]⟩ ∧ y = .str z ∧ Q (.bl (!decide (c ∈ z.cps.toList))) H) ∨ (rIn K true x y H Q ∨ rNotInD K x y H Q)
theorem op_inA (hu : X.A.units + 65 < cLine) : OpR X (compareOp .In) (rInA X.K) := op_in_sign.or (op_in_seq.or (op_inD hu))
theorem op_notInA (hu : X.A.units + 65 < cLine) : OpR X (compareOp .NotIn) (rNotInA X.K) := op_notIn_sign.or (op_notIn_seq.or (op_notInD hu))
theorem flat_of {x : V} {a : D} (vx : VR g H μ x a) : flatV x = flatD a := by cases vx <;> rfl
theorem flats_of : ∀ {xs : List V} {ds : List D}, VRs g H μ xs ds → xs.all flatV = ds.all flatD
  | _, _, .nil => rfl
  | _, _, .cons a b => by rw [List.all_cons, List.all_cons, flat_of a, flats_of b]
theorem eqF_of {x y : V} {a b : D} (vx : VR g H μ x a) (vy : VR g H μ y b) : eqV x y = eqF a b := by cases vx <;> cases vy <;> rfl
theorem any_of {x : V} {a : D} (vx : VR g H μ x a) : ∀ {xs : List V} {ds : List D}, VRs g H μ xs ds → inV x xs = ds.any fun y => eqF y a
  | _, _, .nil => rfl
  | _, _, .cons c b => by
    show (eqV _ x || inV x _) = _
    rw [List.any_cons, eqF_of c vx, any_of vx b]
theorem HR.seq {p : Addr} {b : D} {l : List D} (hr : HR g H μ h) (vb : VR g H μ (.ref p) b) (e : seqOf h b = some l) : ∃ xs, (SqL g.K H p xs ∨ SqT g.K H p xs) ∧ VRs g H μ xs l := by
  cases vb with
  | ref hi => obtain ⟨xs, h1, h2⟩ := hr.list hi e; exact ⟨xs, .inl h1, h2⟩
  | tup hs vs => cases e; exact ⟨_, .inr hs, vs⟩
theorem in_of {x y : V} {a b : D} {k : Bool} (hr : HR g H μ h) (vx : VR g H μ x a) (vy : VR g H μ y b) (e : inD a b h = some k) :
    (∃ (c : Nat) (z : Str), x = .str ⟨#[c]⟩ ∧ y = .str z ∧ decide (c ∈ z.cps.toList) = k) ∨ (∃ p xs, y = .ref p ∧ (SqL g.K H p xs ∨ SqT g.K H p xs) ∧ flatV x = true ∧ xs.all flatV = true ∧ inV x xs = k) ∨
      ∃ d ds, Dp g.K H x d ∧ Dp g.K H y (.list ds) ∧ SeqAt.shaped d = true ∧ SeqAt.shaped (.list ds) = true ∧ (ds.any fun z => PyData.eqv z d) = k := by
  unfold inD at e
  split at e
  · rename_i x' z
    cases vx
    cases vy
    split at e
    · rename_i c q
      cases e
      refine .inl ⟨c, z, ?_, rfl, rfl⟩
      obtain ⟨⟨cs⟩⟩ := x'
      cases q
      rfl
    · cases e
  · split at e
    · rename_i l q
      have hy : ∃ p, y = .ref p := by cases vy <;> first | exact ⟨_, rfl⟩ | cases q
      obtain ⟨p, rfl⟩ := hy
      obtain ⟨xs, h1, h2⟩ := hr.seq vy q
      split at e
      · rename_i c
        cases e
        exact .inr (.inl ⟨p, xs, rfl, h1, by rw [flat_of vx]; exact c.1, by rw [flats_of h2]; exact c.2, any_of vx h2⟩)
      · split at e
        · rename_i d es q1 q2
          split at e
          · rename_i c
            cases e
            exact .inr (.inr ⟨d, es, dp_of hr _ _ _ _ vx q1, dp_of hr _ _ _ _ vy q2, c.1, c.2, rfl⟩)
          · cases e
        · cases e
    · cases e
theorem s2_in : S2 g (rInA g.K) dIn := by
  intro H μ h x y a b Q W hr vx vy bk
  unfold dIn at bk
  split at bk
  · rename_i k e
    rcases in_of hr vx vy e with ⟨c, z, h1, h2, h3⟩ | ⟨p, xs, h1, h2, h3, h4, h5⟩ | ⟨d, e, h1, h2, h3, h4, h5⟩
    · exact .inl ⟨c, z, h1, h2, by rw [h3]; exact bk.val hr (.bl _)⟩
    · exact .inr (.inl ⟨p, xs, h1, h2, h3, h4, by rw [if_neg Bool.false_ne_true, h5]; exact bk.val hr (.bl _)⟩)
    · exact .inr (.inr ⟨d, e, h1, h2, h3, h4, by rw [h5]; exact bk.val hr (.bl _)⟩)
  · exact bk.elim
theorem s2_notIn : S2 g (rNotInA g.K) dNotIn := by
  intro H μ h x y a b Q W hr vx vy bk
  unfold dNotIn at bk
  split at bk
  · rename_i k e
    rcases in_of hr vx vy e with ⟨c, z, h1, h2, h3⟩ | ⟨p, xs, h1, h2, h3, h4, h5⟩ | ⟨d, e, h1, h2, h3, h4, h5⟩
    · exact .inl ⟨c, z, h1, h2, by rw [h3]; exact bk.val hr (.bl _)⟩
    · exact .inr (.inl ⟨p, xs, h1, h2, h3, h4, by rw [if_pos rfl, h5]; exact bk.val hr (.bl _)⟩)
    · exact .inr (.inr ⟨d, e, h1, h2, h3, h4, by rw [h5]; exact bk.val hr (.bl _)⟩)
  · exact bk.elim
/-! ### places -/
def dIx (a b : D) (h : MH) : R D := match b with
  | .int i => match a with
    | .str z => if z.length ≤ 1000000 then match atI z.cps.toList i with
      | some c => .ok (.str ⟨#[c]⟩) h
      | none => .bad else .bad
    | a => match seqOf h a with
      | some l => match atI l i with
        | some d => .ok d h
        | none => .bad
      | none => .bad
  | _ => .bad
theorem atI_of {xs : List V} {ds : List D} {i : Int} {d : D} (vs : VRs g H μ xs ds) (e : atI ds i = some d) : ∃ v, atI xs i = some v ∧ VR g H μ v d := by
  unfold atI at e ⊢
  rw [vs.length]
  cases q : ixN ds.length i with
  | none => rw [q] at e; cases e
  | some j =>
    rw [q] at e
    exact vs.get e
theorem s2_ix : S2 g (rIx g.K) dIx := by
  intro H μ h x y a b Q W hr vx vy bk
  cases vy with
  | int i =>
    cases vx with
    | str z =>
      simp only [dIx] at bk
      split at bk
      · rename_i hz
        split at bk
        · rename_i c e
          exact .inr (.inr ⟨z, i, c, rfl, rfl, sz6 hz, e, bk.val hr (.str _)⟩)
        · exact bk.elim
      · exact bk.elim
    | @tup p xs ds hs vs =>
      simp only [dIx, seqOf] at bk
      split at bk
      · rename_i d e
        obtain ⟨v, h1, h2⟩ := atI_of vs e
        exact .inr (.inl ⟨p, xs, i, v, rfl, rfl, hs, h1, bk.val hr h2⟩)
      · exact bk.elim
    | @ref p j hj =>
      simp only [dIx, seqOf] at bk
      split at bk
      · rename_i l q
        obtain ⟨xs, hs, vs⟩ := hr.list hj q
        split at bk
        · rename_i d e
          obtain ⟨v, h1, h2⟩ := atI_of vs e
          exact .inl ⟨p, xs, i, v, rfl, rfl, hs, h1, bk.val hr h2⟩
        · exact bk.elim
      · exact bk.elim
    | _ => simp only [dIx, seqOf] at bk; exact bk.elim
  | _ => simp only [dIx] at bk; exact bk.elim
end
end Mi

namespace Mi
open PySem L2

/-! ### slices -/
def mNo : MP := fun _ h => .ok none h
def mSome (a : ME) : MP := fun ρ h => (a ρ h).bind fun x h1 => match x with
  | .int i => .ok (some i) h1
  | _ => .bad
def cutD (xs : List D) (lo hi : Option Int) : List D := (xs.drop (HT.sIx xs.length 0 lo)).take (HT.sIx xs.length xs.length hi - HT.sIx xs.length 0 lo)
def dSl (a : D) (lo hi : Option Int) (h : MH) : R D := match a with
  | .str z => if z.length ≤ 1000000 then .ok (.str (cutS z lo hi)) h else .bad
  | .tup l => .ok (.tup (cutD l lo hi)) h
  | .ref i => match getL h i with
    | some l => .ok (.ref h.length) (h ++ [.lst (cutD l lo hi)])
    | none => .bad
  | _ => .bad
def mSl (a : ME) (lo hi : MP) : ME := fun ρ h => (a ρ h).bind fun x h1 => (lo ρ h1).bind fun l h2 => (hi ρ h2).bind fun u h3 => dSl x l u h3
section
variable {X : Cx} {g : G} {W : WX} {a b e : Expr} {ma mb : ME} {pos p2 : Pos} {es : List Expr} {mr : MA} {lo hi : Option Expr} {ml mh : MP}
theorem sp_none : PO X none (tP g W mNo) := ⟨fun pins s σ H Q I ⟨ρ, h, μ, sr, hr, bk⟩ => (po_none (X := X)).run pins s σ H Q I (bk none H μ Mon.refl hr rfl)⟩
theorem sp_some (he : PE X e (tE g W ma)) : PO X (some e) (tP g W (mSome ma)) := ⟨fun pins s σ H Q I ⟨ρ, h, μ, sr, hr, bk⟩ => (po_some he).run pins s σ H Q I (step (rel := VR) (rel' := fun _ => opR) (ma := ma) (Q' := Q) sr hr bk fun x d h1 H1 μ1 m1 sr1 hr1 vx bk1 => by
  cases vx with
  | int i => exact ⟨i, rfl, bk1 _ H1 μ1 Mon.refl hr1 rfl⟩
  | _ => exact bk1.elim)⟩
theorem slR_or {r r' : V → Option Int → Option Int → Hp → VK → Prop} (h : SlR X r) (h' : SlR X r') : SlR X (fun x l u H Q => r x l u H Q ∨ r' x l u H Q) := by
  intro pins s σ H x v vl vu lo hi sl Q I rx hs pl pu q
  rcases q with q | q
  · exact h pins s σ H x v vl vu lo hi sl Q I rx hs pl pu q
  · exact h' pins s σ H x v vl vu lo hi sl Q I rx hs pl pu q
theorem cut_of {H : Hp} {μ : List Addr} {xs : List V} {ds : List D} (vs : VRs g H μ xs ds) (l u : Option Int) : VRs g H μ (cutV xs l u) (cutD ds l u) := by
  unfold cutV cutD
  rw [vs.length]
  exact (vs.drop _).take _
theorem cut_whole {ds : List D} {l u : Option Int} (h : HT.sIx ds.length 0 l = 0 ∧ HT.sIx ds.length ds.length u = ds.length) : cutD ds l u = ds := by
  unfold cutD
  rw [h.1, h.2]
  simp
theorem se_slice (he : PE X a (tE g W ma)) (hl : PO X lo (tP g W ml)) (hu : PO X hi (tP g W mh)) (hK : X.K = g.K := by rfl) : PE X (.Subscript a (.Slice lo hi none p2) pos) (tE g W (mSl ma ml mh)) :=
  pe_mono (pe_slice (slR_or sl_str (slR_or sl_tupA sl_list)) he hl hu) fun σ H Q ⟨ρ, h, μ, sr, hr, bk⟩ =>
    step (rel := VR) (rel' := VR) (ma := ma) (Q' := Q) sr hr bk fun x d h1 H1 μ1 m1 sr1 hr1 vx bk1 =>
      step (rel := fun _ => opR) (rel' := VR) (ma := ml) (Q' := Q) sr1 hr1 bk1 fun l l' h2 H2 μ2 m2 sr2 hr2 vl bk2 =>
        step (rel := fun _ => opR) (rel' := VR) (ma := mh) (Q' := Q) sr2 hr2 bk2 fun u u' h3 H3 μ3 m3 sr3 hr3 vu bk3 => by
          cases vl
          cases vu
          have vx3 := (vx.mono m2).mono m3
          rw [hK]
          cases vx3 with
          | str z =>
            simp only [dSl] at bk3
            split at bk3
            · rename_i hz
              exact .inl ⟨z, rfl, sz6 hz, bk3.val hr3 (.str _)⟩
            · exact bk3.elim
          | @tup p xs ds hs vs =>
            refine .inr (.inl ⟨p, xs, rfl, hs, fun w => ?_, fun _ p hp => bk3.newT hr3 (cut_of vs _ _) hp⟩)
            rw [vs.length] at w
            rw [dSl, cut_whole w] at bk3
            exact bk3.val hr3 (.tup hs vs)
          | @ref p i hi =>
            simp only [dSl] at bk3
            split at bk3
            · rename_i l q
              obtain ⟨xs, hs, vs⟩ := hr3.list hi q
              exact .inr (.inr ⟨p, xs, rfl, hs, fun p hp => bk3.newL hr3 (cut_of vs _ _) hp⟩)
            · exact bk3.elim
          | _ => exact bk3.elim
end

/-! ### built-ins by values -/
def dLen : List D → MH → R D
  | [.str z], h => if z.length ≤ 1000000 then .ok (.int z.length) h else .bad
  | [.tup l], h => .ok (.int l.length) h
  | [.ref i], h => match getL h i with
    | some l => .ok (.int l.length) h
    | none => .bad
  | _, _ => .bad
def dAbs : List D → MH → R D
  | [.int i], h => .ok (.int (if i < 0 then -i else i)) h
  | _, _ => .bad
def dMax : List D → MH → R D
  | [.int i, .int j], h => .ok (.int (if j > i then j else i)) h
  | _, _ => .bad
def dMin : List D → MH → R D
  | [.int i, .int j], h => .ok (.int (if j < i then j else i)) h
  | _, _ => .bad
def dInt : List D → MH → R D
  | [.int i], h => .ok (.int i) h
  | [.bl b], h => .ok (.int (if b then 1 else 0)) h
  | _, _ => .bad
def dStr : List D → MH → R D
  | [.int i], h => if i.natAbs.log2 < 1920 then .ok (.str (toString i : String)) h else .bad
  | _, _ => .bad
def dList : List D → MH → R D
  | [a], h => match seqOf h a with
    | some l => .ok (.ref h.length) (h ++ [.lst l])
    | none => .bad
  | _, _ => .bad
def dTuple : List D → MH → R D
  | [a], h => match seqOf h a with
    | some l => .ok (.tup l) h
    | none => .bad
  | _, _ => .bad
def allBl : List D → Option (List Bool)
  | [] => some []
  | .bl b :: r => (allBl r).map (b :: ·)
  | _ => none
def dAny : List D → MH → R D
  | [.ref i], h => match (getL h i).bind allBl with
    | some bs => .ok (.bl (bs.any id)) h
    | none => .bad
  | _, _ => .bad
def dAll : List D → MH → R D
  | [.ref i], h => match (getL h i).bind allBl with
    | some bs => .ok (.bl (bs.all id)) h
    | none => .bad
  | _, _ => .bad
section
variable {g : G} {X : Cx}
theorem sn1 {r : List V → Hp → VK → Prop} {f : List D → MH → R D} (h1 : ∀ H μ h x a Q W, HR g H μ h → VR g H μ x a → Bk (VR g) g H μ (f [a] h) Q W → r [x] H Q) (h0 : ∀ h, f [] h = .bad) (h2 : ∀ a b l h, f (a :: b :: l) h = .bad) : SN g r f := by
  intro H μ h xs ds Q W hr vs bk
  cases vs with
  | nil => rw [h0] at bk; exact bk.elim
  | cons va t =>
    cases t with
    | nil => exact h1 H μ h _ _ Q W hr va bk
    | cons vb t => rw [h2] at bk; exact bk.elim
theorem sn_len : SN g (fun xs H Q => ∃ x n, xs = [x] ∧ LenV g.K x H n ∧ Q (.int n) H) dLen := sn1 (fun H μ h x a Q W hr va bk => by
  cases va with
  | str z =>
    simp only [dLen] at bk
    split at bk
    · rename_i hz; exact ⟨_, _, rfl, ⟨sz6 hz, rfl⟩, bk.val hr (.int _)⟩
    · exact bk.elim
  | @tup p xs ds hs vs => exact ⟨_, _, rfl, .inr ⟨xs, hs, rfl⟩, by rw [vs.length]; exact bk.val hr (.int _)⟩
  | @ref p i hi =>
    simp only [dLen] at bk
    split at bk
    · rename_i l q
      obtain ⟨xs, hs, vs⟩ := hr.list hi q
      exact ⟨_, _, rfl, .inl ⟨xs, hs, rfl⟩, by rw [vs.length]; exact bk.val hr (.int _)⟩
    · exact bk.elim
  | _ => exact bk.elim) (fun _ => rfl) (fun a b l h => by simp [dLen])
theorem sn_abs : SN g (fun xs H Q => ∃ i, xs = [.int i] ∧ Q (.int (if i < 0 then -i else i)) H) dAbs := sn1 (fun H μ h x a Q W hr va bk => by
  cases va with
  | int i => exact ⟨i, rfl, bk.val hr (.int _)⟩
  | _ => exact bk.elim) (fun _ => rfl) (fun a b l h => by simp [dAbs])
theorem sn_int : SN g (fun xs H Q => (∃ i, xs = [.int i] ∧ Q (.int i) H) ∨ ∃ k, xs = [.bl k] ∧ Q (.int (if k then 1 else 0)) H) dInt := sn1 (fun H μ h x a Q W hr va bk => by
  cases va with
  | int i => exact .inl ⟨i, rfl, bk.val hr (.int _)⟩
  | bl b => exact .inr ⟨b, rfl, bk.val hr (.int _)⟩
  | _ => exact bk.elim) (fun _ => rfl) (fun a b l h => by simp [dInt])
theorem sn_str : SN g (fun xs H Q => ∃ i, xs = [.int i] ∧ i.natAbs.log2 < 1920 ∧ Q (.str (toString i)) H) dStr := sn1 (fun H μ h x a Q W hr va bk => by
  cases va with
  | int i =>
    simp only [dStr] at bk
    split at bk
    · rename_i c; exact ⟨i, rfl, c, bk.val hr (.str _)⟩
    · exact bk.elim
  | _ => exact bk.elim) (fun _ => rfl) (fun a b l h => by simp [dStr])
theorem sn_list : SN g (fun xs H Q => ∃ p ys, xs = [.ref p] ∧ (SqL g.K H p ys ∨ SqT g.K H p ys) ∧ ∀ l, H l = none → Q (.ref l) (upd H l (.lst ys))) dList := sn1 (fun H μ h x a Q W hr va bk => by
  simp only [dList] at bk
  split at bk
  · rename_i l q
    have hy : ∃ p, x = .ref p := by cases va <;> first | exact ⟨_, rfl⟩ | cases q
    obtain ⟨p, rfl⟩ := hy
    obtain ⟨xs, h1, h2⟩ := hr.seq va q
    exact ⟨p, xs, rfl, h1, fun l hl => bk.newL hr h2 hl⟩
  · exact bk.elim) (fun _ => rfl) (fun a b l h => by simp [dList])
theorem sn_tuple : SN g (fun xs H Q => ∃ p ys, xs = [.ref p] ∧ ((SqL g.K H p ys ∧ ∀ l, H l = none → Q (.ref l) (upd H l (.tup ys))) ∨ (SqT g.K H p ys ∧ Q (.ref p) H))) dTuple := sn1 (fun H μ h x a Q W hr va bk => by
  cases va with
  | @tup p xs ds hs vs => exact ⟨p, xs, rfl, .inr ⟨hs, bk.val hr (.tup hs vs)⟩⟩
  | @ref p i hi =>
    simp only [dTuple, seqOf] at bk
    split at bk
    · rename_i l q
      obtain ⟨xs, hs, vs⟩ := hr.list hi q
      exact ⟨p, xs, rfl, .inl ⟨hs, fun l hl => bk.newT hr vs hl⟩⟩
    · exact bk.elim
  | _ => simp only [dTuple, seqOf] at bk; exact bk.elim) (fun _ => rfl) (fun a b l h => by simp [dTuple])
theorem bls_of {H : Hp} {μ : List Addr} : ∀ {xs : List V} {ds : List D} {bs : List Bool}, VRs g H μ xs ds → allBl ds = some bs → xs = bs.map V.bl
  | _, _, _, .nil, e => by cases e; rfl
  | _, _, _, .cons (d := d) a b, e => by
    cases a with
    | bl k =>
      simp only [allBl, Option.map_eq_some_iff] at e
      obtain ⟨r, e, rfl⟩ := e
      rw [bls_of b e]; rfl
    | _ => cases e
theorem sn_any : SN g (rAny g.K) dAny := sn1 (fun H μ h x a Q W hr va bk => by
  cases va with
  | @ref p i hi =>
    simp only [dAny] at bk
    split at bk
    · rename_i bs q
      obtain ⟨l, q1, q2⟩ := Option.bind_eq_some_iff.mp q
      obtain ⟨xs, hs, vs⟩ := hr.list hi q1
      exact ⟨p, bs, rfl, by rw [← bls_of vs q2]; exact hs, bk.val hr (.bl _)⟩
    · exact bk.elim
  | _ => exact bk.elim) (fun _ => rfl) (fun a b l h => by simp [dAny])
theorem sn_all : SN g (rAll g.K) dAll := sn1 (fun H μ h x a Q W hr va bk => by
  cases va with
  | @ref p i hi =>
    simp only [dAll] at bk
    split at bk
    · rename_i bs q
      obtain ⟨l, q1, q2⟩ := Option.bind_eq_some_iff.mp q
      obtain ⟨xs, hs, vs⟩ := hr.list hi q1
      exact ⟨p, bs, rfl, by rw [← bls_of vs q2]; exact hs, bk.val hr (.bl _)⟩
    · exact bk.elim
  | _ => exact bk.elim) (fun _ => rfl) (fun a b l h => by simp [dAll])
theorem sn2i {r : List V → Hp → VK → Prop} {f : List D → MH → R D} (h1 : ∀ H μ h i j Q W, HR g H μ h → Bk (VR g) g H μ (f [.int i, .int j] h) Q W → r [.int i, .int j] H Q) (h2 : ∀ ds h, (∀ i j, ds ≠ [.int i, .int j]) → f ds h = .bad) : SN g r f := by
  intro H μ h xs ds Q W hr vs bk
  have no : (∀ i j, ds ≠ [.int i, .int j]) → r xs H Q := fun z => by rw [h2 ds h z] at bk; exact bk.elim
  cases vs with
  | nil => exact no fun _ _ z => nomatch z
  | cons va t =>
    cases va with
    | int i =>
      cases t with
      | nil => exact no fun _ _ z => nomatch z
      | cons vb t =>
        cases vb with
        | int j =>
          cases t with
          | nil => exact h1 H μ h i j Q W hr bk
          | cons _ _ => exact no fun _ _ z => nomatch z
        | _ => exact no fun _ _ z => nomatch z
    | _ => exact no fun _ _ z => nomatch z
theorem two_bad {f : List D → MH → R D} (hf : ∀ (ds : List D) (h : MH), match ds with | [D.int _, D.int _] => True | _ => f ds h = .bad) : ∀ ds h, (∀ i j, ds ≠ [.int i, .int j]) → f ds h = .bad := fun ds h z => by
  have := hf ds h
  split at this
  · exact absurd rfl (z _ _)
  · exact this
theorem sn_max : SN g (fun xs H Q => ∃ i j, xs = [.int i, .int j] ∧ Q (.int (if j > i then j else i)) H) dMax := sn2i (fun H μ h i j Q W hr bk => ⟨i, j, rfl, bk.val hr (.int _)⟩) (two_bad fun ds h => by split <;> first | trivial | (unfold dMax; split <;> first | rfl | simp_all))
theorem sn_min : SN g (fun xs H Q => ∃ i j, xs = [.int i, .int j] ∧ Q (.int (if j < i then j else i)) H) dMin := sn2i (fun H μ h i j Q W hr bk => ⟨i, j, rfl, bk.val hr (.int _)⟩) (two_bad fun ds h => by split <;> first | trivial | (unfold dMin; split <;> first | rfl | simp_all))
end

/-! ### isinstance against built-in types -/
def tyName (h : MH) : D → Option String
  | .non => some "NoneType" | .bl _ => some "bool" | .int _ => some "int" | .str _ => some "str" | .tup _ => some "tuple"
  | .ref i => match h[i]? with
    | some (.lst _) => some "list"
    | some (.rol _) => some "list"
    | some (.dK _) => some "dict"
    | _ => none
def mIsi (T : String) (a : ME) : ME := fun ρ h => (a ρ h).bind fun x h1 => match (tyName h1 x).bind fun n => kitB n T with
  | some b => .ok (.bl b) h1
  | none => .bad
section
variable {X : Cx} {g : G} {W : WX} {a : Expr} {ma : ME} {pos : Pos}
theorem HR.ty {H : Hp} {μ : List Addr} {h : MH} {x : V} {d : D} {n : String} (hr : HR g H μ h) (vx : VR g H μ x d) (e : tyName h d = some n) : TyX g.K H x (.type n) := by
  cases vx with
  | non => cases e; exact .base .non
  | bl b => cases e; exact .base (.bl b)
  | int i => cases e; exact .base (.int i)
  | str z => cases e; exact .base (.str z)
  | tup hs vs =>
    cases e
    rcases hs with (hs | ⟨o, hs⟩) | ⟨o, its, k, h1, h2, h3⟩
    · exact .base (.tup hs)
    · exact .fTuple hs
    · exact .kTuple h1 h2
  | ref hi =>
    simp only [tyName] at e
    split at e
    · rename_i l q
      cases e
      obtain ⟨xs, h1, _⟩ := hr.ob _ _ _ hi q
      exact .base (.lst h1)
    · rename_i l q
      cases e
      obtain ⟨xs, h1, _⟩ := hr.ob _ _ _ hi q
      rcases h1 with ⟨o, h1⟩ | ⟨o, its, k, h1, h2, h3⟩
      · exact .base (.frz h1)
      · exact .kList h1 h2
    · rename_i l q
      cases e
      obtain ⟨xs, h1, _⟩ := hr.ob _ _ _ hi q
      exact .base (.dK h1)
    · cases e
theorem se_isi {T : Str} {n : String} {p p2 : Pos} (ha : PE X a (tE g W ma)) (hm : X.mg "isinstance" = none) (hmT : X.mg T = none) (hvT : bootBuiltins T = some (.type n)) (hnT : T ≠ "__name__" := by decide) (hdT : (T == ("__debug__" : Str)) = false := by decide) (hg : Gl X "isinstance" := by rfl) (hgT : Gl X T := by rfl)
    (hK : X.K = g.K := by rfl)
    (s1 : starEach [a, .Name T p2] X.env = (false, eval a X.env) :: starEach [.Name T p2] X.env := by rfl) (s2 : starEach [.Name T p2] X.env = (false, eval (.Name T p2) X.env) :: starEach [] X.env := by rfl)
    (hpl : (backTo pos (starEach [.Name T p2] X.env)).any (·.1) = false := by rfl) : PE X (.Call (.Name "isinstance" p) [a, .Name T p2] [] pos) (tE g W (mIsi n ma)) :=
  pe_mono (pe_callB call_isi hg hm (by decide +kernel) (pa_cons ha (pa_cons (pe_bltn (v := .ty n) hgT hmT hvT rfl hnT hdT) pa_nil s2) s1) (by decide) (by decide) s1 hpl) fun σ H Q ⟨ρ, h, μ, sr, hr, bk⟩ =>
    step (rel := VR) (rel' := VR) (ma := ma) (Q' := Q) sr hr bk fun x d h1 H1 μ1 m1 sr1 hr1 vx bk1 => by
      split at bk1
      · rename_i b q
        obtain ⟨t, q1, q2⟩ := Option.bind_eq_some_iff.mp q
        refine ⟨x, .ty n, .type t, .type n, b, rfl, .ty n, ?_, kit_ty q2, bk1.val hr1 (.bl b)⟩
        rw [hK]
        exact hr1.ty vx q1
      · exact bk1.elim
end

/-! ### methods of built-in types -/
section
variable {X : Cx} {g : G} {W : WX} {o e : Expr} {mo : ME} {es : List Expr} {mr : MA} {name : Str} {apos cpos : Pos} {T id : String} {r : V → List V → Hp → VK → Prop} {f : D → List D → MH → R D} {ty : D → MH → Bool}
/-- how the type is seen -/
def STy (g : G) (T : String) (ty : D → MH → Bool) : Prop := ∀ (H : Hp) (μ : List Addr) (h : MH) (x : V) (a : D), HR g H μ h → VR g H μ x a → ty a h = true → tyV g.K T x H
theorem sty_list : STy g "list" isListD := fun H μ h x a hr va e => by
  cases va with
  | ref hi =>
    obtain ⟨l, q⟩ := Option.isSome_iff_exists.mp e
    obtain ⟨xs, hs, _⟩ := hr.list hi q
    exact .inl ⟨rfl, xs, hs⟩
  | _ => cases e
theorem sty_str : STy g "str" isStrD := fun H μ h x a hr va e => by
  cases va with
  | str z => exact (rfl : "str" = "str")
  | _ => cases e
theorem se_bm (pa : PlainAttrs T) (slot : Slot T name id) (hty : typeOf (.builtin id) = pure (.type "method_descriptor")) (hm : MtR X id r) (st : STy g T ty) (hs : SM g r f) (ho : PE X o (tE g W mo)) (ha : PA X (e :: es) (tA g W mr)) (hK : X.K = g.K := by rfl)
    (hbase : attributeBase o name X.env (eval o X.env) = eval o X.env := by rfl)
    (hfew : ((backTo cpos (starEach (e :: es) X.env)).all (fun x => !x.1) && (backToKw cpos (keywordEach [] X.env)).all (fun x => x.1.isSome)
      && decide ((e :: es).length + ([] : List Keyword).length + (if ([] : List Keyword).isEmpty then 0 else 1) < 30)) = true := by rfl)
    (hline : (apos.endLine == cpos.line) = true := by rfl) (hse : starEach (e :: es) X.env = (false, eval e X.env) :: starEach es X.env := by rfl) (hplain : (backTo cpos (starEach es X.env)).any (·.1) = false := by rfl) :
    PE X (.Call (.Attribute o name apos) (e :: es) [] cpos) (tE g W (mMeth ty f mo mr)) :=
  pe_mono (pe_bm pa slot hty hm ho ha hbase hfew hline hse hplain) fun σ H Q ⟨ρ, h, μ, sr, hr, bk⟩ =>
    step (rel := VR) (rel' := VR) (ma := mo) (Q' := Q) sr hr bk fun x d h1 H1 μ1 m1 sr1 hr1 vx bk1 => by
      split at bk1
      · rename_i ht
        refine ⟨by rw [hK]; exact st H1 μ1 h1 x d hr1 vx ht, ?_⟩
        exact step (rel := VRs) (rel' := VR) (ma := mr) (Q' := Q) sr1 hr1 bk1 fun xs ds h2 H2 μ2 m2 sr2 hr2 vs bk2 => hs H2 μ2 h2 x xs d ds Q _ hr2 (vx.mono m2) vs bk2
      · exact bk1.elim
theorem se_bm0 (pa : PlainAttrs T) (slot : Slot T name id) (hty : typeOf (.builtin id) = pure (.type "method_descriptor")) (hm : MtR X id r) (st : STy g T ty) (hs : SM g r f) (ho : PE X o (tE g W mo)) (hK : X.K = g.K := by rfl)
    (hbase : attributeBase o name X.env (eval o X.env) = eval o X.env := by rfl) (hline : (apos.endLine == cpos.line) = true := by rfl) : PE X (.Call (.Attribute o name apos) [] [] cpos) (tE g W (mMeth ty f mo mNil)) :=
  pe_mono (pe_bm0 pa slot hty hm ho hbase hline) fun σ H Q ⟨ρ, h, μ, sr, hr, bk⟩ =>
    step (rel := VR) (rel' := VR) (ma := mo) (Q' := Q) sr hr bk fun x d h1 H1 μ1 m1 sr1 hr1 vx bk1 => by
      split at bk1
      · rename_i ht
        exact ⟨by rw [hK]; exact st H1 μ1 h1 x d hr1 vx ht, hs H1 μ1 h1 x [] d [] Q _ hr1 vx .nil bk1⟩
      · exact bk1.elim
def dAppend : D → List D → MH → R D
  | .ref i, [d], h => match h[i]? with
    | some (.lst l) => if l.length < 1000000 then .ok .non (h.set i (.lst (l ++ [d]))) else .bad
    | _ => .bad
  | _, _, _ => .bad
theorem sm_append : SM g rAppend dAppend := by
  intro H μ h x xs a ds Q W hr va vs bk
  unfold dAppend at bk
  split at bk
  · rename_i i d
    cases va with
    | @ref p _ hi =>
      cases vs with
      | cons vd t =>
        cases t
        split at bk
        · rename_i l q
          split at bk
          · rename_i hl
            obtain ⟨ys, h1, h2⟩ := hr.lst hi q
            exact ⟨p, ys, _, rfl, rfl, h1, by rw [h2.length]; exact sz6' hl, bk.setL hr hi q h1 (h2.append (.one vd)) .non⟩
          · exact bk.elim
        · exact bk.elim
  · exact bk.elim
def dExtend : D → List D → MH → R D
  | .ref i, [.ref j], h => match h[i]?, h[j]? with
    | some (.lst l), some (.lst m) => if l.length + m.length ≤ 1000000 then .ok .non (h.set i (.lst (l ++ m))) else .bad
    | _, _ => .bad
  | _, _, _ => .bad
theorem sm_extend : SM g rExtend dExtend := by
  intro H μ h x xs a ds Q W hr va vs bk
  unfold dExtend at bk
  split at bk
  · rename_i i j
    cases va with
    | @ref p _ hi =>
      cases vs with
      | cons vd t =>
        cases t
        cases vd with
        | @ref q _ hj =>
          split at bk
          · rename_i l m q1 q2
            split at bk
            · rename_i hl
              obtain ⟨ys, h1, h2⟩ := hr.lst hi q1
              obtain ⟨zs, h3, h4⟩ := hr.lst hj q2
              exact ⟨p, q, ys, zs, rfl, rfl, h1, h3, by rw [h2.length, h4.length]; exact sz6 hl, bk.setL hr hi q1 h1 (h2.append h4) .non⟩
            · exact bk.elim
          · exact bk.elim
  · exact bk.elim
def dPop : D → List D → MH → R D
  | .ref i, [], h => match h[i]? with
    | some (.lst l) => match l[l.length - 1]? with
      | some d => .ok d (h.set i (.lst l.dropLast))
      | none => .bad
    | _ => .bad
  | _, _, _ => .bad
theorem sm_pop : SM g rPop dPop := by
  intro H μ h x xs a ds Q W hr va vs bk
  unfold dPop at bk
  split at bk
  · rename_i i
    cases va with
    | @ref p _ hi =>
      cases vs
      split at bk
      · rename_i l q
        split at bk
        · rename_i d e
          obtain ⟨ys, h1, h2⟩ := hr.lst hi q
          rw [← h2.length] at e
          obtain ⟨v, e1, e2⟩ := h2.get e
          exact ⟨p, ys, v, rfl, rfl, h1, e1, bk.setL hr hi q h1 h2.dropLast e2⟩
        · exact bk.elim
      · exact bk.elim
  · exact bk.elim
def allStr : List D → Option (List Str)
  | [] => some []
  | .str b :: r => (allStr r).map (b :: ·)
  | _ => none
theorem strs_of {H : Hp} {μ : List Addr} : ∀ {xs : List V} {ds : List D} {bs : List Str}, VRs g H μ xs ds → allStr ds = some bs → xs = bs.map V.str
  | _, _, _, .nil, e => by cases e; rfl
  | _, _, _, .cons (d := d) a b, e => by
    cases a with
    | str k =>
      simp only [allStr, Option.map_eq_some_iff] at e
      obtain ⟨r, e, rfl⟩ := e
      rw [strs_of b e]; rfl
    | _ => cases e
def dJoin : D → List D → MH → R D
  | .str a, [b], h => match (seqOf h b).bind allStr with
    | some ys => if (ys.map (·.length)).sum + ys.length * a.length ≤ 1000000 then .ok (.str (Txt.join a ys)) h else .bad
    | none => .bad
  | _, _, _ => .bad
theorem sm_join : SM g (fun x xs H Q => ∃ a p, ∃ ys : List Str, x = .str a ∧ xs = [.ref p] ∧ (SqL g.K H p (ys.map V.str) ∨ SqT g.K H p (ys.map V.str)) ∧ (ys.map (·.length)).sum + ys.length * a.length ≤ 16777216 ∧ Q (.str (Txt.join a ys)) H) dJoin := by
  intro H μ h x xs a ds Q W hr va vs bk
  unfold dJoin at bk
  split at bk
  · rename_i z b
    cases va
    cases vs with
    | @cons v _ _ _ vd t =>
      cases t
      split at bk
      · rename_i ys q
        obtain ⟨l, q1, q2⟩ := Option.bind_eq_some_iff.mp q
        have hy : ∃ p, v = .ref p := by cases vd <;> first | exact ⟨_, rfl⟩ | cases q1
        obtain ⟨p, rfl⟩ := hy
        obtain ⟨zs, h1, h2⟩ := hr.seq vd q1
        split at bk
        · rename_i c
          refine ⟨z, p, ys, rfl, rfl, ?_, by omega, bk.val hr (.str _)⟩
          rw [← strs_of h2 q2]
          exact h1
        · exact bk.elim
      · exact bk.elim
  · exact bk.elim
end
end Mi

namespace Mi
open PySem L2

/-! ### targets -/
abbrev MG := D → Slots → Option Slots
def tG (g : G) (m : MG) : TG := fun v σ H Q => ∃ ρ h μ d, SR g H μ σ ρ ∧ HR g H μ h ∧ VR g H μ v d ∧ match m d ρ with
  | some ρ' => ∀ σ', SR g H μ σ' ρ' → Q σ' H
  | none => False
abbrev MGs := List D → Slots → Option Slots
def tGs (g : G) (m : MGs) : TGs := fun vs σ H Q => ∃ ρ h μ ds, SR g H μ σ ρ ∧ HR g H μ h ∧ VRs g H μ vs ds ∧ match m ds ρ with
  | some ρ' => ∀ σ', SR g H μ σ' ρ' → Q σ' H
  | none => False
def mgName (i : Nat) : MG := fun d ρ => some (ρ.set i (some d))
def mgNil : MGs := fun ds ρ => match ds with
  | [] => some ρ
  | _ => none
def mgCons (a : MG) (r : MGs) : MGs := fun ds ρ => match ds with
  | d :: ds => (a d ρ).bind fun ρ' => r ds ρ'
  | [] => none
def mgTup (r : MGs) : MG := fun d ρ => match d with
  | .tup ds => r ds ρ
  | _ => none
section
variable {X : Cx} {g : G} {pos : Pos}
theorem pg_mono {tg : Expr} {t t' : TG} (h : PG X tg t) (hm : ∀ v σ H Q, t' v σ H Q → t v σ H Q) : PG X tg t' := ⟨fun pins s σ H v u Q I r q => h.run pins s σ H v u Q I r (hm v σ H Q q)⟩
theorem pgs_mono {tg : List Expr} {t t' : TGs} (h : PGs X tg t) (hm : ∀ v σ H Q, t' v σ H Q → t v σ H Q) : PGs X tg t' := ⟨fun pins s σ H v u Q I r q => h.run pins s σ H v u Q I r (hm v σ H Q q)⟩
theorem sg_name {i : Nat} {x : Str} (hN : X.N.Nodup) (hi : X.N[i]? = some x := by rfl) (hx : Loc X.env.scope x := by first | exact Or.inl rfl | exact Or.inr rfl) (hf : X.fn x = true ∨ X.env.scope.names.lookup x = some .local := by first | exact .inl rfl | exact .inr rfl | assumption) : PG X (.Name x pos) (tG g (mgName i)) :=
  pg_mono (pg_name hN hi hx hf) fun v σ H Q ⟨ρ, h, μ, d, sr, hr, vd, q⟩ => q _ (sr.set i vd)
theorem sgs_nil : PGs X [] (tGs g mgNil) := pgs_mono pgs_nil fun vs σ H Q ⟨ρ, h, μ, ds, sr, hr, vd, q⟩ => by
  cases vd with
  | nil => exact ⟨rfl, q σ sr⟩
  | cons a b => exact q.elim
theorem sgs_cons {e : Expr} {es : List Expr} {t : MG} {u : MGs} (h1 : PG X e (tG g t)) (h2 : PGs X es (tGs g u))
    (hs : (assignEach (e :: es) X.env).map (·.2) = assign e X.env :: (assignEach es X.env).map (·.2) := by rfl) : PGs X (e :: es) (tGs g (mgCons t u)) :=
  pgs_mono (pgs_cons h1 h2 hs) fun vs σ H Q ⟨ρ, h, μ, ds, sr, hr, vd, q⟩ => by
    cases vd with
    | nil => exact q.elim
    | @cons v d vs ds a b =>
      refine ⟨v, vs, rfl, ρ, h, μ, d, sr, hr, a, ?_⟩
      simp only [mgCons] at q
      cases e : t d ρ with
      | none => rw [e] at q; exact q
      | some ρ' =>
        rw [e] at q
        exact fun σ' sr' => ⟨ρ', h, μ, ds, sr', hr, b, q⟩
/-- how many places a target has -/
def MGs.many (n : Nat) (m : MGs) : Prop := ∀ ds ρ ρ', m ds ρ = some ρ' → ds.length = n
theorem many_nil : MGs.many 0 mgNil := fun ds ρ ρ' e => by
  cases ds with
  | nil => rfl
  | cons _ _ => cases e
theorem many_cons {n : Nat} {a : MG} {r : MGs} (h : r.many n) : MGs.many (n + 1) (mgCons a r) := fun ds ρ ρ' e => by
  cases ds with
  | nil => cases e
  | cons d ds =>
    simp only [mgCons] at e
    obtain ⟨ρ1, _, e⟩ := Option.bind_eq_some_iff.mp e
    rw [List.length_cons, h ds _ _ e]
theorem sg_tup {es : List Expr} {k : Nat} {m : MGs} {n : Nat} (h : PGs X es (tGs g m)) (hm : m.many n) (hc : X.calm = true := by rfl) (hK : X.K = g.K := by rfl)
    (hn : (assignEach es X.env).length = n := by rfl) (hst : (assignEach es X.env).findIdx? (·.1) = none := by rfl) : PG X (.Tuple es k pos) (tG g (mgTup m)) :=
  pg_mono (pg_tup hc h hn hst) fun v σ H Q ⟨ρ, h, μ, d, sr, hr, vd, q⟩ => by
    cases vd with
    | @tup p xs ds hs vs =>
      simp only [mgTup] at q
      refine ⟨p, xs, rfl, by rw [hK]; exact hs, ?_, ρ, h, μ, ds, sr, hr, vs, q⟩
      cases e : m ds ρ with
      | none => rw [e] at q; exact q.elim
      | some ρ' => rw [vs.length]; exact hm _ _ _ e
    | _ => exact q.elim
end

/-! ### what is walked -/
def JR (g : G) (H0 : Hp) (μ0 : List Addr) (J : It) (a : List D × (MH → Bool)) : Prop := ∀ (i : Nat) (H : Hp) (μ : List Addr) (h : MH), Mon g H0 H μ0 μ → HR g H μ h → a.2 h = true →
  (i < a.1.length → J.go i H ∧ ∀ x H', J.yld i H x H' → ∃ d, a.1[i]? = some d ∧ Mon g H H' μ μ ∧ HR g H' μ h ∧ VR g H' μ x d) ∧ (a.1.length ≤ i → J.stop i H)
theorem JR.mono {g : G} {H0 H1 : Hp} {μ0 μ1 : List Addr} {J : It} {a : List D × (MH → Bool)} (m : Mon g H0 H1 μ0 μ1) (h : JR g H0 μ0 J a) : JR g H1 μ1 J a := fun i H μ hh m' => h i H μ hh (m.trans m')
abbrev MI := Slots → MH → R (List D × (MH → Bool))
abbrev tI (g : G) (W : WX) (m : MI) : TI := tX JR g W m
def yes : MH → Bool := fun _ => true
/-- the items of a list (as it stands), a tuple, a text -/
def itemsOf (a : D) (h : MH) : Option (List D × (MH → Bool)) := match a with
  | .tup l => some (l, yes)
  | .ref i => (getL h i).map fun l => (l, fun h' => decide (getL h' i = some l))
  | .str z => some (z.cps.toList.map fun c => .str ⟨#[c]⟩, yes)
  | _ => none
def mIter (a : ME) : MI := fun ρ h => (a ρ h).bind fun x h1 => match itemsOf x h1 with
  | some r => .ok r h1
  | none => .bad
def rangeD (i : Int) (n : Nat) : List D := (List.range n).map fun (k : Nat) => D.int (i + (k : Int))
def revRangeD (i : Int) (n : Nat) : List D := (List.range n).map fun (k : Nat) => D.int (i + (n : Int) - 1 - (k : Int))
def lim62 (i : Int) : Bool := decide (-(2 ^ 62) ≤ i) && decide (i < 2 ^ 62)
def dR1 (f : Int → Nat → List D) (x : D) (h : MH) : R (List D × (MH → Bool)) := match x with
  | .int j => if lim62 j = true then .ok (f 0 j.toNat, yes) h else .bad
  | _ => .bad
def dR2 (f : Int → Nat → List D) (x y : D) (h : MH) : R (List D × (MH → Bool)) := match x, y with
  | .int i, .int j => if lim62 i = true ∧ lim62 j = true then .ok (f i (j - i).toNat, yes) h else .bad
  | _, _ => .bad
def mRange1 (a : ME) : MI := fun ρ h => (a ρ h).bind fun x h1 => dR1 rangeD x h1
def mRange2 (a b : ME) : MI := fun ρ h => (a ρ h).bind fun x h1 => (b ρ h1).bind fun y h2 => dR2 rangeD x y h2
def mRev1 (a : ME) : MI := fun ρ h => (a ρ h).bind fun x h1 => dR1 revRangeD x h1
def mRev2 (a b : ME) : MI := fun ρ h => (a ρ h).bind fun x h1 => (b ρ h1).bind fun y h2 => dR2 revRangeD x y h2
section
variable {X : Cx} {g : G} {W : WX} {a b e : Expr} {ma mb : ME} {pos : Pos} {tg : Expr}
theorem pi_mono {t t' : TI} (h : PI X tg e t) (hm : ∀ σ H R, t' σ H R → t σ H R) : PI X tg e t' := ⟨fun pins s σ H R I q => h.run pins s σ H R I (hm σ H R q)⟩
theorem pi_or2 {t u : TI} (h : PI X tg e t) (h' : PI X tg e u) : PI X tg e (fun σ H R => t σ H R ∨ u σ H R) := ⟨fun pins s σ H R I q => by
  rcases q with q | q
  · exact h.run pins s σ H R I q
  · exact h'.run pins s σ H R I q⟩
theorem jr_list {H0 : Hp} {μ0 : List Addr} {p : Addr} {i : Nat} {l : List D} (hi : μ0[i]? = some p) : JR g H0 μ0 (Itl g.K p) (l, fun h' => decide (getL h' i = some l)) := fun k H μ h m hr gd => by
  have q : getL h i = some l := of_decide_eq_true gd
  obtain ⟨xs, hs, vs⟩ := hr.list (m.ix hi) q
  refine ⟨fun lt => ?_, fun le => ⟨xs, hs, by rw [vs.length]; exact le⟩⟩
  have hx : l[k]? = some l[k] := List.getElem?_eq_getElem lt
  obtain ⟨v, h1, h2⟩ := vs.get hx
  refine ⟨⟨xs, v, hs, h1⟩, fun x H' y => ?_⟩
  obtain ⟨e, y⟩ := y
  subst e
  have := y xs hs
  rw [h1] at this
  cases this
  exact ⟨_, hx, Mon.refl, hr, h2⟩
theorem jr_tup {H0 : Hp} {μ0 : List Addr} {p : Addr} {xs : List V} {l : List D} (hs : SqT g.K H0 p xs) (vs : VRs g H0 μ0 xs l) : JR g H0 μ0 (Itt g.K p) (l, yes) := fun k H μ h m hr _ => by
  have hs := m.tups _ _ hs
  have vs := vs.mono m
  refine ⟨fun lt => ?_, fun le => ⟨xs, hs, by rw [vs.length]; exact le⟩⟩
  have hx : l[k]? = some l[k] := List.getElem?_eq_getElem lt
  obtain ⟨v, h1, h2⟩ := vs.get hx
  refine ⟨⟨xs, v, hs, h1⟩, fun x H' y => ?_⟩
  obtain ⟨e, y⟩ := y
  subst e
  have := y xs hs
  rw [h1] at this
  cases this
  exact ⟨_, hx, Mon.refl, hr, h2⟩
theorem jr_str {H0 : Hp} {μ0 : List Addr} {z : Str} : JR g H0 μ0 (Its z) (z.cps.toList.map fun c => .str ⟨#[c]⟩, yes) := fun k H μ h m hr _ => by
  refine ⟨fun lt => ?_, fun le => ?_⟩
  · have lt' : k < z.cps.size := by simpa using lt
    refine ⟨lt', fun x H' y => ?_⟩
    obtain ⟨e, c, hc, ex⟩ := y
    subst e ex
    refine ⟨.str ⟨#[c]⟩, ?_, Mon.refl, hr, .str _⟩
    rw [List.getElem?_map, Array.getElem?_toList, hc]
    rfl
  · have : z.cps.size ≤ k := by simpa using le
    exact this
theorem jr_range {H0 : Hp} {μ0 : List Addr} {lo : Int} {n : Nat} : JR g H0 μ0 (Itr lo n) (rangeD lo n, yes) := fun k H μ h m hr _ => by
  refine ⟨fun lt => ?_, fun le => ?_⟩
  · have lt' : k < n := by simpa [rangeD] using lt
    refine ⟨lt', fun x H' y => ?_⟩
    obtain ⟨e, ex⟩ := y
    subst e ex
    refine ⟨.int (lo + (k : Int)), ?_, Mon.refl, hr, .int _⟩
    simp [rangeD, lt']
  · have : n ≤ k := by simpa [rangeD] using le
    exact this
theorem jr_rev {H0 : Hp} {μ0 : List Addr} {lo : Int} {n : Nat} : JR g H0 μ0 (Itc (lo + (n : Int) - 1) (-1) n) (revRangeD lo n, yes) := fun k H μ h m hr _ => by
  refine ⟨fun lt => ?_, fun le => ?_⟩
  · have lt' : k < n := by simpa [revRangeD] using lt
    refine ⟨lt', fun x H' y => ?_⟩
    obtain ⟨e, ex⟩ := y
    subst e ex
    refine ⟨.int (lo + (n : Int) - 1 - (k : Int)), ?_, Mon.refl, hr, ?_⟩
    · simp [revRangeD, lt']
    · have e : lo + (n : Int) - 1 + ((k : Nat) : Int) * (-1) = lo + (n : Int) - 1 - (k : Int) := by omega
      rw [e]
      exact .int _
  · have : n ≤ k := by simpa [revRangeD] using le
    exact this
theorem si_iter (he : PE X e (tE g W ma)) (hK : X.K = g.K := by rfl) : PI X tg e (tI g W (mIter ma)) :=
  pi_mono (pi_or2 (pi_list he) (pi_or2 (pi_tup he) (pi_str he))) fun σ H R ⟨ρ, h, μ, sr, hr, bk⟩ => by
    have use : ∀ (Q : VK), (∀ x d h1 H1 μ1, ma ρ h = .ok d h1 → Mon g H H1 μ μ1 → HR g H1 μ1 h1 → VR g H1 μ1 x d → Bk (JR g) g H1 μ1 (match itemsOf d h1 with | some r => Mi.R.ok r h1 | none => .bad) R (fun c d H' => W c d σ H') → Q x H1) → tE g W ma σ H Q := fun Q k =>
      ⟨ρ, h, μ, sr, hr, Bk.bind bk fun a h1 b H1 μ1 e m hr1 hv bk1 => k b a h1 H1 μ1 e m hr1 hv bk1⟩
    rw [hK]
    unfold mIter at bk
    cases e : ma ρ h with
    | bad => rw [e] at bk; exact bk.elim
    | exc x fs h' => exact .inl (use _ fun x d h1 H1 μ1 e' => by rw [e] at e'; cases e')
    | ok d h1 =>
      cases d with
      | tup l =>
        refine .inr (.inl (use _ fun x d h1 H1 μ1 e' m hr1 vx bk1 => ?_))
        rw [e] at e'
        cases e'
        cases vx with
        | @tup p xs ds hs vs => exact ⟨p, rfl, ⟨xs, hs⟩, bk1 _ H1 μ1 Mon.refl hr1 (jr_tup hs vs)⟩
      | str z =>
        refine .inr (.inr (use _ fun x d h1 H1 μ1 e' m hr1 vx bk1 => ?_))
        rw [e] at e'
        cases e'
        cases vx
        exact ⟨z, rfl, bk1 _ H1 μ1 Mon.refl hr1 jr_str⟩
      | ref i =>
        refine .inl (use _ fun x d h1 H1 μ1 e' m hr1 vx bk1 => ?_)
        rw [e] at e'
        cases e'
        cases vx with
        | @ref p _ hi =>
          simp only [itemsOf] at bk1
          cases q : getL h1 i with
          | none => rw [q] at bk1; exact bk1.elim
          | some l =>
            rw [q] at bk1
            obtain ⟨xs, hs, vs⟩ := hr1.list hi q
            exact ⟨p, rfl, ⟨xs, hs⟩, bk1 _ H1 μ1 Mon.refl hr1 (jr_list hi)⟩
      | _ => rw [e] at bk; exact bk.elim
theorem lim_of {i : Int} (h : lim62 i = true) : -(2 ^ 62) ≤ i ∧ i < 2 ^ 62 := by
  unfold lim62 at h
  rw [Bool.and_eq_true] at h
  exact ⟨of_decide_eq_true h.1, of_decide_eq_true h.2⟩
theorem si_range1 {p : Pos} (hm : X.mg "range" = none) (ha : PE X a (tE g W ma)) (hg : Gl X "range" := by rfl) (hs : starEach [a] X.env = [(false, eval a X.env)] := by rfl) : PI X tg (.Call (.Name "range" p) [a] [] pos) (tI g W (mRange1 ma)) :=
  pi_mono (pi_range1 hg hm (pa_cons ha pa_nil hs) hs) fun σ H R ⟨ρ, h, μ, sr, hr, bk⟩ => step (rel := VR) (rel' := JR) (ma := ma) (Q' := R) sr hr bk fun x d h1 H1 μ1 m1 sr1 hr1 vx bk1 => by
    cases vx with
    | int j =>
      simp only [dR1] at bk1
      split at bk1
      · rename_i l
        exact ⟨j, rfl, (lim_of l).1, (lim_of l).2, bk1 _ H1 μ1 Mon.refl hr1 jr_range⟩
      · exact bk1.elim
    | _ => exact bk1.elim
theorem si_range2 {p : Pos} (hm : X.mg "range" = none) (ha : PE X a (tE g W ma)) (hb : PE X b (tE g W mb)) (hg : Gl X "range" := by rfl) (hs : starEach [a, b] X.env = [(false, eval a X.env), (false, eval b X.env)] := by rfl) (hs2 : starEach [b] X.env = [(false, eval b X.env)] := by rfl) : PI X tg (.Call (.Name "range" p) [a, b] [] pos) (tI g W (mRange2 ma mb)) :=
  pi_mono (pi_range2 hg hm (pa_cons ha (pa_cons hb pa_nil hs2) (by rw [hs, hs2])) hs hs2) fun σ H R ⟨ρ, h, μ, sr, hr, bk⟩ => step (rel := VR) (rel' := JR) (ma := ma) (Q' := R) sr hr bk fun x d h1 H1 μ1 m1 sr1 hr1 vx bk1 =>
    step (rel := VR) (rel' := JR) (ma := mb) (Q' := R) sr1 hr1 bk1 fun y d2 h2 H2 μ2 m2 sr2 hr2 vy bk2 => by
      cases vx with
      | int i =>
        cases vy with
        | int j =>
          simp only [dR2] at bk2
          split at bk2
          · rename_i l
            exact ⟨i, j, rfl, ⟨(lim_of l.1).1, (lim_of l.1).2, (lim_of l.2).1, (lim_of l.2).2⟩, bk2 _ H2 μ2 Mon.refl hr2 jr_range⟩
          · exact bk2.elim
        | _ => exact bk2.elim
      | _ => exact bk2.elim
theorem si_rev1 {p p2 pos2 : Pos} (hmr : X.mg "reversed" = none) (hm : X.mg "range" = none) (ha : PE X a (tE g W ma)) (hgr : Gl X "reversed" := by rfl) (hg : Gl X "range" := by rfl) (na : starEach [a] X.env = (false, eval a X.env) :: starEach [] X.env := by rfl)
    (hs : starEach [.Call (.Name "range" p2) [a] [] pos2] X.env = (false, eval (.Call (.Name "range" p2) [a] [] pos2) X.env) :: starEach [] X.env := by rfl) : PI X tg (.Call (.Name "reversed" p) [.Call (.Name "range" p2) [a] [] pos2] [] pos) (tI g W (mRev1 ma)) :=
  pi_mono (pi_revR hgr hmr (prg_1 hg hm ha na) hs) fun σ H R ⟨ρ, h, μ, sr, hr, bk⟩ => step (rel := VR) (rel' := JR) (ma := ma) (Q' := R) sr hr bk fun x d h1 H1 μ1 m1 sr1 hr1 vx bk1 => by
    cases vx with
    | int j =>
      simp only [dR1] at bk1
      split at bk1
      · rename_i l
        have e : (j - 0).toNat = j.toNat := by rw [Int.sub_zero]
        refine ⟨j, rfl, by decide, by decide, (lim_of l).1, (lim_of l).2, ?_⟩
        have q := jr_rev (g := g) (H0 := H1) (μ0 := μ1) (lo := 0) (n := j.toNat)
        rw [e]
        exact bk1 _ H1 μ1 Mon.refl hr1 q
      · exact bk1.elim
    | _ => exact bk1.elim
theorem si_rev2 {p p2 pos2 : Pos} (hmr : X.mg "reversed" = none) (hm : X.mg "range" = none) (ha : PE X a (tE g W ma)) (hb : PE X b (tE g W mb)) (hgr : Gl X "reversed" := by rfl) (hg : Gl X "range" := by rfl) (na : starEach [a, b] X.env = (false, eval a X.env) :: starEach [b] X.env := by rfl)
    (nb : starEach [b] X.env = (false, eval b X.env) :: starEach [] X.env := by rfl) (hp : (backTo pos2 (starEach [b] X.env)).any (·.1) = false := by rfl)
    (hs : starEach [.Call (.Name "range" p2) [a, b] [] pos2] X.env = (false, eval (.Call (.Name "range" p2) [a, b] [] pos2) X.env) :: starEach [] X.env := by rfl) : PI X tg (.Call (.Name "reversed" p) [.Call (.Name "range" p2) [a, b] [] pos2] [] pos) (tI g W (mRev2 ma mb)) :=
  pi_mono (pi_revR hgr hmr (prg_2 hg hm ha hb na nb hp) hs) fun σ H R ⟨ρ, h, μ, sr, hr, bk⟩ => step (rel := VR) (rel' := JR) (ma := ma) (Q' := R) sr hr bk fun x d h1 H1 μ1 m1 sr1 hr1 vx bk1 =>
    step (rel := VR) (rel' := JR) (ma := mb) (Q' := R) sr1 hr1 bk1 fun y d2 h2 H2 μ2 m2 sr2 hr2 vy bk2 => by
      cases vx with
      | int i =>
        cases vy with
        | int j =>
          simp only [dR2] at bk2
          split at bk2
          · rename_i l
            exact ⟨i, j, rfl, rfl, (lim_of l.1).1, (lim_of l.1).2, (lim_of l.2).1, (lim_of l.2).2, bk2 _ H2 μ2 Mon.refl hr2 jr_rev⟩
          · exact bk2.elim
        | _ => exact bk2.elim
      | _ => exact bk2.elim
end

/-! ### for -/
def forGo (gd : MH → Bool) (tg : MG) (body : MS) : List D → Slots → MH → Out
  | [], ρ, h => if gd h = true then .nx ρ h else .bad
  | d :: ds, ρ, h => if gd h = true then match tg d ρ with
    | some ρ1 => match body ρ1 h with
      | .nx ρ' h' => forGo gd tg body ds ρ' h'
      | .ct ρ' h' => forGo gd tg body ds ρ' h'
      | .bk ρ' h' => .nx ρ' h'
      | .rt d h' => .rt d h'
      | .exc x fs ρ' h' => .exc x fs ρ' h'
      | .bad => .bad
    | none => .bad else .bad
def mFor (it : MI) (tg : MG) (body : MS) : MS := fun ρ h => (it ρ h).out ρ fun a h1 => forGo a.2 tg body a.1 ρ h1
def whGo (c : MT) (body : MS) : Nat → Slots → MH → Out
  | 0, _, _ => .bad
  | n + 1, ρ, h => (c ρ h).out ρ fun b h1 => if b = true then match body ρ h1 with
    | .nx ρ' h' => whGo c body n ρ' h'
    | .ct ρ' h' => whGo c body n ρ' h'
    | .bk ρ' h' => .nx ρ' h'
    | .rt d h' => .rt d h'
    | .exc x fs ρ' h' => .exc x fs ρ' h'
    | .bad => .bad else .nx ρ h1
def mWhile (n : Nat) (c : MT) (body : MS) : MS := fun ρ h => whGo c body n ρ h
section
variable {X : Cx} {g : G} {W : WX} {pos : Pos} {tg iter : Expr} {mi : MI} {mt : MG} {mb : MS} {body : List Stmt}
theorem sx_for (hp : PassesOwn (model X.prog X.w) X.A X.env X.xe) (hi : PI X tg iter (tI g W mi)) (hg : PG X tg (tG g mt)) (hb : PSs X body (tS g W mb)) (hc : X.calm = true := by rfl) (hs : ∀ x, foldedSetIterable iter X.env x = pure x := by intro _; rfl) :
    PS X (.For tg iter body [] pos) (tS g W (mFor mi mt mb)) :=
  ps_mono (ps_for hp hc hi hg hb hs) fun E σ H ⟨ρ, h, μ, sr, hr, bk⟩ => stepS (rel := JR) (ma := mi) (E := E) sr hr bk fun J a h1 H1 μ1 m1 sr1 hr1 jr bk1 => by
    refine ⟨fun i m σ' H' => m = a.1.length - i ∧ i ≤ a.1.length ∧ ∃ ρ' h' μ', Mon g H1 H' μ1 μ' ∧ SR g H' μ' σ' ρ' ∧ HR g H' μ' h' ∧ BkS g H' μ' (forGo a.2 mt mb (a.1.drop i) ρ' h') E W, ⟨a.1.length, by simp, Nat.zero_le _, ρ, h1, μ1, Mon.refl, sr1, hr1, by simpa using bk1⟩, ?_⟩
    rintro i m σ' H' ⟨rfl, hi, ρ', h', μ', m', sr', hr', bk'⟩
    by_cases hlt : i < a.1.length
    · have ed : a.1.drop i = a.1[i] :: a.1.drop (i + 1) := List.drop_eq_getElem_cons hlt
      rw [ed] at bk'
      unfold forGo at bk'
      split at bk'
      · rename_i gd
        obtain ⟨jg, _⟩ := jr i H' μ' h' m' hr' gd
        obtain ⟨go, yl⟩ := jg hlt
        refine .inr ⟨go, fun σ2 H2 => i + 1 ≤ a.1.length ∧ ∃ ρ2 h2 μ2, Mon g H1 H2 μ1 μ2 ∧ SR g H2 μ2 σ2 ρ2 ∧ HR g H2 μ2 h2 ∧ BkS g H2 μ2 (forGo a.2 mt mb (a.1.drop (i + 1)) ρ2 h2) E W, fun σ2 H2 q => ⟨a.1.length - (i + 1), by omega, rfl, q.1, q.2⟩, fun x Hy y => ?_⟩
        obtain ⟨d, hd, my, hry, vy⟩ := yl x Hy y
        rw [List.getElem?_eq_getElem hlt] at hd
        cases hd
        refine ⟨ρ', h', μ', _, sr'.mono my, hry, vy, ?_⟩
        split at bk'
        · rename_i ρ1 e1
          intro σ3 sr3
          refine ⟨ρ1, h', μ', sr3, hry, ?_⟩
          have mm := m'.trans my
          cases e2 : mb ρ1 h' with
          | nx ρ4 h4 => rw [e2] at bk'; exact fun σ4 H4 μ4 m4 sr4 hr4 => ⟨hlt, ρ4, h4, μ4, mm.trans m4, sr4, hr4, BkS.mono (my.trans m4) bk'⟩
          | ct ρ4 h4 => rw [e2] at bk'; exact fun σ4 H4 μ4 m4 sr4 hr4 => ⟨hlt, ρ4, h4, μ4, mm.trans m4, sr4, hr4, BkS.mono (my.trans m4) bk'⟩
          | bk ρ4 h4 => rw [e2] at bk'; exact BkS.mono my bk'
          | rt d4 h4 => rw [e2] at bk'; exact BkS.mono my bk'
          | exc x4 fs4 ρ4 h4 => rw [e2] at bk'; exact BkS.mono my bk'
          | bad => rw [e2] at bk'; exact bk'
        · exact bk'.elim
      · exact bk'.elim
    · have e : i = a.1.length := by omega
      subst e
      rw [List.drop_length] at bk'
      unfold forGo at bk'
      split at bk'
      · rename_i gd
        exact .inl ⟨(jr _ H' μ' h' m' hr' gd).2 (Nat.le_refl _), bk' σ' H' μ' Mon.refl sr' hr'⟩
      · exact bk'.elim
theorem sx_while {c : Expr} {mc : MT} (n : Nat) (hp : PassesOwn (model X.prog X.w) X.A X.env X.xe) (hc : PT X c (tT g W mc)) (hb : PSs X body (tS g W mb)) : PS X (.While c body [] pos) (tS g W (mWhile n mc mb)) :=
  ps_mono (ps_while hp hc hb) fun E σ H ⟨ρ, h, μ, sr, hr, bk⟩ => by
    refine ⟨fun m σ' H' => ∃ ρ' h' μ', SR g H' μ' σ' ρ' ∧ HR g H' μ' h' ∧ BkS g H' μ' (whGo mc mb m ρ' h') E W, ⟨n, ρ, h, μ, sr, hr, bk⟩, ?_⟩
    rintro m σ' H' ⟨ρ', h', μ', sr', hr', bk'⟩
    cases m with
    | zero => exact bk'.elim
    | succ m =>
      unfold whGo at bk'
      refine stepS (rel := fun _ => eqR) (ma := mc) (E := E) sr' hr' bk' fun b b' h1 H1 μ1 m1 sr1 hr1 vb bk1 => ?_
      cases vb
      cases b with
      | false => exact bk1 σ' H1 μ1 Mon.refl sr1 hr1
      | true =>
        refine ⟨fun σ2 H2 => ∃ ρ2 h2 μ2, SR g H2 μ2 σ2 ρ2 ∧ HR g H2 μ2 h2 ∧ BkS g H2 μ2 (whGo mc mb m ρ2 h2) E W, fun σ2 H2 q => ⟨m, Nat.lt_succ_self m, q⟩, ρ', h1, μ1, sr1, hr1, ?_⟩
        simp only [if_true] at bk1
        cases e2 : mb ρ' h1 with
        | nx ρ4 h4 => rw [e2] at bk1; exact fun σ4 H4 μ4 m4 sr4 hr4 => ⟨ρ4, h4, μ4, sr4, hr4, BkS.mono m4 bk1⟩
        | ct ρ4 h4 => rw [e2] at bk1; exact fun σ4 H4 μ4 m4 sr4 hr4 => ⟨ρ4, h4, μ4, sr4, hr4, BkS.mono m4 bk1⟩
        | bk ρ4 h4 => rw [e2] at bk1; exact bk1
        | rt d4 h4 => rw [e2] at bk1; exact bk1
        | exc x4 fs4 ρ4 h4 => rw [e2] at bk1; exact bk1
        | bad => rw [e2] at bk1; exact bk1
end

/-! ### a def by its body -/
def startD (n N : Nat) (ds : List D) : Slots := ds.map some ++ List.replicate (N - n) none
def mFun (n N : Nat) (body : MS) : List D → MH → R D := fun ds h => if ds.length = n then match body (startD n N ds) h with
  | .nx _ h' => .ok .non h'
  | .rt d h' => .ok d h'
  | .exc x fs _ h' => .exc x fs h'
  | _ => .bad else .bad
theorem spM_len {g : G} {n N : Nat} {body : MS} {vs : List V} {H : Hp} {Q : VK} {E : XK} (h : spM g (mFun n N body) vs H Q E) : vs.length = n := by
  obtain ⟨ds, hh, μ, v, hr, bk⟩ := h
  unfold mFun at bk
  split at bk
  · rename_i e; rw [v.length]; exact e
  · exact bk.elim
theorem spM_run {g : G} {ps N : List Str} {body : MS} {vs : List V} {H : Hp} {Q : VK} {E : XK} (h : spM g (mFun ps.length N.length body) vs H Q E) : tS g (fun c d _ H' => E c d H') body { nx := fun _ H' => Q .non H', rt := Q } (L2.start N vs) H := by
  have hl := spM_len h
  obtain ⟨ds, hh, μ, v, hr, bk⟩ := h
  unfold mFun at bk
  split at bk
  · rename_i e
    refine ⟨startD ps.length N.length ds, hh, μ, ?_, hr, ?_⟩
    · unfold L2.start startD
      rw [hl]
      exact SR.start _ v
    · cases q : body (startD ps.length N.length ds) hh with
      | nx ρ h' => rw [q] at bk; exact fun σ' H' μ' m sr hr' => bk .non H' μ' m hr' .non
      | rt d h' => rw [q] at bk; exact fun v H' μ' m hr' vd => bk v H' μ' m hr' vd
      | bk ρ h' => rw [q] at bk; exact bk.elim
      | ct ρ h' => rw [q] at bk; exact bk.elim
      | exc x fs ρ h' => rw [q] at bk; exact fun cls d σ' H' μ' m sr hr' xr => bk cls d H' μ' m hr' xr
      | bad => rw [q] at bk; exact bk
  · exact bk.elim
section
variable {P : Program} {w : World} {K : PySem.W.Frag} {mg : Str → Option Value} {base : Heap} {g : G}
theorem fn_mk {x qual : Str} {st : Stmt} {f : Addr} {fd : FuncData} {N ps : List Str} {k : Nat} {body : MS} (F : Fun K x qual st f fd) (S : FnScope N ps (defScope st))
    (hb : ∀ (cdv : Value) (A : Around) (outer : List Env) (s : Shared) (H : Hp) (E : XK), Room k (A.deeper (PyProof.Rows.envOfC qual (defScope st) s.heap.objs.size f cdv)) →
      PSs (cxOf (L2.CX P w) P w K mg base N qual (defScope st) f cdv A outer s H E) (defBody st) (tS g (fun c d _ H' => E c d H') body)) :
    FnOk P w K mg base (L2.CX P w) (k + 1) f fd ps (spM g (mFun ps.length N.length body)) :=
  F.okX S (fun vs H Q E h => spM_len h) fun cdv A outer s H vs Q E hr h => ⟨_, hb cdv A outer s H E hr, spM_run h⟩
theorem fn_none {f : Addr} {fd : FuncData} {ps : List Str} {k : Nat} {F : List D → MH → R D} (hF : ∀ ds h, F ds h = .bad) : FnOk P w K mg base (L2.CX P w) k f fd ps (spM g F) := by
  have no : ∀ vs H Q E, ¬ spM g F vs H Q E := fun vs H Q E ⟨ds, h, μ, _, _, bk⟩ => by rw [hF] at bk; exact bk
  exact ⟨fun vs H Q E h => absurd h (no vs H Q E), fun A outer s H args us vs Q E _ _ _ _ h => absurd h (no vs H Q E)⟩
end
end Mi

namespace Mi
open PySem L2

/-! ### list comprehensions -/
abbrev W0 : WX := fun _ _ _ _ => False
def mYes : MT := fun _ h => .ok true h
def wipeD (ρ : Slots) : List Nat → Slots
  | [] => ρ
  | v :: vs => (wipeD ρ vs).set v none
theorem SR.wipe {g : G} {H : Hp} {μ : List Addr} {σ : St} {ρ : Slots} (h : SR g H μ σ ρ) : ∀ vs : List Nat, SR g H μ (L2.wipe σ vs) (wipeD ρ vs)
  | [] => h
  | v :: vs => (SR.wipe h vs).unset v none
def lcGo (gd : MH → Bool) (tg : MG) (tt : MT) (te : ME) (c : Nat) (ρ : Slots) : List D → MH → R D
  | [], h => if gd h = true then .ok (.ref c) h else .bad
  | d :: ds, h => if gd h = true then match tg d ρ with
    | some ρ1 => match tt ρ1 h with
      | .ok false h1 => lcGo gd tg tt te c ρ ds h1
      | .ok true h1 => match te ρ1 h1 with
        | .ok y h2 => match h2[c]? with
          | some (.lst acc) => if acc.length < 1000000 then lcGo gd tg tt te c ρ ds (h2.set c (.lst (acc ++ [y]))) else .bad
          | _ => .bad
        | _ => .bad
      | _ => .bad
    | none => .bad else .bad
def mLc (it : MI) (tg : MG) (tt : MT) (te : ME) (vs : List Nat) : ME := fun ρ h => (it ρ h).bind fun a h1 => lcGo a.2 tg tt te h1.length (wipeD ρ vs) a.1 (h1 ++ [.lst []])
/-- a target by its very slots -/
structure TgOk (g : G) (t : TG) (m : MG) (vs : List Nat) : Prop where
  run : ∀ (v : V) (d : D) (σ : St) (ρ : Slots) (H : Hp) (μ : List Addr) (h : MH) (Q : St → Hp → Prop), HR g H μ h → VR g H μ v d → SR g H μ (L2.wipe σ vs) ρ →
    match m d ρ with
    | some ρ' => (∀ σ', SR g H μ σ' ρ' → L2.wipe σ' vs = L2.wipe σ vs → Q σ' H) → t v (L2.wipe σ vs) H Q
    | none => True
theorem tg_name {g : G} (j : Nat) : TgOk g (gName j) (mgName j) [j] := ⟨fun v d σ ρ H μ h Q hr vd sr => by
  intro k
  refine k _ (sr.set j vd) ?_
  show ((σ.set j none).set j (some v)).set j none = σ.set j none
  rw [List.set_set, List.set_set]⟩
section
variable {g : G} {W : WX} {mi : MI} {mt : MG} {tt : MT} {te : ME} {t : TG} {vs : List Nat}
theorem lc_of (ht : TgOk g t mt vs) {σ : St} {H : Hp} {Q : VK} (q : tE g W (mLc mi mt tt te vs) σ H Q) : tLc (tI g W mi) t (tT g W0 tt) (tE g W0 te) vs σ H Q := by
  obtain ⟨ρ, h, μ, sr, hr, bk⟩ := q
  refine step (rel := JR) (rel' := VR) (ma := mi) (Q' := Q) sr hr bk fun J a h1 H1 μ1 m1 sr1 hr1 jr bk1 Dd hD => ?_
  have mD : Mon g H1 (upd H1 Dd (.lst [])) μ1 (μ1 ++ [Dd]) := mon_push hD
  refine ⟨fun i m H' => m = a.1.length - i ∧ i ≤ a.1.length ∧ ∃ h' μ', Mon g H1 H' μ1 μ' ∧ μ'[h1.length]? = some Dd ∧ HR g H' μ' h' ∧ Bk (VR g) g H' μ' (lcGo a.2 mt tt te h1.length (wipeD ρ vs) (a.1.drop i) h') Q (fun c d H' => W c d σ H'),
    ⟨a.1.length, by simp, Nat.zero_le _, h1 ++ [.lst []], μ1 ++ [Dd], mD, ix_push hr1.len, hr1.push (u := .lst []) hD ⟨[], upd_same, .nil⟩, Bk.mono mD (by simpa using bk1)⟩, ?_⟩
  rintro i m H' ⟨rfl, hi, h', μ', m', hc, hr', bk'⟩
  by_cases hlt : i < a.1.length
  · have ed : a.1.drop i = a.1[i] :: a.1.drop (i + 1) := List.drop_eq_getElem_cons hlt
    rw [ed] at bk'
    unfold lcGo at bk'
    split at bk'
    · rename_i gd
      obtain ⟨jg, _⟩ := jr i H' μ' h' m' hr' gd
      obtain ⟨go, yl⟩ := jg hlt
      refine .inr ⟨go, fun H2 => i + 1 ≤ a.1.length ∧ ∃ h2 μ2, Mon g H1 H2 μ1 μ2 ∧ μ2[h1.length]? = some Dd ∧ HR g H2 μ2 h2 ∧ Bk (VR g) g H2 μ2 (lcGo a.2 mt tt te h1.length (wipeD ρ vs) (a.1.drop (i + 1)) h2) Q (fun c d H' => W c d σ H'), fun H2 q => ⟨a.1.length - (i + 1), by omega, rfl, q.1, q.2⟩, fun x Hy y => ?_⟩
      obtain ⟨d, hd, my, hry, vy⟩ := yl x Hy y
      rw [List.getElem?_eq_getElem hlt] at hd
      cases hd
      have mm := m'.trans my
      have srw : SR g Hy μ' (L2.wipe σ vs) (wipeD ρ vs) := (sr1.mono mm).wipe vs
      have tr := ht.run x a.1[i] σ (wipeD ρ vs) Hy μ' h' (fun σ2 H2 => L2.wipe σ2 vs = L2.wipe σ vs ∧ tT g W0 tt σ2 H2 fun b H3 => if b = true then tE g W0 te σ2 H3 fun y H4 => ∃ acc, H4 Dd = some (.lst acc) ∧ acc.length < sizeLine ∧ (i + 1 ≤ a.1.length ∧ ∃ h2 μ2, Mon g H1 (upd H4 Dd (.lst (acc ++ [y]))) μ1 μ2 ∧ μ2[h1.length]? = some Dd ∧ HR g (upd H4 Dd (.lst (acc ++ [y]))) μ2 h2 ∧ Bk (VR g) g (upd H4 Dd (.lst (acc ++ [y]))) μ2 (lcGo a.2 mt tt te h1.length (wipeD ρ vs) (a.1.drop (i + 1)) h2) Q (fun c d H' => W c d σ H')) else (i + 1 ≤ a.1.length ∧ ∃ h2 μ2, Mon g H1 H3 μ1 μ2 ∧ μ2[h1.length]? = some Dd ∧ HR g H3 μ2 h2 ∧ Bk (VR g) g H3 μ2 (lcGo a.2 mt tt te h1.length (wipeD ρ vs) (a.1.drop (i + 1)) h2) Q (fun c d H' => W c d σ H'))) hry vy srw
      split at bk'
      · rename_i ρ1 e1
        rw [e1] at tr
        refine tr fun σ2 sr2 ew => ⟨ew, ρ1, h', μ', sr2, hry, ?_⟩
        cases e2 : tt ρ1 h' with
        | bad => rw [e2] at bk'; exact bk'.elim
        | exc x fs h3 => rw [e2] at bk'; exact bk'.elim
        | ok b h3 =>
          rw [e2] at bk'
          intro b' H3 μ3 m3 hr3 eb
          cases eb
          cases b with
          | false => exact ⟨hlt, h3, μ3, mm.trans m3, m3.ix hc, hr3, Bk.mono (my.trans m3) bk'⟩
          | true =>
            refine ⟨ρ1, h3, μ3, sr2.mono m3, hr3, ?_⟩
            simp only at bk'
            cases e3 : te ρ1 h3 with
            | bad => rw [e3] at bk'; exact bk'.elim
            | exc x fs h4 => rw [e3] at bk'; exact bk'.elim
            | ok y h4 =>
              rw [e3] at bk'
              intro yv H4 μ4 m4 hr4 vyv
              simp only at bk'
              split at bk'
              · rename_i acc ea
                split at bk'
                · rename_i hl
                  have hc4 : μ4[h1.length]? = some Dd := m4.ix (m3.ix hc)
                  obtain ⟨xs, hx, vx⟩ := hr4.lst hc4 ea
                  have m5 : Mon g H4 (upd H4 Dd (.lst (xs ++ [yv]))) μ4 μ4 := (Saf.lst hx).mon
                  exact ⟨xs, hx, by rw [vx.length]; exact sz6' hl, hlt, _, μ4, ((mm.trans m3).trans m4).trans m5, hc4,
                    hr4.write (u := .lst (acc ++ [y])) hc4 ea rfl (Saf.lst hx) rfl ⟨_, upd_same, (vx.append (.one vyv)).mono m5⟩, Bk.mono (((my.trans m3).trans m4).trans m5) bk'⟩
                · exact bk'.elim
              · exact bk'.elim
      · exact bk'.elim
    · exact bk'.elim
  · have e : i = a.1.length := by omega
    subst e
    rw [List.drop_length] at bk'
    unfold lcGo at bk'
    split at bk'
    · rename_i gd
      exact .inl ⟨(jr _ H' μ' h' m' hr' gd).2 (Nat.le_refl _), bk' _ H' μ' Mon.refl hr' (.ref hc)⟩
    · exact bk'.elim
end
section
variable {X : Cx} {g : G} {W : WX} {elt tg iter : Expr} {ifs : List Expr} {scope : Scope} {own : List (Str × Nat)} {pos spos py : Pos} {mi : MI} {mt : MG} {tt : MT} {te : ME} {t : TG}
theorem st_nil {Y : Cx} : PTs Y [] (tT g W0 mYes) := ⟨fun pins s σ H Q I ⟨ρ, h, μ, sr, hr, bk⟩ => (pts_nil (X := Y)).run pins s σ H Q I (bk true H μ Mon.refl hr rfl)⟩
theorem se_lc (hN : X.N.Nodup) (hi : PI X tg iter (tI g W mi)) (ok : BlkOk X.N X.env.scope scope own) (ht : TgOk g t mt (own.map (·.2)))
    (hg : ∀ (s : Shared) (H : Hp) (C : Addr) (cl : List (Str × Addr)) (fp : List Addr), PG (X.blk s H scope (PySem.compEnvC scope cl C X.env) fp) tg t) (hts : ∀ (s : Shared) (H : Hp) (C : Addr) (cl : List (Str × Addr)) (fp : List Addr), PTs (X.blk s H scope (PySem.compEnvC scope cl C X.env) fp) ifs (tT g W0 tt))
    (he : ∀ (s : Shared) (H : Hp) (C : Addr) (cl : List (Str × Addr)) (fp : List Addr), PE (X.blk s H scope (PySem.compEnvC scope cl C X.env) fp) elt (tE g W0 te)) (hc : X.calm = true := by rfl) (hs : ∀ x, foldedSetIterable iter X.env x = pure x := by intro _; rfl) :
    PE X (.ListComp elt [⟨tg, iter, ifs, 0⟩] scope pos) (tE g W (mLc mi mt tt te (own.map (·.2)))) :=
  pe_mono (pe_lc hc hN hi ok hg hts he hs) fun σ H Q q => lc_of ht q
theorem sx_setLc {i : Nat} {y : Str} (hN : X.N.Nodup) (hi : PI X tg iter (tI g W mi)) (ok : BlkOk X.N X.env.scope scope own) (ht : TgOk g t mt (own.map (·.2)))
    (hg : ∀ (s : Shared) (H : Hp) (C : Addr) (cl : List (Str × Addr)) (fp : List Addr), PG (X.blk s H scope (PySem.compEnvC scope cl C X.env) fp) tg t) (hts : ∀ (s : Shared) (H : Hp) (C : Addr) (cl : List (Str × Addr)) (fp : List Addr), PTs (X.blk s H scope (PySem.compEnvC scope cl C X.env) fp) ifs (tT g W0 tt))
    (he : ∀ (s : Shared) (H : Hp) (C : Addr) (cl : List (Str × Addr)) (fp : List Addr), PE (X.blk s H scope (PySem.compEnvC scope cl C X.env) fp) elt (tE g W0 te))
    (hy : X.N[i]? = some y := by rfl) (hyl : X.env.scope.names.lookup y = some .local := by rfl) (hsw : swapsWith (.ListComp elt [⟨tg, iter, ifs, 0⟩] scope pos) (some (.Name y py)) spos.line X.env = pure true := by exact sw_true rfl rfl rfl (by decide +kernel))
    (hc : X.calm = true := by rfl) (hs : ∀ x, foldedSetIterable iter X.env x = pure x := by intro _; rfl) :
    PS X (.Assign [.Name y py] (.ListComp elt [⟨tg, iter, ifs, 0⟩] scope pos) spos) (tS g W (mAsg i (mLc mi mt tt te (own.map (·.2))))) :=
  ps_mono (ps_setLc hc hN hy hyl hsw hi ok hg hts he hs) fun E σ H ⟨ρ, h, μ, sr, hr, bk⟩ => lc_of ht (W := W) (stepS (W := W) (rel := VR) (ma := mLc mi mt tt te (own.map (fun p : Str × Nat => p.2))) (f := fun d h1 => .nx (ρ.set i (some d)) h1) (E := E) sr hr bk fun v d h1 H1 μ1 m1 sr1 hr1 vx bk1 => bk1 _ H1 μ1 Mon.refl (sr1.set i vx) hr1)
end

/-! ### stores to places, to several names -/
def dSet (x y d : D) (h : MH) : R Unit := match x, y with
  | .ref i, .int k => match h[i]? with
    | some (.lst l) => match ixN l.length k with
      | some j => .ok () (h.set i (.lst (l.set j d)))
      | none => .bad
    | _ => .bad
  | _, _ => .bad
def mSetIx (o i e : ME) : MS := fun ρ h => (e ρ h).out ρ fun d h1 => (o ρ h1).out ρ fun x h2 => (i ρ h2).out ρ fun y h3 => (dSet x y d h3).out ρ fun _ h4 => .nx ρ h4
def mAsgT (m : MG) (e : ME) : MS := fun ρ h => (e ρ h).out ρ fun d h1 => match m d ρ with
  | some ρ' => .nx ρ' h1
  | none => .bad
section
variable {X : Cx} {g : G} {W : WX} {o i e tg : Expr} {mo mi me : ME} {pos p2 : Pos} {mt : MG}
theorem sx_setIx (ho : PE X o (tE g W mo)) (hi : PE X i (tE g W mi)) (he : PE X e (tE g W me))
    (ha : ∀ v, assign (.Subscript o i p2) X.env v = (do
      let ov ← holding [v] (eval o X.env)
      let iv ← holding [v, ov] (eval i X.env)
      standAt p2
      holding [v, ov, iv] (setItem ov iv v)
      release [v, ov, iv] []) := by intro _; rfl)
    (hs : swapsWithSole [.Subscript o i p2] e pos.line X.env = pure false := by rfl) (hw : swappedStores [.Subscript o i p2] e X.env = pure none := by rfl)
    (h1 : (assignEach [.Subscript o i p2] X.env).map (·.2) = [assign (.Subscript o i p2) X.env] := by rfl) : PS X (.Assign [.Subscript o i p2] e pos) (tS g W (mSetIx mo mi me)) :=
  ps_mono (ps_asg he (pg_sub ho hi set_list ha) hs hw h1) fun E σ H ⟨ρ, h, μ, sr, hr, bk⟩ =>
    stepS (rel := VR) (ma := me) (E := E) sr hr bk fun v d h1 H1 μ1 m1 sr1 hr1 vd bk1 => stepS (rel := VR) (ma := mo) (E := E) sr1 hr1 bk1 fun x a h2 H2 μ2 m2 sr2 hr2 vx bk2 => stepS (rel := VR) (ma := mi) (E := E) sr2 hr2 bk2 fun y b h3 H3 μ3 m3 sr3 hr3 vy bk3 => by
      have vx := vx.mono m3
      have vd := (vd.mono m2).mono m3
      cases vx with
      | @ref p c hi =>
        cases vy with
        | int k =>
          simp only [dSet] at bk3
          split at bk3
          · rename_i l q
            split at bk3
            · rename_i j ej
              obtain ⟨xs, hx, vxs⟩ := hr3.lst hi q
              refine ⟨p, xs, k, j, rfl, rfl, hx, by rw [vxs.length]; exact ej, ?_⟩
              have m5 : Mon g H3 (upd H3 p (.lst (xs.set j v))) μ3 μ3 := (Saf.lst hx).mon
              exact bk3 _ _ μ3 m5 (sr3.mono m5) (hr3.write (u := .lst (l.set j d)) hi q rfl (Saf.lst hx) rfl ⟨_, upd_same, (vxs.set j vd).mono m5⟩)
            · exact bk3.elim
          · exact bk3.elim
        | _ => exact bk3.elim
      | _ => exact bk3.elim
theorem sx_setT (he : PE X e (tE g W me)) (hg : PG X tg (tG g mt)) (hs : swapsWithSole [tg] e pos.line X.env = pure false := by rfl) (hw : swappedStores [tg] e X.env = pure none := by rfl)
    (h1 : (assignEach [tg] X.env).map (·.2) = [assign tg X.env] := by rfl) : PS X (.Assign [tg] e pos) (tS g W (mAsgT mt me)) :=
  ps_mono (ps_asg he hg hs hw h1) fun E σ H ⟨ρ, h, μ, sr, hr, bk⟩ => stepS (rel := VR) (ma := me) (E := E) sr hr bk fun v d h1 H1 μ1 m1 sr1 hr1 vd bk1 => by
    refine ⟨ρ, h1, μ1, d, sr1, hr1, vd, ?_⟩
    split at bk1
    · rename_i ρ' e'
      (try rw [e'])
      exact fun σ' sr' => bk1 σ' H1 μ1 Mon.refl sr' hr1
    · exact bk1.elim
end

/-! ### the end of a law -/
def cmOf (K : PySem.W.Frag) : Str → Option Addr := fun x => match PySem.W.nsIn K mainGlobals x with
  | some (some (.ref C)) => some C
  | _ => none
abbrev gOf (K : PySem.W.Frag) : G := ⟨K, cmOf K⟩
theorem vrs_ints {g : G} {H : Hp} {μ : List Addr} : ∀ ns : List Int, VRs g H μ (ns.map V.int) (ns.map D.int)
  | [] => .nil
  | n :: ns => .cons (.int n) (vrs_ints ns)
theorem law_start {K : PySem.W.Frag} {F : List D → MH → R D} {H : Hp} {a : Addr} {ns : List Int} {h' : MH} (hO : Only H) (hS : SqL K H a (ns.map V.int)) (hF : F [.ref 0] [.rol (ns.map D.int)] = .ok (.bl true) h') :
    spM (gOf K) F [.ref a] H (fun v _ => v = .bl true) fun _ _ _ => False := by
  refine ⟨[.ref 0], [.rol (ns.map D.int)], [a], .cons (.ref rfl) .nil, ⟨rfl, fun i p o hi ho => ?_, fun i j p o u hi hj ho hu m1 m2 => ?_⟩, ?_⟩
  · cases i with
    | succ i => simp at hi
    | zero =>
      simp at hi ho
      subst hi ho
      refine ⟨ns.map V.int, ?_, vrs_ints ns⟩
      rcases hS with (h | h) | h
      · rcases hO a with z | ⟨o, xs, z⟩
        · rw [h] at z; cases z
        · rw [h] at z; cases z
      · exact .inl h
      · exact .inr h
  · cases i with
    | succ i => simp at hi
    | zero => cases j with
      | succ j => simp at hj
      | zero => rfl
  · rw [hF]
    intro v H' μ' m hr hv
    cases hv
    rfl
theorem law_end {l : PySem.W.OpenLaw} {k : Nat} {q : Program} {loose : List Str} {XP : (Str → Option Value) → Heap → Prop} {YP : World → Heap → Prop} {d : DefRec} {K : Params → PySem.W.Frag} {x : Str} {F : List D → MH → R D}
    (hF : ∀ ns : List Int, ns.length ≤ 63 → (∀ z ∈ ns, Builtin.Int.intBits z ≤ 1048576) → ∃ h', F [.ref 0] [.rol (ns.map D.int)] = .ok (.bl true) h')
    (hn : l.most = some 63) (hdf : d.params.defaults = []) (hr : Room k PySem.callerA)
    (hY : ∀ (w : World) (h : Heap), YP w h → (K w.params).In h)
    (FF : ∀ (w : World) (mg : Str → Option Value) (fa : Addr) (h : Heap), (K w.params).In h → h.Ns mainGlobals mg → mg d.name = some (.ref fa) →
      ∃ fd : FuncData, (∀ (s : Shared) (u : Value), BindsTo s fd ⟨[u], []⟩ [(x, u)]) ∧
        ∀ base : Heap, (K w.params).In base → base.Ns mainGlobals mg → FnOk l.prog w (K w.params) mg base (L2.CX l.prog w) k fa fd [x] (spM (gOf (K w.params)) F)) :
    PySem.W.WalkO q loose XP YP l.row.toRowW d [] (fun f vs => PySem.call f vs) :=
  walk_ofB (n := 63) (k := k) (x := x) (CX := fun w => L2.CX l.prog w) (sp := fun w => spM (gOf (K w.params)) F) hn (by decide) hdf hr hY FF
    (fun w H a ns h1 h2 hO hS => let ⟨h', e⟩ := hF ns h1 h2; law_start hO hS e)
    fun w H s e s' c => by
      obtain ⟨_, _, _, _, _, _, _, _, _, _, _, _, z⟩ := c
      exact z
end Mi

namespace Mi
open PySem L2

/-! ### dict displays of no pair, of one -/
def keyD : D → Option Key
  | .int i => some (.inl i)
  | .str x => some (.inr x)
  | _ => none
def mDict0 : ME := fun _ h => .ok (.ref h.length) (h ++ [.dK []])
def mDict1 (k v : ME) : ME := fun ρ h => (k ρ (h ++ [.dK []])).bind fun x h1 => (v ρ h1).bind fun y h2 => if h2[h.length]? = some (.dK []) then match keyD x with
  | some kk => .ok (.ref h.length) (h2.set h.length (.dK [(kk, y)]))
  | none => .bad else .bad
section
variable {X : Cx} {g : G} {W : WX} {k v : Expr} {mk mv : ME} {pos : Pos}
theorem se_dict0 : PE X (.Dict [] [] pos) (tE g W mDict0) := pe_mono pe_dnewK fun σ H Q ⟨ρ, h, μ, sr, hr, bk⟩ p hp =>
  bk _ _ (μ ++ [p]) (mon_push hp) (hr.push (u := .dK []) hp ⟨[], upd_same, .nil⟩) (.ref (ix_push hr.len))
theorem keyD_of {H : Hp} {μ : List Addr} {x : V} {d : D} {kk : Key} (vx : VR g H μ x d) (e : keyD d = some kk) : x = kV kk := by
  cases vx <;> cases e <;> rfl
theorem se_dict1 (hk : PE X k (tE g W mk)) (hv : PE X v (tE g W mv)) : PE X (.Dict [some k] [v] pos) (tE g W (mDict1 mk mv)) :=
  pe_mono (pe_disp (pps_cons hk hv pps_nil) rfl rfl (by simp) (by show 1 ≤ 15; decide)) fun σ H Q ⟨ρ, h, μ, sr, hr, bk⟩ p hp => by
    have m0 : Mon g H (upd H p (.dK [])) μ (μ ++ [p]) := mon_push hp
    have hr0 : HR g (upd H p (.dK [])) (μ ++ [p]) (h ++ [.dK []]) := hr.push (u := .dK []) hp ⟨[], upd_same, .nil⟩
    have i0 : (μ ++ [p])[h.length]? = some p := ix_push hr.len
    refine step (rel := VR) (rel' := VR) (ma := mk) (Q' := Q) (sr.mono m0) hr0 (Bk.mono m0 bk) fun x a h1 H1 μ1 m1 sr1 hr1 vx bk1 => ?_
    refine step (rel := VR) (rel' := VR) (ma := mv) (Q' := Q) sr1 hr1 bk1 fun y b h2 H2 μ2 m2 sr2 hr2 vy bk2 => ?_
    split at bk2
    · rename_i e
      have i2 : μ2[h.length]? = some p := m2.ix (m1.ix i0)
      obtain ⟨kv, e1, e2⟩ := hr2.ob _ _ _ i2 e
      cases e2
      split at bk2
      · rename_i kk ek
        refine ⟨e1, [(kk, y)], ?_, (by show 1 ≤ 15; decide), ?_⟩
        · rw [keyD_of (vx.mono m2) ek]; rfl
        · have em : mergeK [] [(kk, y)] = [(kk, y)] := rfl
          rw [em]
          have m5 : Mon g H2 (upd H2 p (.dK [(kk, y)])) μ2 μ2 := (Saf.dK e1).mon
          exact bk2 _ _ μ2 m5 (hr2.write (u := .dK [(kk, b)]) i2 e rfl (Saf.dK e1) rfl ⟨_, upd_same, .cons (vy.mono m5) .nil⟩) (.ref i2)
      · exact bk2.elim
    · exact bk2.elim
end
/-! ### a < b < c -/
def mChain (f f' : D → D → MH → R D) (a b c : ME) : ME := fun ρ h => (a ρ h).bind fun x h1 => (b ρ h1).bind fun y h2 => (f x y h2).bind fun z h3 => match z with
  | .bl true => (c ρ h3).bind fun w h4 => f' y w h4
  | .bl false => .ok (.bl false) h3
  | _ => .bad
section
variable {X : Cx} {g : G} {W : WX} {a b c : Expr} {ma mb mc : ME} {pos : Pos} {r r' : R2} {f f' : D → D → MH → R D} {op op' : CmpOp}
theorem chain_of (hs : S2 g r f) (hs' : S2 g r' f') {σ : St} {H : Hp} {Q : VK} (q : tE g W (mChain f f' ma mb mc) σ H Q) : tChain r r' (tE g W ma) (tE g W mb) (tE g W mc) σ H Q := by
  obtain ⟨ρ, h, μ, sr, hr, bk⟩ := q
  refine step (rel := VR) (rel' := VR) (ma := ma) (Q' := Q) sr hr bk fun x a h1 H1 μ1 m1 sr1 hr1 vx bk1 => ?_
  refine step (rel := VR) (rel' := VR) (ma := mb) (Q' := Q) sr1 hr1 bk1 fun y b h2 H2 μ2 m2 sr2 hr2 vy bk2 => ?_
  refine hs H2 μ2 h2 x y a b _ (fun c d H' => W c d σ H') hr2 (vx.mono m2) vy (Bk.bind bk2 fun z h3 zv H3 μ3 _ m3 hr3 vz bk3 => ?_)
  cases vz with
  | bl k =>
    cases k with
    | true =>
      refine ⟨true, rfl, ?_⟩
      exact step (rel := VR) (rel' := VR) (ma := mc) (Q' := Q) (sr2.mono m3) hr3 bk3 fun w c h4 H4 μ4 m4 sr4 hr4 vw bk4 => hs' H4 μ4 h4 y w b c Q _ hr4 ((vy.mono m3).mono m4) vw bk4
    | false => exact ⟨false, rfl, bk3.val hr3 (.bl false)⟩
  | _ => exact bk3.elim
theorem se_chain (ho : OpR X (compareOp op) r) (hs : S2 g r f) (ho' : OpR X (compareOp op') r') (hs' : S2 g r' f') (ha : PE X a (tE g W ma)) (hb : PE X b (tE g W mb)) (hc : PE X c (tE g W mc))
    (hm : lastMarks [op, op'] [b, c] = false := by with_unfolding_all rfl) : PE X (.Compare a [op, op'] [b, c] pos) (tE g W (mChain f f' ma mb mc)) := pe_mono (pe_chain ho ho' ha hb hc hm) fun σ H Q q => chain_of hs hs' q
theorem st_chain (ho : OpR X (compareOp op) r) (hs : S2 g r f) (ho' : OpR X (compareOp op') r') (hs' : S2 g r' f') (ha : PE X a (tE g W ma)) (hb : PE X b (tE g W mb)) (hc : PE X c (tE g W mc))
    (hm : lastMarks [op, op'] [b, c] = false := by with_unfolding_all rfl) : PT X (.Compare a [op, op'] [b, c] pos) (tT g W (mB (mChain f f' ma mb mc))) :=
  pt_mono (pt_chain ho ho' ha hb hc hm) fun σ H Q ⟨ρ, h, μ, sr, hr, bk⟩ => by
    refine chain_of (W := W) (f := f) (f' := f') hs hs' ⟨ρ, h, μ, sr, hr, ?_⟩
    refine Bk.bind bk fun a h1 b H1 μ1 _ m hr1 hv bk1 => ?_
    cases hv with
    | bl b => exact ⟨b, rfl, bk1 b H1 μ1 Mon.refl hr1 rfl⟩
    | _ => exact bk1.elim
end

/-! ### defs by their names -/
/-- a def of the top, as it stands: its text, its parameters -/
def Df (K : PySem.W.Frag) (mg : Str → Option Value) (x : Str) (st : Stmt) (ps : List Str) : Prop := ∃ f fd, Fun K x x st f fd ∧ mg x = some (.ref f) ∧ Binds K fd ps []
/-- a def that does what F says, by at most k calls deep -/
def Cal (P : Program) (w : World) (K : PySem.W.Frag) (mg : Str → Option Value) (base : Heap) (x : Str) (k : Nat) (F : List D → MH → R D) : Prop :=
  ∃ f fd ps, FnOk P w K mg base (L2.CX P w) k f fd ps (spM (gOf K) F) ∧ mg x = some (.ref f) ∧ PySem.W.keepIn K (.ref f) = true ∧ Binds K fd ps []
section
variable {P : Program} {w : World} {K : PySem.W.Frag} {mg : Str → Option Value} {base : Heap}
theorem df_mk {h : Heap} {x : Str} {st : Stmt} {ps : List Str} {f : Addr} {oc : Value} {od an : Option Addr} {osl : Array (Option Value)} {kV doc pm cdv ct : Value} (X : K.In h) (G : h.Ns mainGlobals mg)
    (a : PySem.W.nsIn K mainGlobals x = some (some (.ref f))) (l : K.lookup f = some ⟨oc, od, .func (PySem.W.fnOf x x (defArgs st) (defBody st) (defScope st) .none kV doc pm an cdv ct), osl⟩)
    (c : PySem.W.codeIn K cdv x = true) (k : PySem.W.keepIn K (.ref f) = true)
    (hb : ∀ (kV doc pm : Value) (an : Option Addr) (cdv ct : Value) (us : List Value), us.length = ps.length → bindArgs (PySem.W.fnOf x x (defArgs st) (defBody st) (defScope st) .none kV doc pm an cdv ct) ⟨us, []⟩ = pure (ps.zip us)) : Df K mg x st ps := by
  have F := fun_mk (st := st) l c k
  exact ⟨f, _, F, PySem.W.mg_of X G a, F.binds hb⟩
theorem Cal.mono {x : Str} {j k : Nat} {F : List D → MH → R D} (c : Cal P w K mg base x j F) (h : j ≤ k) : Cal P w K mg base x k F := by
  obtain ⟨f, fd, ps, F1, m, kp, b⟩ := c
  exact ⟨f, fd, ps, F1.mono h, m, kp, b⟩
theorem cal_mk {x : Str} {st : Stmt} {N ps : List Str} {k : Nat} {body : MS} (d : Df K mg x st ps) (S : FnScope N ps (defScope st))
    (hb : ∀ (f : Addr) (cdv : Value) (A : Around) (outer : List Env) (s : Shared) (H : Hp) (E : XK), Room k (A.deeper (PyProof.Rows.envOfC x (defScope st) s.heap.objs.size f cdv)) →
      PSs (cxOf (L2.CX P w) P w K mg base N x (defScope st) f cdv A outer s H E) (defBody st) (tS (gOf K) (fun c d _ H' => E c d H') body)) : Cal P w K mg base x (k + 1) (mFun ps.length N.length body) := by
  obtain ⟨f, fd, F, m, b⟩ := d
  exact ⟨f, fd, ps, fn_mk F S (hb f), m, F.kp, b⟩
theorem cal_none {x : Str} {st : Stmt} {ps : List Str} {k : Nat} {F : List D → MH → R D} (d : Df K mg x st ps) (hF : ∀ ds h, F ds h = .bad) : Cal P w K mg base x k F := by
  obtain ⟨f, fd, F, m, b⟩ := d
  exact ⟨f, fd, ps, fn_none hF, m, F.kp, b⟩
end
section
variable {X : Cx} {W : WX} {e : Expr} {es : List Expr} {mr : MA} {p pos : Pos}
theorem se_callC {x : Str} {k : Nat} {F : List D → MH → R D} (c : Cal X.prog X.w X.K X.mg X.base x k F) (hr : Room k X.A) (tk : Takes X W) (ha : PA X (e :: es) (tA (gOf X.K) W mr)) (hg : Gl X x := by rfl) (hdb : (x == ("__debug__" : Str)) = false := by decide)
    (he : starEach (e :: es) X.env = (false, eval e X.env) :: starEach es X.env := by rfl) (hpl : (backTo pos (starEach es X.env)).any (·.1) = false := by rfl) : PE X (.Call (.Name x p) (e :: es) [] pos) (tE (gOf X.K) W (mCall F mr)) := by
  obtain ⟨f, fd, ps, F1, m, kp, b⟩ := c
  exact se_call F1 hr tk m kp b ha hg hdb he hpl
end
end Mi

/-! How the mirror's parts are reckoned, step by step: each rule speaks of a part that stands applied to its slots and heap, and leaves what follows unapplied. -/
namespace Mi
open PySem L2

/-- not by rfl, so that simp writes each step out (the kernel then needs no unfolding of the rest) -/
theorem nr {α : Sort _} {a b : α} (h : a = b) : a = b := h
@[simp] theorem mVar_zero (d : D) (r : Slots) (h : MH) : mVar 0 (some d :: r) h = .ok d h := nr rfl
@[simp] theorem mVar_succ (n : Nat) (o : Option D) (r : Slots) (h : MH) : mVar (n + 1) (o :: r) h = mVar n r h := nr rfl
@[simp] theorem mC_ev (d : D) (ρ : Slots) (h : MH) : mC d ρ h = .ok d h := nr rfl
def bin2 (f : D → D → MH → R D) (b : ME) (ρ : Slots) (r : R D) : R D := r.bind fun x h1 => (b ρ h1).bind fun y h2 => f x y h2
def bin1 (f : D → D → MH → R D) (x : D) (r : R D) : R D := r.bind fun y h2 => f x y h2
@[simp] theorem mBin_ev (f : D → D → MH → R D) (a b : ME) (ρ : Slots) (h : MH) : mBin f a b ρ h = bin2 f b ρ (a ρ h) := nr rfl
@[simp] theorem bin2_ok (f : D → D → MH → R D) (b : ME) (ρ : Slots) (x : D) (h : MH) : bin2 f b ρ (.ok x h) = bin1 f x (b ρ h) := nr rfl
@[simp] theorem bin1_ok (f : D → D → MH → R D) (x y : D) (h : MH) : bin1 f x (.ok y h) = f x y h := nr rfl
def un1 (f : D → MH → R D) : R D → R D
  | .ok y h2 => f y h2
  | .exc x fs h => .exc x fs h
  | .bad => .bad
@[simp] theorem mUn_ev (f : D → MH → R D) (a : ME) (ρ : Slots) (h : MH) : mUn f a ρ h = un1 f (a ρ h) := by
  unfold mUn un1
  cases a ρ h <;> rfl
@[simp] theorem un1_ok (f : D → MH → R D) (x : D) (h : MH) : un1 f (.ok x h) = f x h := nr rfl
@[simp] theorem mNil_ev (ρ : Slots) (h : MH) : mNil ρ h = .ok [] h := nr rfl
def cons1 (t : MA) (ρ : Slots) (r : R D) : R (List D) := r.bind fun x h1 => (t ρ h1).bind fun xs h2 => .ok (x :: xs) h2
def cons2 (x : D) (r : R (List D)) : R (List D) := r.bind fun xs h2 => .ok (x :: xs) h2
@[simp] theorem mCons_ev (a : ME) (r : MA) (ρ : Slots) (h : MH) : mCons a r ρ h = cons1 r ρ (a ρ h) := nr rfl
@[simp] theorem cons1_ok (r : MA) (ρ : Slots) (x : D) (h : MH) : cons1 r ρ (.ok x h) = cons2 x (r ρ h) := nr rfl
@[simp] theorem cons2_ok (x : D) (xs : List D) (h : MH) : cons2 x (.ok xs h) = .ok (x :: xs) h := nr rfl
def call1 (F : List D → MH → R D) : R (List D) → R D
  | .ok xs h1 => F xs h1
  | .exc x fs h => .exc x fs h
  | .bad => .bad
@[simp] theorem mCall_ev (F : List D → MH → R D) (a : MA) (ρ : Slots) (h : MH) : mCall F a ρ h = call1 F (a ρ h) := by
  unfold mCall call1
  cases a ρ h <;> rfl
@[simp] theorem call1_ok (F : List D → MH → R D) (xs : List D) (h : MH) : call1 F (.ok xs h) = F xs h := nr rfl
def tup1 : R (List D) → R D
  | .ok xs h1 => if xs.length ≤ 1000000 then .ok (.tup xs) h1 else .bad
  | .exc x fs h => .exc x fs h
  | .bad => .bad
@[simp] theorem mTup_ev (a : MA) (ρ : Slots) (h : MH) : mTup a ρ h = tup1 (a ρ h) := by
  unfold mTup tup1
  cases a ρ h <;> rfl
@[simp] theorem tup1_ok (xs : List D) (h : MH) : tup1 (.ok xs h) = if xs.length ≤ 1000000 then .ok (.tup xs) h else .bad := nr rfl
def lst1 : R (List D) → R D
  | .ok xs h1 => if xs.length ≤ 1000000 then .ok (.ref h1.length) (h1 ++ [.lst xs]) else .bad
  | .exc x fs h => .exc x fs h
  | .bad => .bad
@[simp] theorem mLst_ev (a : MA) (ρ : Slots) (h : MH) : mLst a ρ h = lst1 (a ρ h) := by
  unfold mLst lst1
  cases a ρ h <;> rfl
@[simp] theorem lst1_ok (xs : List D) (h : MH) : lst1 (.ok xs h) = if xs.length ≤ 1000000 then .ok (.ref h.length) (h ++ [.lst xs]) else .bad := nr rfl
/-! tests -/
def b1 : R D → R Bool
  | .ok (.bl b) h => .ok b h
  | .ok _ _ => .bad
  | .exc x fs h => .exc x fs h
  | .bad => .bad
@[simp] theorem mB_ev (a : ME) (ρ : Slots) (h : MH) : mB a ρ h = b1 (a ρ h) := by
  unfold mB b1
  cases a ρ h with
  | ok x h1 => cases x <;> rfl
  | _ => rfl
@[simp] theorem b1_ok (b : Bool) (h : MH) : b1 (.ok (.bl b) h) = .ok b h := nr rfl
def and1 (b : MT) (ρ : Slots) : R Bool → R Bool
  | .ok true h => b ρ h
  | .ok false h => .ok false h
  | .exc x fs h => .exc x fs h
  | .bad => .bad
def or1 (b : MT) (ρ : Slots) : R Bool → R Bool
  | .ok true h => .ok true h
  | .ok false h => b ρ h
  | .exc x fs h => .exc x fs h
  | .bad => .bad
def not1 : R Bool → R Bool
  | .ok b h => .ok (!b) h
  | .exc x fs h => .exc x fs h
  | .bad => .bad
@[simp] theorem mAnd_ev (a b : MT) (ρ : Slots) (h : MH) : mAnd a b ρ h = and1 b ρ (a ρ h) := by
  unfold mAnd and1
  cases a ρ h with
  | ok x h1 => cases x <;> rfl
  | _ => rfl
@[simp] theorem mOr_ev (a b : MT) (ρ : Slots) (h : MH) : mOr a b ρ h = or1 b ρ (a ρ h) := by
  unfold mOr or1
  cases a ρ h with
  | ok x h1 => cases x <;> rfl
  | _ => rfl
@[simp] theorem mNot_ev (a : MT) (ρ : Slots) (h : MH) : mNot a ρ h = not1 (a ρ h) := by
  unfold mNot not1
  cases a ρ h <;> rfl
@[simp] theorem and1_t (b : MT) (ρ : Slots) (h : MH) : and1 b ρ (.ok true h) = b ρ h := nr rfl
@[simp] theorem and1_f (b : MT) (ρ : Slots) (h : MH) : and1 b ρ (.ok false h) = .ok false h := nr rfl
@[simp] theorem or1_t (b : MT) (ρ : Slots) (h : MH) : or1 b ρ (.ok true h) = .ok true h := nr rfl
@[simp] theorem or1_f (b : MT) (ρ : Slots) (h : MH) : or1 b ρ (.ok false h) = b ρ h := nr rfl
@[simp] theorem not1_ok (b : Bool) (h : MH) : not1 (.ok b h) = .ok (!b) h := nr rfl
def andV1 (b : ME) (ρ : Slots) : R D → R D
  | .ok (.bl true) h => b ρ h
  | .ok (.bl false) h => .ok (.bl false) h
  | .ok _ _ => .bad
  | .exc x fs h => .exc x fs h
  | .bad => .bad
def orV1 (b : ME) (ρ : Slots) : R D → R D
  | .ok (.bl true) h => .ok (.bl true) h
  | .ok (.bl false) h => b ρ h
  | .ok _ _ => .bad
  | .exc x fs h => .exc x fs h
  | .bad => .bad
def notV1 : R D → R D
  | .ok (.bl b) h => .ok (.bl (!b)) h
  | .ok _ _ => .bad
  | .exc x fs h => .exc x fs h
  | .bad => .bad
@[simp] theorem mAndV_ev (a b : ME) (ρ : Slots) (h : MH) : mAndV a b ρ h = andV1 b ρ (a ρ h) := by
  unfold mAndV andV1
  cases a ρ h with
  | ok x h1 => cases x with
    | bl b => cases b <;> rfl
    | _ => rfl
  | _ => rfl
@[simp] theorem mOrV_ev (a b : ME) (ρ : Slots) (h : MH) : mOrV a b ρ h = orV1 b ρ (a ρ h) := by
  unfold mOrV orV1
  cases a ρ h with
  | ok x h1 => cases x with
    | bl b => cases b <;> rfl
    | _ => rfl
  | _ => rfl
@[simp] theorem mNotV_ev (a : ME) (ρ : Slots) (h : MH) : mNotV a ρ h = notV1 (a ρ h) := by
  unfold mNotV notV1
  cases a ρ h with
  | ok x h1 => cases x <;> rfl
  | _ => rfl
@[simp] theorem andV1_t (b : ME) (ρ : Slots) (h : MH) : andV1 b ρ (.ok (.bl true) h) = b ρ h := nr rfl
@[simp] theorem andV1_f (b : ME) (ρ : Slots) (h : MH) : andV1 b ρ (.ok (.bl false) h) = .ok (.bl false) h := nr rfl
@[simp] theorem orV1_t (b : ME) (ρ : Slots) (h : MH) : orV1 b ρ (.ok (.bl true) h) = .ok (.bl true) h := nr rfl
@[simp] theorem orV1_f (b : ME) (ρ : Slots) (h : MH) : orV1 b ρ (.ok (.bl false) h) = b ρ h := nr rfl
@[simp] theorem notV1_ok (b : Bool) (h : MH) : notV1 (.ok (.bl b) h) = .ok (.bl (!b)) h := nr rfl
def ifE1 (a b : ME) (ρ : Slots) : R Bool → R D
  | .ok true h => a ρ h
  | .ok false h => b ρ h
  | .exc x fs h => .exc x fs h
  | .bad => .bad
@[simp] theorem mIfE_ev (c : MT) (a b : ME) (ρ : Slots) (h : MH) : mIfE c a b ρ h = ifE1 a b ρ (c ρ h) := by
  unfold mIfE ifE1
  cases c ρ h with
  | ok x h1 => cases x <;> rfl
  | _ => rfl
@[simp] theorem ifE1_t (a b : ME) (ρ : Slots) (h : MH) : ifE1 a b ρ (.ok true h) = a ρ h := nr rfl
@[simp] theorem ifE1_f (a b : ME) (ρ : Slots) (h : MH) : ifE1 a b ρ (.ok false h) = b ρ h := nr rfl
/-! isinstance, slices, methods -/
def isi1 (T : String) : R D → R D
  | .ok x h => match (tyName h x).bind fun n => kitB n T with
    | some b => .ok (.bl b) h
    | none => .bad
  | .exc x fs h => .exc x fs h
  | .bad => .bad
@[simp] theorem mIsi_ev (T : String) (a : ME) (ρ : Slots) (h : MH) : mIsi T a ρ h = isi1 T (a ρ h) := by
  unfold mIsi isi1
  cases a ρ h <;> rfl
theorem isi1_ok (T : String) (x : D) (h : MH) {n : String} {b : Bool} (hn : tyName h x = some n) (hb : kitB n T = some b) : isi1 T (.ok x h) = .ok (.bl b) h := by
  unfold isi1
  simp only [hn, Option.bind_some, hb]
@[simp] theorem isi_str_str (x : Str) (h : MH) : isi1 "str" (.ok (.str x) h) = .ok (.bl true) h := isi1_ok _ _ _ rfl (by decide +kernel)
@[simp] theorem isi_str_int (x : Int) (h : MH) : isi1 "str" (.ok (.int x) h) = .ok (.bl false) h := isi1_ok _ _ _ rfl (by decide +kernel)
@[simp] theorem isi_str_non (h : MH) : isi1 "str" (.ok .non h) = .ok (.bl false) h := isi1_ok _ _ _ rfl (by decide +kernel)
@[simp] theorem isi_str_bl (b : Bool) (h : MH) : isi1 "str" (.ok (.bl b) h) = .ok (.bl false) h := isi1_ok _ _ _ rfl (by decide +kernel)
@[simp] theorem isi_str_tup (l : List D) (h : MH) : isi1 "str" (.ok (.tup l) h) = .ok (.bl false) h := isi1_ok _ _ _ rfl (by decide +kernel)
@[simp] theorem isi_bool_bl (b : Bool) (h : MH) : isi1 "bool" (.ok (.bl b) h) = .ok (.bl true) h := isi1_ok _ _ _ rfl (by decide +kernel)
@[simp] theorem isi_bool_int (b : Int) (h : MH) : isi1 "bool" (.ok (.int b) h) = .ok (.bl false) h := isi1_ok _ _ _ rfl (by decide +kernel)
@[simp] theorem isi_int_int (b : Int) (h : MH) : isi1 "int" (.ok (.int b) h) = .ok (.bl true) h := isi1_ok _ _ _ rfl (by decide +kernel)
@[simp] theorem isi_tup_tup (l : List D) (h : MH) : isi1 "tuple" (.ok (.tup l) h) = .ok (.bl true) h := isi1_ok _ _ _ rfl (by decide +kernel)
@[simp] theorem isi_tup_str (x : Str) (h : MH) : isi1 "tuple" (.ok (.str x) h) = .ok (.bl false) h := isi1_ok _ _ _ rfl (by decide +kernel)
@[simp] theorem isi_tup_int (x : Int) (h : MH) : isi1 "tuple" (.ok (.int x) h) = .ok (.bl false) h := isi1_ok _ _ _ rfl (by decide +kernel)
@[simp] theorem isi_tup_non (h : MH) : isi1 "tuple" (.ok .non h) = .ok (.bl false) h := isi1_ok _ _ _ rfl (by decide +kernel)
theorem isi_ref (T : String) (i : Nat) (h : MH) (l : List D) (hl : getL h i = some l) {b : Bool} (hb : kitB "list" T = some b) : isi1 T (.ok (.ref i) h) = .ok (.bl b) h := by
  refine isi1_ok _ _ _ (n := "list") ?_ hb
  unfold getL at hl
  unfold tyName
  split at hl <;> simp_all
theorem isi_dict (T : String) (i : Nat) (h : MH) (l : List (Key × D)) (hl : h[i]? = some (.dK l)) {b : Bool} (hb : kitB "dict" T = some b) : isi1 T (.ok (.ref i) h) = .ok (.bl b) h := by
  refine isi1_ok _ _ _ (n := "dict") ?_ hb
  unfold tyName
  simp [hl]
@[simp] theorem mNo_ev (ρ : Slots) (h : MH) : mNo ρ h = .ok none h := nr rfl
def some1 : R D → R (Option Int)
  | .ok (.int i) h => .ok (some i) h
  | .ok _ _ => .bad
  | .exc x fs h => .exc x fs h
  | .bad => .bad
@[simp] theorem mSome_ev (a : ME) (ρ : Slots) (h : MH) : mSome a ρ h = some1 (a ρ h) := by
  unfold mSome some1
  cases a ρ h with
  | ok x h1 => cases x <;> rfl
  | _ => rfl
@[simp] theorem some1_ok (i : Int) (h : MH) : some1 (.ok (.int i) h) = .ok (some i) h := nr rfl
def sl1 (lo hi : MP) (ρ : Slots) (r : R D) : R D := r.bind fun x h1 => (lo ρ h1).bind fun l h2 => (hi ρ h2).bind fun u h3 => dSl x l u h3
def sl2 (x : D) (hi : MP) (ρ : Slots) (r : R (Option Int)) : R D := r.bind fun l h2 => (hi ρ h2).bind fun u h3 => dSl x l u h3
def sl3 (x : D) (l : Option Int) (r : R (Option Int)) : R D := r.bind fun u h3 => dSl x l u h3
@[simp] theorem mSl_ev (a : ME) (lo hi : MP) (ρ : Slots) (h : MH) : mSl a lo hi ρ h = sl1 lo hi ρ (a ρ h) := nr rfl
@[simp] theorem sl1_ok (lo hi : MP) (ρ : Slots) (x : D) (h : MH) : sl1 lo hi ρ (.ok x h) = sl2 x hi ρ (lo ρ h) := nr rfl
@[simp] theorem sl2_ok (x : D) (hi : MP) (ρ : Slots) (l : Option Int) (h : MH) : sl2 x hi ρ (.ok l h) = sl3 x l (hi ρ h) := nr rfl
@[simp] theorem sl3_ok (x : D) (l u : Option Int) (h : MH) : sl3 x l (.ok u h) = dSl x l u h := nr rfl
def meth1 (T : D → MH → Bool) (f : D → List D → MH → R D) (t : MA) (ρ : Slots) (r : R D) : R D := r.bind fun x h1 => if T x h1 = true then (t ρ h1).bind fun xs h2 => f x xs h2 else .bad
def meth2 (f : D → List D → MH → R D) (x : D) (r : R (List D)) : R D := r.bind fun xs h2 => f x xs h2
@[simp] theorem mMeth_ev (T : D → MH → Bool) (f : D → List D → MH → R D) (a : ME) (r : MA) (ρ : Slots) (h : MH) : mMeth T f a r ρ h = meth1 T f r ρ (a ρ h) := nr rfl
@[simp] theorem meth1_ok (T : D → MH → Bool) (f : D → List D → MH → R D) (r : MA) (ρ : Slots) (x : D) (h : MH) : meth1 T f r ρ (.ok x h) = if T x h = true then meth2 f x (r ρ h) else .bad := nr rfl
@[simp] theorem meth2_ok (f : D → List D → MH → R D) (x : D) (xs : List D) (h : MH) : meth2 f x (.ok xs h) = f x xs h := nr rfl
@[simp] theorem isListD_ref (i : Nat) (h : MH) : isListD (.ref i) h = (getL h i).isSome := nr rfl
@[simp] theorem isStrD_str (x : Str) (h : MH) : isStrD (.str x) h = true := nr rfl
/-! statements -/
def Out.then (b : MS) : Out → Out
  | .nx ρ h => b ρ h
  | o => o
@[simp] theorem mSeq_ev (a b : MS) (ρ : Slots) (h : MH) : mSeq a b ρ h = (a ρ h).then b := by
  unfold mSeq Out.then
  cases a ρ h <;> rfl
@[simp] theorem then_nx (b : MS) (ρ : Slots) (h : MH) : Out.then b (.nx ρ h) = b ρ h := nr rfl
@[simp] theorem then_rt (b : MS) (d : D) (h : MH) : Out.then b (.rt d h) = .rt d h := nr rfl
@[simp] theorem then_bk (b : MS) (ρ : Slots) (h : MH) : Out.then b (.bk ρ h) = .bk ρ h := nr rfl
@[simp] theorem then_ct (b : MS) (ρ : Slots) (h : MH) : Out.then b (.ct ρ h) = .ct ρ h := nr rfl
@[simp] theorem then_exc (b : MS) (x : Str) (fs : List (Str × D)) (ρ : Slots) (h : MH) : Out.then b (.exc x fs ρ h) = .exc x fs ρ h := nr rfl
@[simp] theorem mSkip_ev (ρ : Slots) (h : MH) : mSkip ρ h = .nx ρ h := nr rfl
@[simp] theorem mBreak_ev (ρ : Slots) (h : MH) : mBreak ρ h = .bk ρ h := nr rfl
@[simp] theorem mCont_ev (ρ : Slots) (h : MH) : mCont ρ h = .ct ρ h := nr rfl
@[simp] theorem mRetN_ev (ρ : Slots) (h : MH) : mRetN ρ h = .rt .non h := nr rfl
def asg1 (i : Nat) (ρ : Slots) : R D → Out
  | .ok d h => .nx (ρ.set i (some d)) h
  | .exc x fs h => .exc x fs ρ h
  | .bad => .bad
def ret1 (ρ : Slots) : R D → Out
  | .ok d h => .rt d h
  | .exc x fs h => .exc x fs ρ h
  | .bad => .bad
def drop1 (ρ : Slots) : R D → Out
  | .ok d h => .nx ρ h
  | .exc x fs h => .exc x fs ρ h
  | .bad => .bad
def if1 (a b : MS) (ρ : Slots) : R Bool → Out
  | .ok true h => a ρ h
  | .ok false h => b ρ h
  | .exc x fs h => .exc x fs ρ h
  | .bad => .bad
@[simp] theorem mAsg_ev (i : Nat) (e : ME) (ρ : Slots) (h : MH) : mAsg i e ρ h = asg1 i ρ (e ρ h) := by
  unfold mAsg asg1
  cases e ρ h <;> rfl
@[simp] theorem asg1_ok (i : Nat) (ρ : Slots) (d : D) (h : MH) : asg1 i ρ (.ok d h) = .nx (ρ.set i (some d)) h := nr rfl
@[simp] theorem mRet_ev (e : ME) (ρ : Slots) (h : MH) : mRet e ρ h = ret1 ρ (e ρ h) := by
  unfold mRet ret1
  cases e ρ h <;> rfl
@[simp] theorem ret1_ok (ρ : Slots) (d : D) (h : MH) : ret1 ρ (.ok d h) = .rt d h := nr rfl
@[simp] theorem mDrop_ev (e : ME) (ρ : Slots) (h : MH) : mDrop e ρ h = drop1 ρ (e ρ h) := by
  unfold mDrop drop1
  cases e ρ h <;> rfl
@[simp] theorem drop1_ok (ρ : Slots) (d : D) (h : MH) : drop1 ρ (.ok d h) = .nx ρ h := nr rfl
@[simp] theorem mIf_ev (c : MT) (a b : MS) (ρ : Slots) (h : MH) : mIf c a b ρ h = if1 a b ρ (c ρ h) := by
  unfold mIf if1
  cases c ρ h with
  | ok x h1 => cases x <;> rfl
  | _ => rfl
@[simp] theorem if1_t (a b : MS) (ρ : Slots) (h : MH) : if1 a b ρ (.ok true h) = a ρ h := nr rfl
@[simp] theorem if1_f (a b : MS) (ρ : Slots) (h : MH) : if1 a b ρ (.ok false h) = b ρ h := nr rfl
theorem if1_ok (a b : MS) (ρ : Slots) (c : Bool) (h : MH) : if1 a b ρ (.ok c h) = if c = true then a ρ h else b ρ h := by cases c <;> rfl
def for1 (tg : MG) (body : MS) (ρ : Slots) : R (List D × (MH → Bool)) → Out
  | .ok a h => forGo a.2 tg body a.1 ρ h
  | .exc x fs h => .exc x fs ρ h
  | .bad => .bad
@[simp] theorem mFor_ev (it : MI) (tg : MG) (body : MS) (ρ : Slots) (h : MH) : mFor it tg body ρ h = for1 tg body ρ (it ρ h) := by
  unfold mFor for1
  cases it ρ h <;> rfl
@[simp] theorem for1_ok (tg : MG) (body : MS) (ρ : Slots) (l : List D) (gd : MH → Bool) (h : MH) : for1 tg body ρ (.ok (l, gd) h) = forGo gd tg body l ρ h := nr rfl
def rg1 (f : Int → Nat → List D) : R D → R (List D × (MH → Bool))
  | .ok x h => dR1 f x h
  | .exc x fs h => .exc x fs h
  | .bad => .bad
@[simp] theorem mRange1_ev (a : ME) (ρ : Slots) (h : MH) : mRange1 a ρ h = rg1 rangeD (a ρ h) := by
  unfold mRange1 rg1
  cases a ρ h <;> rfl
@[simp] theorem mRev1_ev (a : ME) (ρ : Slots) (h : MH) : mRev1 a ρ h = rg1 revRangeD (a ρ h) := by
  unfold mRev1 rg1
  cases a ρ h <;> rfl
@[simp] theorem rg1_ok (f : Int → Nat → List D) (j : Int) (h : MH) : rg1 f (.ok (.int j) h) = if lim62 j = true then .ok (f 0 j.toNat, yes) h else .bad := nr rfl
def rg2 (f : Int → Nat → List D) (b : ME) (ρ : Slots) (r : R D) : R (List D × (MH → Bool)) := r.bind fun x h => (b ρ h).bind fun y h2 => dR2 f x y h2
def rg3 (f : Int → Nat → List D) (x : D) (r : R D) : R (List D × (MH → Bool)) := r.bind fun y h => dR2 f x y h
@[simp] theorem mRange2_ev (a b : ME) (ρ : Slots) (h : MH) : mRange2 a b ρ h = rg2 rangeD b ρ (a ρ h) := nr rfl
@[simp] theorem mRev2_ev (a b : ME) (ρ : Slots) (h : MH) : mRev2 a b ρ h = rg2 revRangeD b ρ (a ρ h) := nr rfl
@[simp] theorem rg2_ok (f : Int → Nat → List D) (b : ME) (ρ : Slots) (x : D) (h : MH) : rg2 f b ρ (.ok x h) = rg3 f x (b ρ h) := nr rfl
@[simp] theorem rg3_ok (f : Int → Nat → List D) (i j : Int) (h : MH) : rg3 f (.int i) (.ok (.int j) h) = if lim62 i = true ∧ lim62 j = true then .ok (f i (j - i).toNat, yes) h else .bad := nr rfl
def iter1 : R D → R (List D × (MH → Bool))
  | .ok x h => match itemsOf x h with
    | some r => .ok r h
    | none => .bad
  | .exc x fs h => .exc x fs h
  | .bad => .bad
@[simp] theorem mIter_ev (a : ME) (ρ : Slots) (h : MH) : mIter a ρ h = iter1 (a ρ h) := by
  unfold mIter iter1
  cases a ρ h <;> rfl
@[simp] theorem iter1_tup (l : List D) (h : MH) : iter1 (.ok (.tup l) h) = .ok (l, yes) h := nr rfl
@[simp] theorem iter1_str (z : Str) (h : MH) : iter1 (.ok (.str z) h) = .ok (z.cps.toList.map fun c => .str ⟨#[c]⟩, yes) h := nr rfl
theorem iter1_ref (i : Nat) (h : MH) (l : List D) (hl : getL h i = some l) : iter1 (.ok (.ref i) h) = .ok (l, fun h' => decide (getL h' i = some l)) h := by
  simp [iter1, itemsOf, hl]
@[simp] theorem yes_ev (h : MH) : yes h = true := nr rfl
@[simp] theorem mgName_ev (i : Nat) (d : D) (ρ : Slots) : mgName i d ρ = some (ρ.set i (some d)) := nr rfl
/-- a def's end -/
def fin1 : Out → R D
  | .nx _ h => .ok .non h
  | .rt d h => .ok d h
  | .exc x fs _ h => .exc x fs h
  | _ => .bad
theorem mFun_ev (n N : Nat) (body : MS) (ds : List D) (h : MH) (hl : ds.length = n) : mFun n N body ds h = fin1 (body (startD n N ds) h) := by
  unfold mFun fin1
  rw [if_pos hl]
  try (cases body (startD n N ds) h <;> rfl)
@[simp] theorem fin1_nx (ρ : Slots) (h : MH) : fin1 (.nx ρ h) = .ok .non h := nr rfl
@[simp] theorem fin1_rt (d : D) (h : MH) : fin1 (.rt d h) = .ok d h := nr rfl
@[simp] theorem fin1_exc (x : Str) (fs : List (Str × D)) (ρ : Slots) (h : MH) : fin1 (.exc x fs ρ h) = .exc x fs h := nr rfl
theorem mFun1 (N : Nat) (body : MS) (a : D) (h : MH) : mFun 1 N body [a] h = fin1 (body (some a :: List.replicate (N - 1) none) h) := mFun_ev 1 N body [a] h rfl
theorem mFun2 (N : Nat) (body : MS) (a b : D) (h : MH) : mFun 2 N body [a, b] h = fin1 (body (some a :: some b :: List.replicate (N - 2) none) h) := mFun_ev 2 N body [a, b] h rfl
theorem mFun3 (N : Nat) (body : MS) (a b c : D) (h : MH) : mFun 3 N body [a, b, c] h = fin1 (body (some a :: some b :: some c :: List.replicate (N - 3) none) h) := mFun_ev 3 N body [a, b, c] h rfl
theorem mFun4 (N : Nat) (body : MS) (a b c d : D) (h : MH) : mFun 4 N body [a, b, c, d] h = fin1 (body (some a :: some b :: some c :: some d :: List.replicate (N - 4) none) h) := mFun_ev 4 N body [a, b, c, d] h rfl
theorem mFun5 (N : Nat) (body : MS) (a b c d e : D) (h : MH) : mFun 5 N body [a, b, c, d, e] h = fin1 (body (some a :: some b :: some c :: some d :: some e :: List.replicate (N - 5) none) h) := mFun_ev 5 N body [a, b, c, d, e] h rfl
@[simp] theorem rep0 : List.replicate 0 (none : Option D) = [] := nr rfl
theorem rep_succ (n : Nat) : List.replicate (n + 1) (none : Option D) = none :: List.replicate n none := rfl
/-! ### loops -/
/-- a loop that runs through or hands something back -/
theorem forGo_inv {gd : MH → Bool} {tg : MG} {body : MS} (I : Nat → Slots → MH → Prop) (P : D → MH → Prop) : ∀ (items : List D) (k : Nat) (ρ : Slots) (h : MH), I k ρ h →
    (∀ i ρ h, I i ρ h → gd h = true) →
    (∀ i d ρ h, items[i]? = some d → I (k + i) ρ h → ∃ ρ1, tg d ρ = some ρ1 ∧ ((∃ ρ' h', body ρ1 h = .nx ρ' h' ∧ I (k + i + 1) ρ' h') ∨ (∃ r h', body ρ1 h = .rt r h' ∧ P r h'))) →
    (∃ ρ' h', forGo gd tg body items ρ h = .nx ρ' h' ∧ I (k + items.length) ρ' h') ∨ (∃ r h', forGo gd tg body items ρ h = .rt r h' ∧ P r h')
  | [], k, ρ, h, h0, hg, hs => .inl ⟨ρ, h, by simp [forGo, hg k ρ h h0], h0⟩
  | d :: ds, k, ρ, h, h0, hg, hs => by
    obtain ⟨ρ1, e1, q⟩ := hs 0 d ρ h rfl h0
    rcases q with ⟨ρ', h', e2, i2⟩ | ⟨r, h', e2, p⟩
    · have e : forGo gd tg body (d :: ds) ρ h = forGo gd tg body ds ρ' h' := by
        rw [forGo, if_pos (hg k ρ h h0)]
        simp only [e1, e2]
      rw [e]
      rcases forGo_inv I P ds (k + 1) ρ' h' i2 hg (fun i d' ρ h hd hi => by
        have e3 : k + (i + 1) = k + 1 + i := by omega
        have := hs (i + 1) d' ρ h (by simpa using hd) (by rw [e3]; exact hi)
        rw [e3] at this
        exact this) with ⟨ρ2, h2, e4, i4⟩ | q
      · refine .inl ⟨ρ2, h2, e4, ?_⟩
        have : k + (d :: ds).length = k + 1 + ds.length := by rw [List.length_cons]; omega
        rw [this]
        exact i4
      · exact .inr q
    · refine .inr ⟨r, h', ?_, p⟩
      rw [forGo, if_pos (hg k ρ h h0)]
      simp only [e1, e2]
/-- a loop that runs through -/
theorem forGo_all {gd : MH → Bool} {tg : MG} {body : MS} (I : Nat → Slots → MH → Prop) {items : List D} {ρ : Slots} {h : MH} (h0 : I 0 ρ h) (hg : ∀ i ρ h, I i ρ h → gd h = true)
    (hs : ∀ i d ρ h, items[i]? = some d → I i ρ h → ∃ ρ1, tg d ρ = some ρ1 ∧ ∃ ρ' h', body ρ1 h = .nx ρ' h' ∧ I (i + 1) ρ' h') : ∃ ρ' h', forGo gd tg body items ρ h = .nx ρ' h' ∧ I items.length ρ' h' := by
  rcases forGo_inv (gd := gd) (tg := tg) (body := body) I (fun _ _ => False) items 0 ρ h h0 hg (fun i d ρ h hd hi => by
    rw [Nat.zero_add] at hi
    obtain ⟨ρ1, e1, q⟩ := hs i d ρ h hd hi
    exact ⟨ρ1, e1, .inl (by rw [Nat.zero_add]; exact q)⟩) with ⟨ρ', h', e, i⟩ | ⟨r, h', e, p⟩
  · rw [Nat.zero_add] at i
    exact ⟨ρ', h', e, i⟩
  · exact p.elim
theorem rangeD_get {i : Int} {n k : Nat} {d : D} (h : (rangeD i n)[k]? = some d) : k < n ∧ d = .int (i + (k : Int)) := by
  simp only [rangeD, List.getElem?_map, Option.map_eq_some_iff] at h
  obtain ⟨a, h1, h2⟩ := h
  have := List.getElem?_eq_some_iff.mp h1
  obtain ⟨lt, e⟩ := this
  simp at lt e
  subst e
  exact ⟨lt, h2.symm⟩
theorem revRangeD_get {i : Int} {n k : Nat} {d : D} (h : (revRangeD i n)[k]? = some d) : k < n ∧ d = .int (i + (n : Int) - 1 - (k : Int)) := by
  simp only [revRangeD, List.getElem?_map, Option.map_eq_some_iff] at h
  obtain ⟨a, h1, h2⟩ := h
  have := List.getElem?_eq_some_iff.mp h1
  obtain ⟨lt, e⟩ := this
  simp at lt e
  subst e
  exact ⟨lt, h2.symm⟩
@[simp] theorem rangeD_length (i : Int) (n : Nat) : (rangeD i n).length = n := by simp [rangeD]
@[simp] theorem revRangeD_length (i : Int) (n : Nat) : (revRangeD i n).length = n := by simp [revRangeD]
/-! ### numbers of bits, places -/
theorem bits_lt {i : Int} {n : Nat} (h : i.natAbs < 2 ^ n) : Builtin.Int.intBits i ≤ n := by
  unfold Builtin.Int.intBits
  split
  · omega
  · rename_i hz
    have : i.natAbs.log2 < n := (Nat.log2_lt (by simpa using hz)).mpr h
    omega
theorem bits_mono {i j : Int} (h : i.natAbs ≤ j.natAbs) : Builtin.Int.intBits i ≤ Builtin.Int.intBits j := by
  unfold Builtin.Int.intBits
  split
  · omega
  · rename_i hz
    have hz' : i.natAbs ≠ 0 := by simpa using hz
    have hj : j.natAbs ≠ 0 := by omega
    rw [if_neg (by simpa using hj)]
    have : i.natAbs.log2 ≤ j.natAbs.log2 := by
      have h1 : 2 ^ i.natAbs.log2 ≤ i.natAbs := Nat.log2_self_le hz'
      have := (Nat.le_log2 hj).mpr (Nat.le_trans h1 h)
      exact this
    omega
theorem atI_in {α : Type} {l : List α} {i : Int} (h0 : 0 ≤ i) (h1 : i < (l.length : Int)) : ∃ c, atI l i = some c ∧ l[i.toNat]? = some c := by
  have lt : i.toNat < l.length := by omega
  refine ⟨l[i.toNat], ?_, List.getElem?_eq_getElem lt⟩
  unfold atI ixN
  rw [if_pos h0, if_pos h1]
  simp [lt]
theorem atI_at {α : Type} {l : List α} {k : Nat} {c : α} (h : l[k]? = some c) : atI l (k : Int) = some c := by
  have lt := (List.getElem?_eq_some_iff.mp h).1
  unfold atI ixN
  rw [if_pos (by omega), if_pos (by omega)]
  simpa using h
/-! ### operators at plain values -/
section
variable (i j : Int) (x y : Str) (a b : Bool) (l m : List D) (h : MH)
@[simp] theorem dAdd_int : dAdd (.int i) (.int j) h = .ok (.int (i + j)) h := nr rfl
@[simp] theorem dAdd_str : dAdd (.str x) (.str y) h = if x.length + y.length ≤ 1000000 then .ok (.str (x ++ y)) h else .bad := nr rfl
@[simp] theorem dAdd_tup : dAdd (.tup l) (.tup m) h = if l.length + m.length ≤ 1000000 then .ok (.tup (l ++ m)) h else .bad := nr rfl
@[simp] theorem dSub_int : dSub (.int i) (.int j) h = .ok (.int (i - j)) h := nr rfl
theorem dMul_int : dMul (.int i) (.int j) h = if (Builtin.Int.intBits i : Int) + (Builtin.Int.intBits j : Int) ≤ 134217728 then .ok (.int (i * j)) h else .bad := rfl
@[simp] theorem dMul_str : dMul (.str x) (.int j) h = if j ≤ 1000000 ∧ -1000000 ≤ j ∧ x.length * j.toNat ≤ 1000000 then .ok (.str (Txt.mul x j)) h else .bad := nr rfl
theorem dFdiv_int : dFdiv (.int i) (.int j) h = if 0 < j ∧ j.natAbs.log2 < 9000 then .ok (.int (i / j)) h else .bad := rfl
@[simp] theorem dMod_int : dMod (.int i) (.int j) h = if 0 < j then .ok (.int (i % j)) h else .bad := nr rfl
@[simp] theorem dFdiv_small (h0 : 0 < j) (h1 : j < 18446744073709551616) : dFdiv (.int i) (.int j) h = .ok (.int (i / j)) h := by
  rw [dFdiv_int, if_pos ⟨h0, Nat.lt_trans (PySem.Flt.log2_lt_of (k := 64) (by decide) (by omega)) (by decide)⟩]
theorem dMul_bits {a b : Nat} (ha : Builtin.Int.intBits i ≤ a) (hb : Builtin.Int.intBits j ≤ b) (hab : a + b ≤ 134217728) : dMul (.int i) (.int j) h = .ok (.int (i * j)) h := by
  rw [dMul_int, if_pos (by omega)]
theorem bits_small {i : Int} (h0 : -18446744073709551616 < i) (h1 : i < 18446744073709551616) : Builtin.Int.intBits i ≤ 64 := bits_lt (by omega)
/-- a factor that is small, one that has not too many bits -/
theorem dMul_r (hi : Builtin.Int.intBits i ≤ 100000000) (h0 : -18446744073709551616 < j) (h1 : j < 18446744073709551616) : dMul (.int i) (.int j) h = .ok (.int (i * j)) h := dMul_bits i j h hi (bits_small h0 h1) (by decide)
theorem dMul_l (hi : Builtin.Int.intBits j ≤ 100000000) (h0 : -18446744073709551616 < i) (h1 : i < 18446744073709551616) : dMul (.int i) (.int j) h = .ok (.int (i * j)) h := dMul_bits i j h (bits_small h0 h1) hi (by decide)
theorem dMul_s (h0 : -18446744073709551616 < i) (h1 : i < 18446744073709551616) (h2 : -18446744073709551616 < j) (h3 : j < 18446744073709551616) : dMul (.int i) (.int j) h = .ok (.int (i * j)) h := dMul_bits i j h (bits_small h0 h1) (bits_small h2 h3) (by decide)
@[simp] theorem dPow_int : dPow (.int i) (.int j) h = if 0 ≤ j ∧ j ≤ 1000000 ∧ i.natAbs < 2 ^ 64 then .ok (.int (i ^ j.toNat)) h else .bad := nr rfl
@[simp] theorem dShl_int : dShl (.int i) (.int j) h = if 0 ≤ j ∧ j ≤ 1000000 ∧ i.natAbs < 2 ^ 64 then .ok (.int (i * 2 ^ j.toNat)) h else .bad := nr rfl
@[simp] theorem dLt_int : dLt (.int i) (.int j) h = .ok (.bl (decide (i < j))) h := nr rfl
@[simp] theorem dLe_int : dLe (.int i) (.int j) h = .ok (.bl (decide (i ≤ j))) h := nr rfl
@[simp] theorem dGt_int : dGt (.int i) (.int j) h = .ok (.bl (decide (j < i))) h := nr rfl
@[simp] theorem dGe_int : dGe (.int i) (.int j) h = .ok (.bl (decide (j ≤ i))) h := nr rfl
@[simp] theorem dNeg_int : dNeg (.int i) h = .ok (.int (-i)) h := nr rfl
@[simp] theorem eqD_int : eqD (.int i) (.int j) h = some (decide (i = j)) := by
  simp [eqD, scalD]
@[simp] theorem eqD_str : eqD (.str x) (.str y) h = some (decide (x = y)) := by
  simp [eqD, scalD]
@[simp] theorem eqD_bl : eqD (.bl a) (.bl b) h = some (decide (a = b)) := by
  simp [eqD, scalD]
@[simp] theorem eqD_non : eqD .non .non h = some true := by
  simp [eqD, scalD]
@[simp] theorem eqD_int_non : eqD (.int i) .non h = some false := by
  simp [eqD, scalD]
@[simp] theorem eqD_non_int : eqD .non (.int i) h = some false := by
  simp [eqD, scalD]
theorem dEq_of {a b : D} {k : Bool} {h : MH} (e : eqD a b h = some k) : dEq a b h = .ok (.bl k) h := by unfold dEq; rw [e]
theorem dNe_of {a b : D} {k : Bool} {h : MH} (e : eqD a b h = some k) : dNe a b h = .ok (.bl (!k)) h := by unfold dNe; rw [e]
@[simp] theorem dEq_int : dEq (.int i) (.int j) h = .ok (.bl (decide (i = j))) h := dEq_of (eqD_int i j h)
@[simp] theorem dNe_int : dNe (.int i) (.int j) h = .ok (.bl (!decide (i = j))) h := dNe_of (eqD_int i j h)
@[simp] theorem dEq_str : dEq (.str x) (.str y) h = .ok (.bl (decide (x = y))) h := dEq_of (eqD_str x y h)
@[simp] theorem dNe_str : dNe (.str x) (.str y) h = .ok (.bl (!decide (x = y))) h := dNe_of (eqD_str x y h)
@[simp] theorem dEq_bl : dEq (.bl a) (.bl b) h = .ok (.bl (decide (a = b))) h := dEq_of (eqD_bl a b h)
@[simp] theorem dIsN_ev (d : D) : dIsN d .non h = .ok (.bl (decide (d = .non))) h := nr rfl
@[simp] theorem dNotN_ev (d : D) : dNotN d .non h = .ok (.bl (!decide (d = .non))) h := nr rfl
@[simp] theorem dLen_str : dLen [.str x] h = if x.length ≤ 1000000 then .ok (.int x.length) h else .bad := nr rfl
@[simp] theorem dLen_tup : dLen [.tup l] h = .ok (.int l.length) h := nr rfl
theorem dLen_ref {i : Nat} {h : MH} {l : List D} (e : getL h i = some l) : dLen [.ref i] h = .ok (.int l.length) h := by simp [dLen, e]
@[simp] theorem dAbs_ev : dAbs [.int i] h = .ok (.int (if i < 0 then -i else i)) h := nr rfl
@[simp] theorem dMax_ev : dMax [.int i, .int j] h = .ok (.int (if j > i then j else i)) h := nr rfl
@[simp] theorem dMin_ev : dMin [.int i, .int j] h = .ok (.int (if j < i then j else i)) h := nr rfl
@[simp] theorem dInt_int : dInt [.int i] h = .ok (.int i) h := nr rfl
@[simp] theorem dInt_bl : dInt [.bl a] h = .ok (.int (if a then 1 else 0)) h := nr rfl
@[simp] theorem dSl_str (lo hi : Option Int) : dSl (.str x) lo hi h = if x.length ≤ 1000000 then .ok (.str (cutS x lo hi)) h else .bad := nr rfl
@[simp] theorem dSl_tup (lo hi : Option Int) : dSl (.tup l) lo hi h = .ok (.tup (cutD l lo hi)) h := nr rfl
theorem dSl_ref {i : Nat} {h : MH} {l : List D} (e : getL h i = some l) (lo hi : Option Int) : dSl (.ref i) lo hi h = .ok (.ref h.length) (h ++ [.lst (cutD l lo hi)]) := by simp [dSl, e]
theorem dIx_str {c : Nat} {x : Str} {i : Int} (hz : x.length ≤ 1000000) (e : atI x.cps.toList i = some c) : dIx (.str x) (.int i) h = .ok (.str ⟨#[c]⟩) h := by
  simp [dIx, hz, e]
theorem dIx_tup {d : D} {l : List D} {i : Int} (e : atI l i = some d) : dIx (.tup l) (.int i) h = .ok d h := by simp [dIx, seqOf, e]
theorem dIx_ref {d : D} {l : List D} {k : Nat} {i : Int} {h : MH} (hl : getL h k = some l) (e : atI l i = some d) : dIx (.ref k) (.int i) h = .ok d h := by simp [dIx, seqOf, hl, e]
theorem dIn_sign {c : Nat} {z : Str} : dIn (.str ⟨#[c]⟩) (.str z) h = .ok (.bl (decide (c ∈ z.cps.toList))) h := rfl
theorem dNotIn_sign {c : Nat} {z : Str} : dNotIn (.str ⟨#[c]⟩) (.str z) h = .ok (.bl (!decide (c ∈ z.cps.toList))) h := rfl
end
end Mi

namespace Mi
open PySem L2
def m_signed_word_3d1e6 : List D → MH → R D := mFun 2 5
 (mSeq (mAsg 2 (mC (.str (Str.ofString " !\"#$&'()*+,-./0123456789:;<=>?@ABCDEFGHIJKLMNOPQRSTUVWXYZ[\\]^_`"))))
 (mSeq (mAsg 2 (mBin dAdd (mVar 2) (mC (.str (Str.ofString "abcdefghijklmnopqrstuvwxyz{|}~\n")))))
 (mSeq (mAsg 3 (mC (.str (Str.ofString ""))))
 (mSeq (mFor (mRange1 (mVar 1)) (mgName 4)
 (mSeq (mAsg 3 (mBin dAdd (mVar 3) (mBin dIx (mVar 2) (mBin dMod (mVar 0) (mCall dLen (mCons (mVar 2) (mNil)))))))
 (mAsg 0 (mBin dFdiv (mVar 0) (mCall dLen (mCons (mVar 2) (mNil)))))))
 (mRet (mVar 3))))))
def m_word_76749 : List D → MH → R D := mFun 1 7
 (mSeq (mAsg 1 (mC (.str (Str.ofString "abcdefghijklmnopqrstuvwxyz"))))
 (mSeq (mAsg 2 (mBin dMod (mVar 0) (mC (.int 12))))
 (mSeq (mIf (mB (mBin dGe (mVar 0) (mBin dPow (mC (.int 10)) (mC (.int 18)))))
 (mRet (mCall (m_signed_word_3d1e6) (mCons (mBin dFdiv (mVar 0) (mC (.int 12))) (mCons (mVar 2) (mNil)))))
 (mSkip))
 (mSeq (mIf (mAnd (mB (mBin dEq (mBin dMod (mBin dFdiv (mVar 0) (mC (.int 12))) (mC (.int 2))) (mC (.int 0)))) (mB (mBin dGt (mVar 2) (mC (.int 0)))))
 (mSeq (mAsg 6 (mBin dMod (mBin dFdiv (mVar 0) (mC (.int 24))) (mVar 2)))
 (mSeq (mAsg 4 (mBin dMul (mBin dIx (mVar 1) (mBin dMod (mBin dFdiv (mVar 0) (mC (.int 288))) (mC (.int 26)))) (mVar 2)))
 (mRet (mBin dAdd (mBin dAdd (mSl (mVar 4) (mNo) (mSome (mVar 6))) (mBin dIx (mVar 1) (mBin dMod (mBin dFdiv (mVar 0) (mC (.int 7488))) (mC (.int 26))))) (mSl (mVar 4) (mSome (mBin dAdd (mVar 6) (mC (.int 1)))) (mNo))))))
 (mSkip))
 (mSeq (mAsg 3 (mVar 0))
 (mSeq (mAsg 4 (mC (.str (Str.ofString ""))))
 (mSeq (mFor (mRange1 (mVar 2)) (mgName 5)
 (mSeq (mAsg 3 (mBin dMod (mBin dAdd (mBin dMul (mVar 3) (mC (.int 48271))) (mC (.int 12345))) (mC (.int 2147483647))))
 (mAsg 4 (mBin dAdd (mVar 4) (mBin dIx (mVar 1) (mBin dMod (mBin dFdiv (mVar 3) (mC (.int 7))) (mC (.int 26))))))))
 (mRet (mVar 4)))))))))
def m_is_name_50395 : List D → MH → R D := mFun 1 2
 (mSeq (mIf (mOr (mNot (mB (mIsi "str" (mVar 0)))) (mOr (mB (mBin dLt (mCall dLen (mCons (mVar 0) (mNil))) (mC (.int 1)))) (mB (mBin dGt (mCall dLen (mCons (mVar 0) (mNil))) (mC (.int 8))))))
 (mRet (mC (.bl false)))
 (mSkip))
 (mSeq (mFor (mIter (mVar 0)) (mgName 1)
 (mIf (mB (mBin dNotIn (mVar 1) (mC (.str (Str.ofString "abcdefghijklmnopqrstuvwxyz")))))
 (mRet (mC (.bl false)))
 (mSkip)))
 (mRet (mC (.bl true)))))
def m_told_ce275 : List D → MH → R D := mFun 2 3
 (mSeq (mAsg 2 (mCall (m_is_name_50395) (mCons (mVar 0) (mNil))))
 (mRet (mAndV (mIsi "bool" (mVar 2)) (mBin dEq (mVar 2) (mVar 1)))))
def m_cell_at_5ae90 : List D → MH → R D := mFun 2 3
 (mSeq (mAsg 2 (mC (.int 0)))
 (mSeq (mIf (mB (mBin dLt (mVar 1) (mCall dLen (mCons (mVar 0) (mNil)))))
 (mAsg 2 (mCall dAbs (mCons (mBin dIx (mVar 0) (mVar 1)) (mNil))))
 (mSkip))
 (mSeq (mIf (mB (mBin dLt (mVar 2) (mBin dPow (mC (.int 10)) (mC (.int 18)))))
 (mRet (mBin dMod (mVar 2) (mC (.int 2147483647))))
 (mSkip))
 (mRet (mVar 2)))))
def m_due_ef749 : List D → MH → R D := mFun 1 2
 (mSeq (mIf (mOr (mB (mBin dLt (mCall dLen (mCons (mVar 0) (mNil))) (mC (.int 1)))) (mB (mBin dGt (mCall dLen (mCons (mVar 0) (mNil))) (mC (.int 8)))))
 (mRet (mC (.bl false)))
 (mSkip))
 (mSeq (mFor (mIter (mVar 0)) (mgName 1)
 (mIf (mB (mBin dNotIn (mVar 1) (mC (.str (Str.ofString "abcdefghijklmnopqrstuvwxyz")))))
 (mRet (mC (.bl false)))
 (mSkip)))
 (mRet (mC (.bl true)))))
def m_spoiled_b8674 : List D → MH → R D := mFun 2 4
 (mSeq (mAsg 2 (mC (.str (Str.ofString " !\"#$&'()*+,-./0123456789:;<=>?@ABCDEFGHIJKLMNOPQRSTUVWXYZ[\\]^_`"))))
 (mSeq (mAsg 2 (mBin dAdd (mVar 2) (mC (.str (Str.ofString "abcdefghijklmnopqrstuvwxyz{|}~\n")))))
 (mSeq (mAsg 3 (mBin dMod (mBin dFdiv (mVar 1) (mC (.int 2))) (mBin dAdd (mCall dLen (mCons (mVar 0) (mNil))) (mC (.int 1)))))
 (mRet (mBin dAdd (mBin dAdd (mSl (mVar 0) (mNo) (mSome (mVar 3))) (mBin dIx (mVar 2) (mBin dMod (mBin dFdiv (mVar 1) (mC (.int 26))) (mCall dLen (mCons (mVar 2) (mNil)))))) (mSl (mVar 0) (mSome (mVar 3)) (mNo)))))))
def m_other_17a03 : List D → MH → R D := mFun 2 3
 (mSeq (mAsg 2 (mBin dMod (mVar 1) (mC (.int 8))))
 (mSeq (mIf (mB (mBin dEq (mVar 2) (mC (.int 0))))
 (mRet (mBin dMul (mVar 1) (mBin dPow (mC (.int 10)) (mC (.int 20)))))
 (mSkip))
 (mSeq (mIf (mB (mBin dEq (mVar 2) (mC (.int 1))))
 (mRet (mC .non))
 (mSkip))
 (mSeq (mIf (mB (mBin dEq (mVar 2) (mC (.int 2))))
 (mRet (mC (.bl true)))
 (mSkip))
 (mSeq (mIf (mB (mBin dEq (mVar 2) (mC (.int 3))))
 (mRet (mLst (mCons (mVar 0) (mNil))))
 (mSkip))
 (mSeq (mIf (mB (mBin dEq (mVar 2) (mC (.int 4))))
 (mRet (mTup (mCons (mVar 0) (mNil))))
 (mSkip))
 (mSeq (mIf (mB (mBin dEq (mVar 2) (mC (.int 5))))
 (mRet (mTup (mCons (mVar 0) (mCons (mTup (mNil)) (mNil)))))
 (mSkip))
 (mSeq (mIf (mB (mBin dEq (mVar 2) (mC (.int 6))))
 (mRet (mC (.str (Str.ofString "abcdefghiabcdefghi"))))
 (mSkip))
 (mRet (mDict1 (mVar 0) (mC (.bl true))))))))))))
def m_law_a0a13 : List D → MH → R D := mFun 1 6
 (mSeq (mAsg 1 (mCall (m_word_76749) (mCons (mCall (m_cell_at_5ae90) (mCons (mVar 0) (mCons (mC (.int 0)) (mNil)))) (mNil))))
 (mSeq (mFor (mRange1 (mCall dMin (mCons (mC (.int 60)) (mCons (mCall dMax (mCons (mC (.int 1)) (mCons (mCall dLen (mCons (mVar 0) (mNil))) (mNil)))) (mNil))))) (mgName 2)
 (mSeq (mAsg 3 (mCall (m_cell_at_5ae90) (mCons (mVar 0) (mCons (mVar 2) (mNil)))))
 (mSeq (mAsg 4 (mCall (m_word_76749) (mCons (mVar 3) (mNil))))
 (mSeq (mIf (mNot (mB (mCall (m_told_ce275) (mCons (mVar 4) (mCons (mCall (m_due_ef749) (mCons (mVar 4) (mNil))) (mNil))))))
 (mRet (mC (.bl false)))
 (mSkip))
 (mSeq (mAsg 5 (mBin dMod (mBin dAdd (mBin dMul (mVar 3) (mC (.int 16807))) (mBin dMul (mVar 2) (mVar 2))) (mC (.int 2147483629))))
 (mSeq (mIf (mB (mBin dEq (mBin dMod (mVar 5) (mC (.int 2))) (mC (.int 1))))
 (mAsg 4 (mCall (m_spoiled_b8674) (mCons (mVar 4) (mCons (mVar 5) (mNil)))))
 (mSkip))
 (mIf (mOr (mNot (mB (mCall (m_told_ce275) (mCons (mVar 4) (mCons (mCall (m_due_ef749) (mCons (mVar 4) (mNil))) (mNil)))))) (mNot (mB (mCall (m_told_ce275) (mCons (mCall (m_other_17a03) (mCons (mVar 4) (mCons (mBin dFdiv (mVar 5) (mC (.int 11))) (mNil)))) (mCons (mC (.bl false)) (mNil)))))))
 (mRet (mC (.bl false)))
 (mSkip))))))))
 (mRet (mCall (m_told_ce275) (mCons (mVar 1) (mCons (mCall (m_due_ef749) (mCons (mVar 1) (mNil))) (mNil)))))))
end Mi

namespace Mi
open PySem L2
abbrev Bits (c : Int) : Prop := 0 ≤ c ∧ Builtin.Int.intBits c ≤ 1048576
theorem cell_at (ns : List Int) (hb : ∀ z ∈ ns, Builtin.Int.intBits z ≤ 1048576) (h : MH) (i : Nat) (hl : getL h i = some (ns.map D.int)) (k : Int) (h0 : 0 ≤ k) : ∃ c, Bits c ∧ m_cell_at_5ae90 [.ref i, .int k] h = .ok (.int c) h := by
  have fin : ∀ c : Int, 0 ≤ c → Builtin.Int.intBits c ≤ 1048576 → ∃ d, Bits d ∧ (fin1 (Out.then (mSeq
          (mIf (mB (mBin dLt (mVar 2) (mBin dPow (mC (D.int 10)) (mC (D.int 18)))))
            (mRet (mBin dMod (mVar 2) (mC (D.int 2147483647)))) mSkip)
          (mRet (mVar 2))) (.nx [some (D.ref i), some (D.int k), some (D.int c)] h)) = .ok (.int d) h) := fun c c0 cb => by
    by_cases hc : c < 1000000000000000000
    · refine ⟨c % 2147483647, ⟨Int.emod_nonneg _ (by decide), Nat.le_trans (bits_lt (n := 31) (by have := Int.emod_nonneg c (b := 2147483647) (by decide); have := Int.emod_lt_of_pos c (b := 2147483647) (by decide); omega)) (by decide)⟩, ?_⟩
      simp [hc]
    · exact ⟨c, ⟨c0, cb⟩, by simp [hc]⟩
  unfold m_cell_at_5ae90
  by_cases c : k < (ns.length : Int)
  · have hk : k.toNat < ns.length := by omega
    have e : atI (ns.map D.int) k = some (.int ns[k.toNat]) := by
      obtain ⟨d, e1, e2⟩ := atI_in (l := ns.map D.int) h0 (by simpa using c)
      rw [e1]
      simp [hk] at e2
      exact congrArg some e2.symm
    have hz := hb _ (List.getElem_mem hk)
    obtain ⟨d, hd, q⟩ := fin (if ns[k.toNat] < 0 then -ns[k.toNat] else ns[k.toNat]) (by split <;> omega) (Nat.le_trans (bits_mono (by split <;> omega)) hz)
    refine ⟨d, hd, ?_⟩
    rw [← q]
    simp [mFun2, dLen_ref hl, c, dIx_ref hl e]
  · obtain ⟨d, hd, q⟩ := fin 0 (by decide) (by decide)
    refine ⟨d, hd, ?_⟩
    rw [← q]
    simp [mFun2, dLen_ref hl, c]
/-! names -/
def ltrs : Str := Str.ofString "abcdefghijklmnopqrstuvwxyz"
theorem ltrs_len : ltrs.cps.toList.length = 26 := by decide +kernel
theorem ltrs_len' : (Str.ofString "abcdefghijklmnopqrstuvwxyz").cps.toList.length = 26 := ltrs_len
def nameB (x : Str) : Bool := decide (1 ≤ x.length) && decide (x.length ≤ 8) && x.cps.toList.all fun c => decide (c ∈ ltrs.cps.toList)
abbrev inL (c : Nat) : Bool := decide (c ∈ ltrs.cps.toList)
abbrev signBody : MS := mIf (mB (mBin dNotIn (mVar 1) (mC (.str (Str.ofString "abcdefghijklmnopqrstuvwxyz"))))) (mRet (mC (.bl false))) (mSkip)
theorem sign_turn (h : MH) (a : D) (c : Nat) : signBody [some a, some (.str ⟨#[c]⟩)] h = if inL c = true then .nx [some a, some (.str ⟨#[c]⟩)] h else .rt (.bl false) h := by
  show mIf _ _ _ _ _ = _
  simp only [mIf_ev, mB_ev, mBin_ev, mVar_succ, mVar_zero, bin2_ok, mC_ev, bin1_ok, dNotIn_sign, b1_ok]
  have e : (Str.ofString "abcdefghijklmnopqrstuvwxyz") = ltrs := rfl
  rw [e]
  cases hc : inL c with
  | true =>
    have hc' : decide (c ∈ ltrs.cps.toList) = true := hc
    rw [hc']
    rfl
  | false =>
    have hc' : decide (c ∈ ltrs.cps.toList) = false := hc
    rw [hc']
    rfl
theorem signs_loop (h : MH) : ∀ (cs : List Nat) (a : D) (o : Option D),
    (cs.all inL = true → ∃ o', forGo yes (mgName 1) signBody (cs.map fun c => D.str ⟨#[c]⟩) [some a, o] h = .nx [some a, o'] h) ∧ (cs.all inL = false → forGo yes (mgName 1) signBody (cs.map fun c => D.str ⟨#[c]⟩) [some a, o] h = .rt (.bl false) h)
  | [], a, o => ⟨fun _ => ⟨o, by simp [forGo]⟩, fun e => by simp at e⟩
  | c :: cs, a, o => by
    have ih := signs_loop h cs a (some (.str ⟨#[c]⟩))
    rw [List.all_cons, List.map_cons, forGo, if_pos (yes_ev h)]
    have e0 : mgName 1 (D.str ⟨#[c]⟩) [some a, o] = some [some a, some (.str ⟨#[c]⟩)] := rfl
    rw [e0]
    simp only [sign_turn]
    cases hc : inL c with
    | true => simpa using ih
    | false => simp
theorem is_name_str (x : Str) (h : MH) (hx : x.length ≤ 1000000) : m_is_name_50395 [.str x] h = .ok (.bl (nameB x)) h ∧ m_due_ef749 [.str x] h = .ok (.bl (nameB x)) h := by
  obtain ⟨l1, l2⟩ := signs_loop h x.cps.toList (.str x) none
  unfold m_is_name_50395 m_due_ef749 nameB
  by_cases c1 : x.length < 1
  · have : ¬ (1 ≤ x.length) := by omega
    have c1' : (x.length : Int) < 1 := by omega
    constructor <;> simp [mFun1, hx, c1', this]
  · by_cases c2 : 8 < x.length
    · have h1 : ¬ (x.length ≤ 8) := by omega
      have c2' : (8 : Int) < (x.length : Int) := by omega
      have c1' : ¬ ((x.length : Int) < 1) := by omega
      constructor <;> simp [mFun1, hx, c1', c2', h1]
    · have h1 : 1 ≤ x.length := by omega
      have h2 : x.length ≤ 8 := by omega
      have c2' : ¬ (8 : Int) < (x.length : Int) := by omega
      have c1' : ¬ ((x.length : Int) < 1) := by omega
      cases ha : x.cps.toList.all inL with
      | true =>
        obtain ⟨o', e⟩ := l1 ha
        rw [decide_eq_true h1, decide_eq_true h2]
        constructor
        · rw [mFun1]
          simp only [mSeq_ev, mIf_ev, mOr_ev, mNot_ev, mB_ev, mIsi_ev, mVar_zero, isi_str_str, b1_ok, not1_ok, Bool.not_true, or1_f, mBin_ev, mCall_ev, mCons_ev, mNil_ev, cons1_ok, cons2_ok, call1_ok, dLen_str, if_pos hx, bin2_ok, mC_ev, bin1_ok, dLt_int, dGt_int, decide_eq_false c1', decide_eq_false c2', if1_f, mSkip_ev, then_nx, mFor_ev, mIter_ev, iter1_str, for1_ok]
          show fin1 (Out.then _ (forGo yes (mgName 1) signBody (x.cps.toList.map fun c => D.str ⟨#[c]⟩) [some (.str x), none] h)) = _
          rw [e]
          rfl
        · rw [mFun1]
          simp only [mSeq_ev, mIf_ev, mOr_ev, mNot_ev, mB_ev, mIsi_ev, mVar_zero, isi_str_str, b1_ok, not1_ok, Bool.not_true, or1_f, mBin_ev, mCall_ev, mCons_ev, mNil_ev, cons1_ok, cons2_ok, call1_ok, dLen_str, if_pos hx, bin2_ok, mC_ev, bin1_ok, dLt_int, dGt_int, decide_eq_false c1', decide_eq_false c2', if1_f, mSkip_ev, then_nx, mFor_ev, mIter_ev, iter1_str, for1_ok]
          show fin1 (Out.then _ (forGo yes (mgName 1) signBody (x.cps.toList.map fun c => D.str ⟨#[c]⟩) [some (.str x), none] h)) = _
          rw [e]
          rfl
      | false =>
        have e := l2 ha
        rw [decide_eq_true h1, decide_eq_true h2]
        constructor
        · rw [mFun1]
          simp only [mSeq_ev, mIf_ev, mOr_ev, mNot_ev, mB_ev, mIsi_ev, mVar_zero, isi_str_str, b1_ok, not1_ok, Bool.not_true, or1_f, mBin_ev, mCall_ev, mCons_ev, mNil_ev, cons1_ok, cons2_ok, call1_ok, dLen_str, if_pos hx, bin2_ok, mC_ev, bin1_ok, dLt_int, dGt_int, decide_eq_false c1', decide_eq_false c2', if1_f, mSkip_ev, then_nx, mFor_ev, mIter_ev, iter1_str, for1_ok]
          show fin1 (Out.then _ (forGo yes (mgName 1) signBody (x.cps.toList.map fun c => D.str ⟨#[c]⟩) [some (.str x), none] h)) = _
          rw [e]
          rfl
        · rw [mFun1]
          simp only [mSeq_ev, mIf_ev, mOr_ev, mNot_ev, mB_ev, mIsi_ev, mVar_zero, isi_str_str, b1_ok, not1_ok, Bool.not_true, or1_f, mBin_ev, mCall_ev, mCons_ev, mNil_ev, cons1_ok, cons2_ok, call1_ok, dLen_str, if_pos hx, bin2_ok, mC_ev, bin1_ok, dLt_int, dGt_int, decide_eq_false c1', decide_eq_false c2', if1_f, mSkip_ev, then_nx, mFor_ev, mIter_ev, iter1_str, for1_ok]
          show fin1 (Out.then _ (forGo yes (mgName 1) signBody (x.cps.toList.map fun c => D.str ⟨#[c]⟩) [some (.str x), none] h)) = _
          rw [e]
          rfl
/-- other things are no names -/
theorem is_name_no (d : D) (h : MH) (hd : isi1 "str" (.ok d h) = .ok (.bl false) h) : m_is_name_50395 [d] h = .ok (.bl false) h := by
  unfold m_is_name_50395
  rw [mFun1]
  simp only [mSeq_ev, mIf_ev, mOr_ev, mNot_ev, mB_ev, mIsi_ev, mVar_zero, hd, b1_ok, not1_ok, Bool.not_false, or1_t, if1_t, mRet_ev, mC_ev, ret1_ok, then_rt, fin1_rt]
theorem told_str (x : Str) (h : MH) (hx : x.length ≤ 1000000) (b : Bool) (hb : nameB x = b) : m_told_ce275 [.str x, .bl b] h = .ok (.bl true) h := by
  unfold m_told_ce275
  simp [mFun2, (is_name_str x h hx).1, hb]
theorem told_no (d : D) (h : MH) (hd : isi1 "str" (.ok d h) = .ok (.bl false) h) : m_told_ce275 [d, .bl false] h = .ok (.bl true) h := by
  unfold m_told_ce275
  simp [mFun2, is_name_no d h hd]
/-! words -/
theorem mod_in (x : Int) {n : Int} (h : 0 < n) : 0 ≤ x % n ∧ x % n < n := ⟨Int.emod_nonneg _ (by omega), Int.emod_lt_of_pos _ h⟩
theorem str_len (x : Str) : x.length = x.cps.toList.length := by rw [Array.length_toList]; rfl
theorem app_len (x y : Str) : (x ++ y).length = x.length + y.length := by
  show (x.cps ++ y.cps).size = _
  rw [Array.size_append]
  rfl
theorem one_len (c : Nat) : (⟨#[c]⟩ : Str).length = 1 := rfl
theorem cut_len (z : Str) (lo hi : Option Int) : (cutS z lo hi).length ≤ z.length := cutS_length z lo hi
/-- a sign of a written text at a rest -/
theorem ix_mod {z : Str} {n : Int} (hn : (z.length : Int) = n) (hz : z.length ≤ 1000000) (h0 : 0 < n) (x : Int) (h : MH) : ∃ c, dIx (.str z) (.int (x % n)) h = .ok (.str ⟨#[c]⟩) h := by
  obtain ⟨a, b⟩ := mod_in x h0
  obtain ⟨c, e, _⟩ := atI_in (l := z.cps.toList) a (by rw [← str_len]; omega)
  exact ⟨c, dIx_str h hz e⟩
def sgns : Str := Str.ofString " !\"#$&'()*+,-./0123456789:;<=>?@ABCDEFGHIJKLMNOPQRSTUVWXYZ[\\]^_`" ++ Str.ofString "abcdefghijklmnopqrstuvwxyz{|}~\n"
theorem sgns_len : sgns.length = 95 := by decide +kernel
theorem signed_word (r : Int) (n : Nat) (hn : n ≤ 11) (h : MH) : ∃ x : Str, x.length ≤ 11 ∧ m_signed_word_3d1e6 [.int r, .int (n : Int)] h = .ok (.str x) h := by
  unfold m_signed_word_3d1e6
  have hl : lim62 (n : Int) = true := by unfold lim62; simp; omega
  have l1 : (Str.ofString " !\"#$&'()*+,-./0123456789:;<=>?@ABCDEFGHIJKLMNOPQRSTUVWXYZ[\\]^_`").length = 64 := by decide +kernel
  have l2 : (Str.ofString "abcdefghijklmnopqrstuvwxyz{|}~\n").length = 31 := by decide +kernel
  have e0 : (Str.ofString " !\"#$&'()*+,-./0123456789:;<=>?@ABCDEFGHIJKLMNOPQRSTUVWXYZ[\\]^_`" ++ Str.ofString "abcdefghijklmnopqrstuvwxyz{|}~\n") = sgns := rfl
  obtain ⟨ρ', h', e, i⟩ := forGo_all (gd := yes) (tg := mgName 4) (body := (mSeq (mAsg 3 (mBin dAdd (mVar 3) (mBin dIx (mVar 2) (mBin dMod (mVar 0) (mCall dLen (mCons (mVar 2) (mNil)))))))
 (mAsg 0 (mBin dFdiv (mVar 0) (mCall dLen (mCons (mVar 2) (mNil))))))) (items := rangeD 0 n) (ρ := [some (.int r), some (.int n), some (.str sgns), some (.str (Str.ofString "")), none]) (h := h)
    (fun k ρ h' => h' = h ∧ ∃ (r : Int) (x : Str) (o : Option D), ρ = [some (.int r), some (.int n), some (.str sgns), some (.str x), o] ∧ x.length = k) ⟨rfl, r, _, none, rfl, rfl⟩ (fun _ _ _ _ => rfl)
    (fun k d ρ h' hd hi => by
      obtain ⟨rfl, r, x, o, rfl, hx⟩ := hi
      obtain ⟨hk, rfl⟩ := rangeD_get hd
      refine ⟨_, rfl, ?_⟩
      obtain ⟨c, hc⟩ := ix_mod (z := sgns) (n := 95) (by rw [sgns_len]; rfl) (by rw [sgns_len]; decide) (by decide) r h'
      have h1 : x.length + 1 ≤ 1000000 := by omega
      refine ⟨_, _, by simp [sgns_len, hc, one_len, h1]; rfl, rfl, r / 95, x ++ ⟨#[c]⟩, some (.int (0 + (k : Int))), ?_, by rw [app_len, hx]; rfl⟩
      simp)
  obtain ⟨rfl, r', x, o, rfl, hx⟩ := i
  refine ⟨x, by rw [hx]; simp; exact hn, ?_⟩
  simp [mFun2, l1, l2, hl, e0]
  rw [e]
  simp

theorem foldl_size (a : Array Nat) : ∀ (k : Nat) (acc : Array Nat), ((List.replicate k a).foldl (· ++ ·) acc).size = acc.size + k * a.size
  | 0, acc => by simp
  | k + 1, acc => by
    rw [List.replicate_succ, List.foldl_cons, foldl_size a k, Array.size_append, Nat.succ_mul]
    omega
theorem mul_len (x : Str) (n : Int) : (Txt.mul x n).length = x.length * n.toNat := by
  unfold Txt.mul
  split
  · rename_i h
    have : n.toNat = 0 := by omega
    rw [this, Nat.mul_zero]
    rfl
  · rename_i h
    split
    · rename_i h2
      rw [Bool.or_eq_true] at h2
      rcases h2 with h2 | h2
      · have : n = 1 := by simpa using h2
        subst this
        show x.length = x.length * 1
        omega
      · have : x.length = 0 := by simpa using h2
        rw [this, Nat.zero_mul]
    · show ((List.replicate n.toNat x.cps).foldl (· ++ ·) #[]).size = x.cps.size * n.toNat
      rw [foldl_size, Nat.mul_comm]
      simp
theorem lt_len : (Str.ofString "abcdefghijklmnopqrstuvwxyz").length = 26 := by decide +kernel
theorem ix_letters (x : Int) (h : MH) : ∃ c, dIx (.str (Str.ofString "abcdefghijklmnopqrstuvwxyz")) (.int (x % 26)) h = .ok (.str ⟨#[c]⟩) h :=
  ix_mod (by rw [lt_len]; rfl) (by rw [lt_len]; decide) (by decide) x h
theorem word_loop (n : Nat) (hn : n ≤ 11) (c : D) (o6 : Option D) (m0 : Int) (hm0 : 0 ≤ m0 ∧ m0 < 1000000000000000000) (h : MH) : ∃ (x : Str) (m : D) (o : Option D), x.length = n ∧ forGo yes (mgName 5) (mSeq (mAsg 3 (mBin dMod (mBin dAdd (mBin dMul (mVar 3) (mC (.int 48271))) (mC (.int 12345))) (mC (.int 2147483647))))
 (mAsg 4 (mBin dAdd (mVar 4) (mBin dIx (mVar 1) (mBin dMod (mBin dFdiv (mVar 3) (mC (.int 7))) (mC (.int 26))))))) (rangeD 0 n) [some c, some (.str (Str.ofString "abcdefghijklmnopqrstuvwxyz")), some (.int n), some (.int m0), some (.str (Str.ofString "")), none, o6] h =
    .nx [some c, some (.str (Str.ofString "abcdefghijklmnopqrstuvwxyz")), some (.int n), some m, some (.str x), o, o6] h := by
  obtain ⟨ρ', h', e, i⟩ := forGo_all (gd := yes) (tg := mgName 5) (body := (mSeq (mAsg 3 (mBin dMod (mBin dAdd (mBin dMul (mVar 3) (mC (.int 48271))) (mC (.int 12345))) (mC (.int 2147483647))))
 (mAsg 4 (mBin dAdd (mVar 4) (mBin dIx (mVar 1) (mBin dMod (mBin dFdiv (mVar 3) (mC (.int 7))) (mC (.int 26)))))))) (items := rangeD 0 n) (ρ := [some c, some (.str (Str.ofString "abcdefghijklmnopqrstuvwxyz")), some (.int n), some (.int m0), some (.str (Str.ofString "")), none, o6]) (h := h)
    (fun k ρ h' => h' = h ∧ ∃ (m : Int) (x : Str) (o : Option D), ρ = [some c, some (.str (Str.ofString "abcdefghijklmnopqrstuvwxyz")), some (.int n), some (.int m), some (.str x), o, o6] ∧ x.length = k ∧ 0 ≤ m ∧ m < 1000000000000000000) ⟨rfl, m0, _, none, rfl, rfl, hm0.1, hm0.2⟩ (fun _ _ _ _ => rfl)
    (fun k d ρ h' hd hi => by
      obtain ⟨rfl, m, x, o, rfl, hx, hm⟩ := hi
      obtain ⟨hk, rfl⟩ := rangeD_get hd
      refine ⟨_, rfl, ?_⟩
      obtain ⟨z, hz⟩ := ix_letters ((m * 48271 + 12345) % 2147483647 / 7) h'
      have h1 : x.length + 1 ≤ 1000000 := by omega
      have h2 := dMul_s m 48271 h' (by omega) (by omega) (by decide) (by decide)
      have h3 := mod_in (m * 48271 + 12345) (n := 2147483647) (by decide)
      refine ⟨_, _, by simp [h2, hz, one_len, h1]; rfl, rfl, (m * 48271 + 12345) % 2147483647, x ++ ⟨#[z]⟩, some (.int (0 + (k : Int))), ?_, by rw [app_len, hx]; rfl, h3.1, by omega⟩
      simp)
  obtain ⟨rfl, m, x, o, rfl, hx, _⟩ := i
  exact ⟨x, .int m, o, by simpa using hx, e⟩
theorem word (c : Int) (hc : Bits c) (h : MH) : ∃ x : Str, x.length ≤ 30 ∧ m_word_76749 [.int c] h = .ok (.str x) h := by
  have hc0 := hc.1
  have hm := mod_in c (n := 12) (by decide)
  obtain ⟨n, hn⟩ : ∃ n : Nat, (n : Int) = c % 12 := ⟨(c % 12).toNat, by omega⟩
  have hn11 : n ≤ 11 := by omega
  by_cases c1 : 1000000000000000000 ≤ c
  · obtain ⟨x, hx, e⟩ := signed_word (c / 12) n hn11 h
    refine ⟨x, by omega, ?_⟩
    unfold m_word_76749
    rw [mFun1]
    simp [c1, ← hn, e]
  · by_cases c2 : c / 12 % 2 = 0 ∧ 0 < c % 12
    · obtain ⟨a, ha⟩ := ix_letters (c / 288) h
      obtain ⟨b, hb⟩ := ix_letters (c / 7488) h
      have hl : 0 < (n : Int) := by omega
      have hat := mod_in (c / 24) hl
      have h5 : (n : Int) ≤ 1000000 ∧ -1000000 ≤ (n : Int) ∧ (⟨#[a]⟩ : Str).length * (n : Int).toNat ≤ 1000000 := ⟨by omega, by omega, by rw [one_len]; omega⟩
      have h6 : (Txt.mul ⟨#[a]⟩ (n : Int)).length = n := by rw [mul_len, one_len]; omega
      have h7 := cut_len (Txt.mul ⟨#[a]⟩ (n : Int)) none (some (c / 24 % (n : Int)))
      have h8 := cut_len (Txt.mul ⟨#[a]⟩ (n : Int)) (some (c / 24 % (n : Int) + 1)) none
      rw [h6] at h7 h8
      refine ⟨cutS (Txt.mul ⟨#[a]⟩ (n : Int)) none (some (c / 24 % (n : Int))) ++ ⟨#[b]⟩ ++ cutS (Txt.mul ⟨#[a]⟩ (n : Int)) (some (c / 24 % (n : Int) + 1)) none, ?_, ?_⟩
      · rw [app_len, app_len, one_len]
        omega
      · have h9 : n ≤ 1000000 := by omega
        have h10 : (cutS (Txt.mul ⟨#[a]⟩ (n : Int)) none (some (c / 24 % (n : Int)))).length + 1 ≤ 1000000 := by omega
        have h11 : (cutS (Txt.mul ⟨#[a]⟩ (n : Int)) none (some (c / 24 % (n : Int)))).length + 1 + (cutS (Txt.mul ⟨#[a]⟩ (n : Int)) (some (c / 24 % (n : Int) + 1)) none).length ≤ 1000000 := by omega
        have hl' : 0 < n := by omega
        unfold m_word_76749
        rw [mFun1]
        simp [c1, c2, ← hn, hl', ha, hb, h5, h6, h9, one_len, app_len, h10, h11]
    · obtain ⟨x, m, o, hx, e⟩ := word_loop n hn11 (.int c) none c ⟨hc0, by omega⟩ h
      refine ⟨x, by omega, ?_⟩
      have hl : lim62 (n : Int) = true := by unfold lim62; simp; omega
      unfold m_word_76749
      rw [mFun1]
      by_cases c3 : c / 12 % 2 = 0
      · have c4 : ¬ 0 < n := fun z => c2 ⟨c3, by omega⟩
        have c4' : n = 0 := by omega
        simp [c1, ← hn, c3, c4, hl]
        rw [e]
        simp
      · simp [c1, ← hn, c3, hl]
        rw [e]
        simp
theorem spoiled (x : Str) (hx : x.length ≤ 1000) (c : Int) (h : MH) : ∃ y : Str, y.length ≤ 10000 ∧ m_spoiled_b8674 [.str x, .int c] h = .ok (.str y) h := by
  have l1 : (Str.ofString " !\"#$&'()*+,-./0123456789:;<=>?@ABCDEFGHIJKLMNOPQRSTUVWXYZ[\\]^_`").length = 64 := by decide +kernel
  have l2 : (Str.ofString "abcdefghijklmnopqrstuvwxyz{|}~\n").length = 31 := by decide +kernel
  have e0 : (Str.ofString " !\"#$&'()*+,-./0123456789:;<=>?@ABCDEFGHIJKLMNOPQRSTUVWXYZ[\\]^_`" ++ Str.ofString "abcdefghijklmnopqrstuvwxyz{|}~\n") = sgns := rfl
  have hl : (0 : Int) < (x.length : Int) + 1 := by omega
  obtain ⟨z, hz⟩ := ix_mod (z := sgns) (n := 95) (by rw [sgns_len]; rfl) (by rw [sgns_len]; decide) (by decide) (c / 26) h
  have h7 := cut_len x none (some (c / 2 % ((x.length : Int) + 1)))
  have h8 := cut_len x (some (c / 2 % ((x.length : Int) + 1))) none
  have hx' : x.length ≤ 1000000 := by omega
  have h10 : (cutS x none (some (c / 2 % ((x.length : Int) + 1)))).length + 1 ≤ 1000000 := by omega
  have h11 : (cutS x none (some (c / 2 % ((x.length : Int) + 1)))).length + 1 + (cutS x (some (c / 2 % ((x.length : Int) + 1))) none).length ≤ 1000000 := by omega
  refine ⟨cutS x none (some (c / 2 % ((x.length : Int) + 1))) ++ ⟨#[z]⟩ ++ cutS x (some (c / 2 % ((x.length : Int) + 1))) none, ?_, ?_⟩
  · rw [app_len, app_len, one_len]
    omega
  · unfold m_spoiled_b8674
    rw [mFun2]
    simp [l1, l2, e0, sgns_len, hx', hl, hz, one_len, app_len, h10, h11]
theorem getL_push {h : MH} {i : Nat} {l : List D} (e : getL h i = some l) (t : MH) : getL (h ++ t) i = some l := by
  have hi : i < h.length := by
    cases q : h[i]? with
    | none => simp [getL, q] at e
    | some o => exact (List.getElem?_eq_some_iff.mp q).1
  unfold getL
  rw [List.getElem?_append_left hi]
  exact e
theorem other (x : Str) (hx : x.length ≤ 1000000) (c : Int) (hc : 0 ≤ c ∧ c < 2147483648) (h : MH) (l : List D) (hl : getL h 0 = some l) : ∃ d h', m_other_17a03 [.str x, .int c] h = .ok d h' ∧ getL h' 0 = some l ∧ m_told_ce275 [d, .bl false] h' = .ok (.bl true) h' := by
  have hm := mod_in c (n := 8) (by decide)
  unfold m_other_17a03
  rw [mFun2]
  have key : c % 8 = 0 ∨ c % 8 = 1 ∨ c % 8 = 2 ∨ c % 8 = 3 ∨ c % 8 = 4 ∨ c % 8 = 5 ∨ c % 8 = 6 ∨ c % 8 = 7 := by omega
  rcases key with k | k | k | k | k | k | k | k
  · have h2 := dMul_bits c 100000000000000000000 h (bits_lt (n := 64) (by omega)) (bits_lt (n := 70) (by decide)) (by decide)
    exact ⟨.int (c * 100000000000000000000), h, by simp [k, h2], hl, told_no _ _ (by simp)⟩
  · exact ⟨.non, h, by simp [k], hl, told_no _ _ (by simp)⟩
  · exact ⟨.bl true, h, by simp [k], hl, told_no _ _ (by simp)⟩
  · refine ⟨.ref h.length, h ++ [.lst [.str x]], by simp [k], getL_push hl _, told_no _ _ ?_⟩
    exact isi_ref _ _ _ [.str x] (by simp [getL]) (by decide +kernel)
  · exact ⟨.tup [.str x], h, by simp [k], hl, told_no _ _ (by simp)⟩
  · exact ⟨.tup [.str x, .tup []], h, by simp [k], hl, told_no _ _ (by simp)⟩
  · exact ⟨.str (Str.ofString "abcdefghiabcdefghi"), h, by simp [k], hl, told_str _ _ (by decide +kernel) _ (by decide +kernel)⟩
  · refine ⟨.ref h.length, h ++ [.dK [(.inr x, .bl true)]], ?_, getL_push hl _, told_no _ _ ?_⟩
    · simp [k, mDict1, keyD, R.bind]
    · exact isi_dict _ _ _ [(.inr x, .bl true)] (by simp) (by decide +kernel)

theorem main_k01 : ∀ ns : List Int, ns.length ≤ 63 → (∀ z ∈ ns, Builtin.Int.intBits z ≤ 1048576) → ∃ h', m_law_a0a13 [.ref 0] [.rol (ns.map D.int)] = .ok (.bl true) h' := by
  intro ns hn hb
  have g0 : getL [.rol (ns.map D.int)] 0 = some (ns.map D.int) := rfl
  obtain ⟨c0, hc0, e0⟩ := cell_at ns hb _ 0 g0 0 (by decide)
  obtain ⟨x0, hx0, ew0⟩ := word c0 hc0 [.rol (ns.map D.int)]
  unfold m_law_a0a13
  rw [mFun1]
  obtain ⟨n, hn'⟩ : ∃ n : Nat, (if (if (ns.length : Int) > 1 then (ns.length : Int) else 1) < 60 then (if (ns.length : Int) > 1 then (ns.length : Int) else 1) else 60) = (n : Int) ∧ n ≤ 60 := ⟨(if (if (ns.length : Int) > 1 then (ns.length : Int) else 1) < 60 then (if (ns.length : Int) > 1 then (ns.length : Int) else 1) else 60).toNat, by split <;> split <;> omega, by split <;> split <;> omega⟩
  have hl : lim62 (n : Int) = true := by unfold lim62; simp; omega
  simp only [mSeq_ev, mAsg_ev, mCall_ev, mCons_ev, mVar_zero, cons1_ok, mC_ev, mNil_ev, cons2_ok, call1_ok, e0, ew0, asg1_ok, then_nx, mFor_ev, mRange1_ev, dLen_ref g0, dMax_ev, dMin_ev, List.replicate, List.set, List.length_map, hn'.1, rg1_ok, hl, if_true, for1_ok, Int.toNat_natCast]
  generalize hbody : (mSeq (mAsg 3 _) _ : MS) = body
  obtain ⟨ρ', h', e, i⟩ := forGo_all (gd := yes) (tg := mgName 2) (body := body) (items := rangeD 0 n) (ρ := [some (.ref 0), some (.str x0), none, none, none, none]) (h := [.rol (ns.map D.int)])
    (fun k ρ h => getL h 0 = some (ns.map D.int) ∧ ∃ o2 o3 o4 o5, ρ = [some (.ref 0), some (.str x0), o2, o3, o4, o5]) ⟨g0, _, _, _, _, rfl⟩ (fun _ _ _ _ => rfl)
    (fun k d ρ h hd hi => by
      obtain ⟨g, o2, o3, o4, o5, rfl⟩ := hi
      obtain ⟨hk, rfl⟩ := rangeD_get hd
      refine ⟨_, rfl, ?_⟩
      obtain ⟨c, hc, ec⟩ := cell_at ns hb h 0 g (0 + (k : Int)) (by omega)
      obtain ⟨x, hx, ex⟩ := word c hc h
      have hx6 : x.length ≤ 1000000 := by omega
      have ed := (is_name_str x h hx6).2
      have et := told_str x h hx6 _ rfl
      have em1 := dMul_r c 16807 h (by have := hc.2; omega) (by decide) (by decide)
      have em2 := dMul_s (0 + (k : Int)) (0 + (k : Int)) h (by omega) (by omega) (by omega) (by omega)
      have hbl := mod_in (c * 16807 + (0 + (k : Int)) * (0 + (k : Int))) (n := 2147483629) (by decide)
      generalize hbd : (c * 16807 + (0 + (k : Int)) * (0 + (k : Int))) % 2147483629 = b at hbl
      have key : ∀ y : Str, y.length ≤ 1000000 → ∃ h2, getL h2 0 = some (ns.map D.int) ∧ ∃ oo, (mIf (mOr (mNot (mB (mCall (m_told_ce275) (mCons (mVar 4) (mCons (mCall (m_due_ef749) (mCons (mVar 4) (mNil))) (mNil)))))) (mNot (mB (mCall (m_told_ce275) (mCons (mCall (m_other_17a03) (mCons (mVar 4) (mCons (mBin dFdiv (mVar 5) (mC (.int 11))) (mNil)))) (mCons (mC (.bl false)) (mNil)))))))
 (mRet (mC (.bl false)))
 (mSkip)) [some (.ref 0), some (.str x0), some (.int (0 + (k : Int))), some (.int c), some (.str y), some (.int b)] h = .nx oo h2 ∧ oo = [some (.ref 0), some (.str x0), some (.int (0 + (k : Int))), some (.int c), some (.str y), some (.int b)] := fun y hy => by
        obtain ⟨d, h2, eo, g2, et2⟩ := other y hy (b / 11) (by omega) h _ g
        refine ⟨h2, g2, _, ?_, rfl⟩
        simp [(is_name_str y h hy).2, told_str y h hy _ rfl, eo, et2]
      rw [← hbody]
      by_cases c2 : b % 2 = 1
      · obtain ⟨y, hy, ey⟩ := spoiled x (by omega) b h
        obtain ⟨h2, g2, oo, ee, rfl⟩ := key y (by omega)
        refine ⟨[some (.ref 0), some (.str x0), some (.int (0 + (k : Int))), some (.int c), some (.str y), some (.int b)], h2, ?_, g2, _, _, _, _, rfl⟩
        simp only [mSeq_ev, mAsg_ev, mCall_ev, mCons_ev, mVar_zero, mVar_succ, cons1_ok, mC_ev, mNil_ev, cons2_ok, call1_ok, asg1_ok, then_nx, List.set, ec, ex, ed, et, mIf_ev, mNot_ev, mB_ev, b1_ok, not1_ok, Bool.not_true, if1_f, mSkip_ev, mBin_ev, bin2_ok, bin1_ok, em1, em2, dAdd_int, dMod_int, hbd, c2, dEq_int, decide_true, if1_t, ey]
        simp only [show (0 : Int) < 2147483629 by decide, show (0 : Int) < 2 by decide, if_true, hbd, asg1_ok, then_nx, List.set, mSeq_ev, mIf_ev, mB_ev, mBin_ev, mVar_succ, mVar_zero, bin2_ok, mC_ev, bin1_ok, dMod_int, c2, dEq_int, decide_true, b1_ok, if1_t, mAsg_ev, mCall_ev, mCons_ev, cons1_ok, mNil_ev, cons2_ok, call1_ok, ey]
        exact (mIf_ev _ _ _ _ _).symm.trans ee
      · obtain ⟨h2, g2, oo, ee, rfl⟩ := key x hx6
        refine ⟨[some (.ref 0), some (.str x0), some (.int (0 + (k : Int))), some (.int c), some (.str x), some (.int b)], h2, ?_, g2, _, _, _, _, rfl⟩
        simp only [mSeq_ev, mAsg_ev, mCall_ev, mCons_ev, mVar_zero, mVar_succ, cons1_ok, mC_ev, mNil_ev, cons2_ok, call1_ok, asg1_ok, then_nx, List.set, ec, ex, ed, et, mIf_ev, mNot_ev, mB_ev, b1_ok, not1_ok, Bool.not_true, if1_f, mSkip_ev, mBin_ev, bin2_ok, bin1_ok, em1, em2, dAdd_int, dMod_int, hbd]
        simp only [show (0 : Int) < 2147483629 by decide, show (0 : Int) < 2 by decide, if_true, hbd, asg1_ok, then_nx, List.set, mSeq_ev, mIf_ev, mB_ev, mBin_ev, mVar_succ, mVar_zero, bin2_ok, mC_ev, bin1_ok, dMod_int, c2, dEq_int, decide_false, b1_ok, if1_f, mSkip_ev]
        exact (mIf_ev _ _ _ _ _).symm.trans ee)
  obtain ⟨g, o2, o3, o4, o5, rfl⟩ := i
  refine ⟨h', ?_⟩
  rw [e]
  simp [(is_name_str x0 h' (by omega)).2, told_str x0 h' (by omega) _ rfl]
end Mi

namespace Sk01
open PySem L2 Mi
def top (i : Nat) : Stmt := PySem.Challenge.pw_graftform_k01_names_told.main.body.getD i (.Pass ⟨0, 0, 0, 0⟩)
/-- what the top leaves: names of built-ins that are not bound, constants -/
structure Txt (mg : Str → Option Value) : Prop where
  b_abs : mg "abs" = none
  b_bool : mg "bool" = none
  b_isinstance : mg "isinstance" = none
  b_len : mg "len" = none
  b_max : mg "max" = none
  b_min : mg "min" = none
  b_range : mg "range" = none
  b_str : mg "str" = none
  g_LETTERS : ∃ t, mg "LETTERS" = some (.str (Str.ofString "abcdefghijklmnopqrstuvwxyz") t)
section
variable {P : Program} {w : World} {K : PySem.W.Frag} {mg : Str → Option Value} {base : Heap}
theorem sc__law_signed_word : FnScope ["_law_rest", "_law_long", "_law_signs", "_law_word_here", "_law_k"] ["_law_rest", "_law_long"] (defScope (top 5)) := ⟨rfl, rfl, rfl, by decide +kernel, rfl, by decide +kernel, by decide +kernel⟩
theorem sim__law_signed_word (T : Txt mg) (d : Df K mg "_law_signed_word" (top 5) ["_law_rest", "_law_long"]) : Cal P w K mg base "_law_signed_word" 1 (m_signed_word_3d1e6) := by
  exact cal_mk (k := 0) d sc__law_signed_word fun f cdv A outer s H E hr => by
   have tk : Takes (cxOf (L2.CX P w) P w K mg base ["_law_rest", "_law_long", "_law_signs", "_law_word_here", "_law_k"] "_law_signed_word" (defScope (top 5)) f cdv A outer s H E) (fun c d _ H' => E c d H') := takes_of rfl rfl rfl rfl
   have hu : (A.deeper (PyProof.Rows.envOfC "_law_signed_word" (defScope (top 5)) s.heap.objs.size f cdv)).units + 65 < cLine := by have := hr.un; omega
   have S := sc__law_signed_word
   exact ss_cons (sx_set (i := 2) (se_str) S.nd)
      (ss_cons (sx_set (i := 2) (se_bin op_addA s2_add (mv 2) (se_str)) S.nd)
      (ss_cons (sx_set (i := 3) (se_str) S.nd)
      (ss_cons (sx_for (passes_of rfl) (si_range1 T.b_range (mv 1)) (sg_name (i := 4) S.nd)
      (ss_cons (sx_set (i := 3) (se_bin op_addA s2_add (mv 3) (se_ix ix_seq s2_ix (mv 2) (se_bin op_mod s2_mod (mv 0) (se_callB call_len sn_len (by rfl) T.b_len (by decide +kernel) (sa_cons (mv 2) (sa_nil)))) (fun _ _ => rfl))) S.nd)
      (ss_one (sx_set (i := 0) (se_bin op_fdivW s2_fdiv (mv 0) (se_callB call_len sn_len (by rfl) T.b_len (by decide +kernel) (sa_cons (mv 2) (sa_nil)))) S.nd))))
      (ss_one (sx_ret (mv 3))))))
theorem sc__law_word : FnScope ["_law_cell", "_law_letters", "_law_long", "_law_number", "_law_word_here", "_law_k", "_law_at"] ["_law_cell"] (defScope (top 6)) := ⟨rfl, rfl, rfl, by decide +kernel, rfl, by decide +kernel, by decide +kernel⟩
theorem sim__law_word (T : Txt mg) (d : Df K mg "_law_word" (top 6) ["_law_cell"]) (c__law_signed_word : Cal P w K mg base "_law_signed_word" 1 (m_signed_word_3d1e6)) : Cal P w K mg base "_law_word" 2 (m_word_76749) := by
  exact cal_mk (k := 1) d sc__law_word fun f cdv A outer s H E hr => by
   have tk : Takes (cxOf (L2.CX P w) P w K mg base ["_law_cell", "_law_letters", "_law_long", "_law_number", "_law_word_here", "_law_k", "_law_at"] "_law_word" (defScope (top 6)) f cdv A outer s H E) (fun c d _ H' => E c d H') := takes_of rfl rfl rfl rfl
   have hu : (A.deeper (PyProof.Rows.envOfC "_law_word" (defScope (top 6)) s.heap.objs.size f cdv)).units + 65 < cLine := by have := hr.un; omega
   have S := sc__law_word
   exact ss_cons (sx_set (i := 1) (se_str) S.nd)
      (ss_cons (sx_set (i := 2) (se_bin op_mod s2_mod (mv 0) (se_int)) S.nd)
      (ss_cons (sx_if (st_cmp op_ge s2_ge (mv 0) (se_bin op_pow s2_pow (se_int) (se_int)) (nomark _))
      (ss_one (sx_ret (se_callC c__law_signed_word (hr.mono (by omega)) tk (sa_cons (se_bin op_fdivW s2_fdiv (mv 0) (se_int)) (sa_cons (mv 2) (sa_nil))))))
      (ss_nil))
      (ss_cons (sx_if ((sw_and (st_cmp (op_eqA hu) s2_eq (se_bin op_mod s2_mod (se_bin op_fdivW s2_fdiv (mv 0) (se_int)) (se_int)) (se_int) (nomark _)) (sw_and1 (st_cmp op_gt s2_gt (mv 2) (se_int) (nomark _)))).pt)
      (ss_cons (sx_set (i := 6) (se_bin op_mod s2_mod (se_bin op_fdivW s2_fdiv (mv 0) (se_int)) (mv 2)) S.nd)
      (ss_cons (sx_set (i := 4) (se_bin op_mulA s2_mul (se_ix ix_seq s2_ix (mv 1) (se_bin op_mod s2_mod (se_bin op_fdivW s2_fdiv (mv 0) (se_int)) (se_int)) (fun _ _ => rfl)) (mv 2)) S.nd)
      (ss_one (sx_ret (se_bin op_addA s2_add (se_bin op_addA s2_add (se_slice (mv 4) (sp_none) (sp_some (mv 6))) (se_ix ix_seq s2_ix (mv 1) (se_bin op_mod s2_mod (se_bin op_fdivW s2_fdiv (mv 0) (se_int)) (se_int)) (fun _ _ => rfl))) (se_slice (mv 4) (sp_some (se_bin op_addA s2_add (mv 6) (se_int))) (sp_none)))))))
      (ss_nil))
      (ss_cons (sx_set (i := 3) (mv 0) S.nd)
      (ss_cons (sx_set (i := 4) (se_str) S.nd)
      (ss_cons (sx_for (passes_of rfl) (si_range1 T.b_range (mv 2)) (sg_name (i := 5) S.nd)
      (ss_cons (sx_set (i := 3) (se_bin op_mod s2_mod (se_bin op_addA s2_add (se_bin op_mulA s2_mul (mv 3) (se_int)) (se_int)) (se_int)) S.nd)
      (ss_one (sx_set (i := 4) (se_bin op_addA s2_add (mv 4) (se_ix ix_seq s2_ix (mv 1) (se_bin op_mod s2_mod (se_bin op_fdivW s2_fdiv (mv 3) (se_int)) (se_int)) (fun _ _ => rfl))) S.nd))))
      (ss_one (sx_ret (mv 4)))))))))
theorem sc_is_name : FnScope ["thing", "sign"] ["thing"] (defScope (top 2)) := ⟨rfl, rfl, rfl, by decide +kernel, rfl, by decide +kernel, by decide +kernel⟩
theorem sim_is_name (T : Txt mg) (d : Df K mg "is_name" (top 2) ["thing"]) : Cal P w K mg base "is_name" 1 (m_is_name_50395) := by
  obtain ⟨t_LETTERS, g_LETTERS⟩ := T.g_LETTERS
  exact cal_mk (k := 0) d sc_is_name fun f cdv A outer s H E hr => by
   have tk : Takes (cxOf (L2.CX P w) P w K mg base ["thing", "sign"] "is_name" (defScope (top 2)) f cdv A outer s H E) (fun c d _ H' => E c d H') := takes_of rfl rfl rfl rfl
   have hu : (A.deeper (PyProof.Rows.envOfC "is_name" (defScope (top 2)) s.heap.objs.size f cdv)).units + 65 < cLine := by have := hr.un; omega
   have S := sc_is_name
   exact ss_cons (sx_if ((sw_or (st_not (st_val (se_isi (mv 0) T.b_isinstance T.b_str (by decide +kernel)))) (sw_or (st_cmp op_lt s2_lt (se_callB call_len sn_len (by rfl) T.b_len (by decide +kernel) (sa_cons (mv 0) (sa_nil))) (se_int) (nomark _)) (sw_or1 (st_cmp op_gt s2_gt (se_callB call_len sn_len (by rfl) T.b_len (by decide +kernel) (sa_cons (mv 0) (sa_nil))) (se_int) (nomark _))))).pt)
      (ss_one (sx_ret (se_bl)))
      (ss_nil))
      (ss_cons (sx_for (passes_of rfl) (si_iter (mv 0)) (sg_name (i := 1) S.nd)
      (ss_one (sx_if (st_cmp (op_notInA hu) s2_notIn (mv 1) (se_globS (by rfl) g_LETTERS) rfl)
      (ss_one (sx_ret (se_bl)))
      (ss_nil))))
      (ss_one (sx_ret (se_bl))))
theorem sc__law_told : FnScope ["_law_thing", "_law_due_here", "_law_found"] ["_law_thing", "_law_due_here"] (defScope (top 9)) := ⟨rfl, rfl, rfl, by decide +kernel, rfl, by decide +kernel, by decide +kernel⟩
theorem sim__law_told (T : Txt mg) (d : Df K mg "_law_told" (top 9) ["_law_thing", "_law_due_here"]) (c_is_name : Cal P w K mg base "is_name" 1 (m_is_name_50395)) : Cal P w K mg base "_law_told" 2 (m_told_ce275) := by
  exact cal_mk (k := 1) d sc__law_told fun f cdv A outer s H E hr => by
   have tk : Takes (cxOf (L2.CX P w) P w K mg base ["_law_thing", "_law_due_here", "_law_found"] "_law_told" (defScope (top 9)) f cdv A outer s H E) (fun c d _ H' => E c d H') := takes_of rfl rfl rfl rfl
   have hu : (A.deeper (PyProof.Rows.envOfC "_law_told" (defScope (top 9)) s.heap.objs.size f cdv)).units + 65 < cLine := by have := hr.un; omega
   have S := sc__law_told
   exact ss_cons (sx_set (i := 2) (se_callC c_is_name (hr.mono (by omega)) tk (sa_cons (mv 0) (sa_nil))) S.nd)
      (ss_one (sx_ret (se_and (se_isi (mv 2) T.b_isinstance T.b_bool (by decide +kernel)) (se_one (se_cmp (op_eqA hu) s2_eq (mv 2) (mv 1) (nomark _))))))
theorem sc__law_cell_at : FnScope ["_law_script", "_law_k", "_law_cell"] ["_law_script", "_law_k"] (defScope (top 4)) := ⟨rfl, rfl, rfl, by decide +kernel, rfl, by decide +kernel, by decide +kernel⟩
theorem sim__law_cell_at (T : Txt mg) (d : Df K mg "_law_cell_at" (top 4) ["_law_script", "_law_k"]) : Cal P w K mg base "_law_cell_at" 1 (m_cell_at_5ae90) := by
  exact cal_mk (k := 0) d sc__law_cell_at fun f cdv A outer s H E hr => by
   have tk : Takes (cxOf (L2.CX P w) P w K mg base ["_law_script", "_law_k", "_law_cell"] "_law_cell_at" (defScope (top 4)) f cdv A outer s H E) (fun c d _ H' => E c d H') := takes_of rfl rfl rfl rfl
   have hu : (A.deeper (PyProof.Rows.envOfC "_law_cell_at" (defScope (top 4)) s.heap.objs.size f cdv)).units + 65 < cLine := by have := hr.un; omega
   have S := sc__law_cell_at
   exact ss_cons (sx_set (i := 2) (se_int) S.nd)
      (ss_cons (sx_if (st_cmp op_lt s2_lt (mv 1) (se_callB call_len sn_len (by rfl) T.b_len (by decide +kernel) (sa_cons (mv 0) (sa_nil))) (nomark _))
      (ss_one (sx_set (i := 2) (se_callB call_abs sn_abs (by rfl) T.b_abs (by decide +kernel) (sa_cons (se_ix ix_seq s2_ix (mv 0) (mv 1) (fun _ _ => rfl)) (sa_nil))) S.nd))
      (ss_nil))
      (ss_cons (sx_if (st_cmp op_lt s2_lt (mv 2) (se_bin op_pow s2_pow (se_int) (se_int)) (nomark _))
      (ss_one (sx_ret (se_bin op_mod s2_mod (mv 2) (se_int))))
      (ss_nil))
      (ss_one (sx_ret (mv 2)))))
theorem sc__law_due : FnScope ["_law_word_here", "_law_sign"] ["_law_word_here"] (defScope (top 8)) := ⟨rfl, rfl, rfl, by decide +kernel, rfl, by decide +kernel, by decide +kernel⟩
theorem sim__law_due (T : Txt mg) (d : Df K mg "_law_due" (top 8) ["_law_word_here"]) : Cal P w K mg base "_law_due" 1 (m_due_ef749) := by
  exact cal_mk (k := 0) d sc__law_due fun f cdv A outer s H E hr => by
   have tk : Takes (cxOf (L2.CX P w) P w K mg base ["_law_word_here", "_law_sign"] "_law_due" (defScope (top 8)) f cdv A outer s H E) (fun c d _ H' => E c d H') := takes_of rfl rfl rfl rfl
   have hu : (A.deeper (PyProof.Rows.envOfC "_law_due" (defScope (top 8)) s.heap.objs.size f cdv)).units + 65 < cLine := by have := hr.un; omega
   have S := sc__law_due
   exact ss_cons (sx_if ((sw_or (st_cmp op_lt s2_lt (se_callB call_len sn_len (by rfl) T.b_len (by decide +kernel) (sa_cons (mv 0) (sa_nil))) (se_int) (nomark _)) (sw_or1 (st_cmp op_gt s2_gt (se_callB call_len sn_len (by rfl) T.b_len (by decide +kernel) (sa_cons (mv 0) (sa_nil))) (se_int) (nomark _)))).pt)
      (ss_one (sx_ret (se_bl)))
      (ss_nil))
      (ss_cons (sx_for (passes_of rfl) (si_iter (mv 0)) (sg_name (i := 1) S.nd)
      (ss_one (sx_if (st_cmp (op_notInA hu) s2_notIn (mv 1) (se_str) rfl)
      (ss_one (sx_ret (se_bl)))
      (ss_nil))))
      (ss_one (sx_ret (se_bl))))
theorem sc__law_spoiled : FnScope ["_law_word_here", "_law_cell", "_law_signs", "_law_at"] ["_law_word_here", "_law_cell"] (defScope (top 7)) := ⟨rfl, rfl, rfl, by decide +kernel, rfl, by decide +kernel, by decide +kernel⟩
theorem sim__law_spoiled (T : Txt mg) (d : Df K mg "_law_spoiled" (top 7) ["_law_word_here", "_law_cell"]) : Cal P w K mg base "_law_spoiled" 1 (m_spoiled_b8674) := by
  exact cal_mk (k := 0) d sc__law_spoiled fun f cdv A outer s H E hr => by
   have tk : Takes (cxOf (L2.CX P w) P w K mg base ["_law_word_here", "_law_cell", "_law_signs", "_law_at"] "_law_spoiled" (defScope (top 7)) f cdv A outer s H E) (fun c d _ H' => E c d H') := takes_of rfl rfl rfl rfl
   have hu : (A.deeper (PyProof.Rows.envOfC "_law_spoiled" (defScope (top 7)) s.heap.objs.size f cdv)).units + 65 < cLine := by have := hr.un; omega
   have S := sc__law_spoiled
   exact ss_cons (sx_set (i := 2) (se_str) S.nd)
      (ss_cons (sx_set (i := 2) (se_bin op_addA s2_add (mv 2) (se_str)) S.nd)
      (ss_cons (sx_set (i := 3) (se_bin op_mod s2_mod (se_bin op_fdivW s2_fdiv (mv 1) (se_int)) (se_bin op_addA s2_add (se_callB call_len sn_len (by rfl) T.b_len (by decide +kernel) (sa_cons (mv 0) (sa_nil))) (se_int))) S.nd)
      (ss_one (sx_ret (se_bin op_addA s2_add (se_bin op_addA s2_add (se_slice (mv 0) (sp_none) (sp_some (mv 3))) (se_ix ix_seq s2_ix (mv 2) (se_bin op_mod s2_mod (se_bin op_fdivW s2_fdiv (mv 1) (se_int)) (se_callB call_len sn_len (by rfl) T.b_len (by decide +kernel) (sa_cons (mv 2) (sa_nil)))) (fun _ _ => rfl))) (se_slice (mv 0) (sp_some (mv 3)) (sp_none)))))))
theorem sc__law_other : FnScope ["_law_word_here", "_law_cell", "_law_way"] ["_law_word_here", "_law_cell"] (defScope (top 10)) := ⟨rfl, rfl, rfl, by decide +kernel, rfl, by decide +kernel, by decide +kernel⟩
theorem sim__law_other (T : Txt mg) (d : Df K mg "_law_other" (top 10) ["_law_word_here", "_law_cell"]) : Cal P w K mg base "_law_other" 1 (m_other_17a03) := by
  exact cal_mk (k := 0) d sc__law_other fun f cdv A outer s H E hr => by
   have tk : Takes (cxOf (L2.CX P w) P w K mg base ["_law_word_here", "_law_cell", "_law_way"] "_law_other" (defScope (top 10)) f cdv A outer s H E) (fun c d _ H' => E c d H') := takes_of rfl rfl rfl rfl
   have hu : (A.deeper (PyProof.Rows.envOfC "_law_other" (defScope (top 10)) s.heap.objs.size f cdv)).units + 65 < cLine := by have := hr.un; omega
   have S := sc__law_other
   exact ss_cons (sx_set (i := 2) (se_bin op_mod s2_mod (mv 1) (se_int)) S.nd)
      (ss_cons (sx_if (st_cmp (op_eqA hu) s2_eq (mv 2) (se_int) (nomark _))
      (ss_one (sx_ret (se_bin op_mulA s2_mul (mv 1) (se_bin op_pow s2_pow (se_int) (se_int)))))
      (ss_nil))
      (ss_cons (sx_if (st_cmp (op_eqA hu) s2_eq (mv 2) (se_int) (nomark _))
      (ss_one (sx_ret (se_non)))
      (ss_nil))
      (ss_cons (sx_if (st_cmp (op_eqA hu) s2_eq (mv 2) (se_int) (nomark _))
      (ss_one (sx_ret (se_bl)))
      (ss_nil))
      (ss_cons (sx_if (st_cmp (op_eqA hu) s2_eq (mv 2) (se_int) (nomark _))
      (ss_one (sx_ret (se_lst (sa_cons (mv 0) (sa_nil)))))
      (ss_nil))
      (ss_cons (sx_if (st_cmp (op_eqA hu) s2_eq (mv 2) (se_int) (nomark _))
      (ss_one (sx_ret (se_tup (sa_cons (mv 0) (sa_nil)))))
      (ss_nil))
      (ss_cons (sx_if (st_cmp (op_eqA hu) s2_eq (mv 2) (se_int) (nomark _))
      (ss_one (sx_ret (se_tup (sa_cons (mv 0) (sa_cons (se_tup (sa_nil)) (sa_nil))))))
      (ss_nil))
      (ss_cons (sx_if (st_cmp (op_eqA hu) s2_eq (mv 2) (se_int) (nomark _))
      (ss_one (sx_ret (se_str)))
      (ss_nil))
      (ss_one (sx_ret (se_dict1 (mv 0) (se_bl)))))))))))
theorem sc_law : FnScope ["_law_script", "_law_first", "_law_k", "_law_cell", "_law_word_here", "_law_blend"] ["_law_script"] (defScope (top 11)) := ⟨rfl, rfl, rfl, by decide +kernel, rfl, by decide +kernel, by decide +kernel⟩
theorem sim_law {fa : Addr} {fd : FuncData} (T : Txt mg) (F : Fun K "law" "law" (top 11) fa fd) (c__law_word : Cal P w K mg base "_law_word" 2 (m_word_76749)) (c__law_cell_at : Cal P w K mg base "_law_cell_at" 1 (m_cell_at_5ae90)) (c__law_told : Cal P w K mg base "_law_told" 2 (m_told_ce275)) (c__law_due : Cal P w K mg base "_law_due" 1 (m_due_ef749)) (c__law_spoiled : Cal P w K mg base "_law_spoiled" 1 (m_spoiled_b8674)) (c__law_other : Cal P w K mg base "_law_other" 1 (m_other_17a03)) : FnOk P w K mg base (L2.CX P w) 3 fa fd ["_law_script"] (spM (gOf K) m_law_a0a13) := by
  exact fn_mk (k := 2) F sc_law fun cdv A outer s H E hr => by
   have tk : Takes (cxOf (L2.CX P w) P w K mg base ["_law_script", "_law_first", "_law_k", "_law_cell", "_law_word_here", "_law_blend"] "law" (defScope (top 11)) fa cdv A outer s H E) (fun c d _ H' => E c d H') := takes_of rfl rfl rfl rfl
   have hu : (A.deeper (PyProof.Rows.envOfC "law" (defScope (top 11)) s.heap.objs.size fa cdv)).units + 65 < cLine := by have := hr.un; omega
   have S := sc_law
   exact ss_cons (sx_set (i := 1) (se_callC c__law_word (hr.mono (by omega)) tk (sa_cons (se_callC c__law_cell_at (hr.mono (by omega)) tk (sa_cons (mv 0) (sa_cons (se_int) (sa_nil)))) (sa_nil))) S.nd)
      (ss_cons (sx_for (passes_of rfl) (si_range1 T.b_range (se_callB (call_min2 rfl) sn_min (by rfl) T.b_min (by decide +kernel) (sa_cons (se_int) (sa_cons (se_callB (call_max2 rfl) sn_max (by rfl) T.b_max (by decide +kernel) (sa_cons (se_int) (sa_cons (se_callB call_len sn_len (by rfl) T.b_len (by decide +kernel) (sa_cons (mv 0) (sa_nil))) (sa_nil)))) (sa_nil))))) (sg_name (i := 2) S.nd)
      (ss_cons (sx_set (i := 3) (se_callC c__law_cell_at (hr.mono (by omega)) tk (sa_cons (mv 0) (sa_cons (mv 2) (sa_nil)))) S.nd)
      (ss_cons (sx_set (i := 4) (se_callC c__law_word (hr.mono (by omega)) tk (sa_cons (mv 3) (sa_nil))) S.nd)
      (ss_cons (sx_if (st_not (st_val (se_callC c__law_told (hr.mono (by omega)) tk (sa_cons (mv 4) (sa_cons (se_callC c__law_due (hr.mono (by omega)) tk (sa_cons (mv 4) (sa_nil))) (sa_nil))))))
      (ss_one (sx_ret (se_bl)))
      (ss_nil))
      (ss_cons (sx_set (i := 5) (se_bin op_mod s2_mod (se_bin op_addA s2_add (se_bin op_mulA s2_mul (mv 3) (se_int)) (se_bin op_mulA s2_mul (mv 2) (mv 2))) (se_int)) S.nd)
      (ss_cons (sx_if (st_cmp (op_eqA hu) s2_eq (se_bin op_mod s2_mod (mv 5) (se_int)) (se_int) (nomark _))
      (ss_one (sx_set (i := 4) (se_callC c__law_spoiled (hr.mono (by omega)) tk (sa_cons (mv 4) (sa_cons (mv 5) (sa_nil)))) S.nd))
      (ss_nil))
      (ss_one (sx_if ((sw_or (st_not (st_val (se_callC c__law_told (hr.mono (by omega)) tk (sa_cons (mv 4) (sa_cons (se_callC c__law_due (hr.mono (by omega)) tk (sa_cons (mv 4) (sa_nil))) (sa_nil)))))) (sw_or1 (st_not (st_val (se_callC c__law_told (hr.mono (by omega)) tk (sa_cons (se_callC c__law_other (hr.mono (by omega)) tk (sa_cons (mv 4) (sa_cons (se_bin op_fdivW s2_fdiv (mv 5) (se_int)) (sa_nil)))) (sa_cons (se_bl) (sa_nil)))))))).pt)
      (ss_one (sx_ret (se_bl)))
      (ss_nil)))))))))
      (ss_one (sx_ret (se_callC c__law_told (hr.mono (by omega)) tk (sa_cons (mv 1) (sa_cons (se_callC c__law_due (hr.mono (by omega)) tk (sa_cons (mv 1) (sa_nil))) (sa_nil)))))))
end
theorem all_mk {l : PySem.W.OpenLaw} {w : World} {K : PySem.W.Frag} {h : Heap} {mg : Str → Option Value} {fa : Addr} (X : K.In h) (G : h.Ns mainGlobals mg) (hfa : mg "law" = some (.ref fa))
    {f0 : Addr} {od0 an0 : Option Addr} {sl0 : Array (Option Value)} {oc0 kV0 dc0 pm0 cd0 ct0 : Value} {f1 : Addr} {od1 an1 : Option Addr} {sl1 : Array (Option Value)} {oc1 kV1 dc1 pm1 cd1 ct1 : Value} {f2 : Addr} {od2 an2 : Option Addr} {sl2 : Array (Option Value)} {oc2 kV2 dc2 pm2 cd2 ct2 : Value} {f3 : Addr} {od3 an3 : Option Addr} {sl3 : Array (Option Value)} {oc3 kV3 dc3 pm3 cd3 ct3 : Value} {f4 : Addr} {od4 an4 : Option Addr} {sl4 : Array (Option Value)} {oc4 kV4 dc4 pm4 cd4 ct4 : Value} {f5 : Addr} {od5 an5 : Option Addr} {sl5 : Array (Option Value)} {oc5 kV5 dc5 pm5 cd5 ct5 : Value} {f6 : Addr} {od6 an6 : Option Addr} {sl6 : Array (Option Value)} {oc6 kV6 dc6 pm6 cd6 ct6 : Value} {f7 : Addr} {od7 an7 : Option Addr} {sl7 : Array (Option Value)} {oc7 kV7 dc7 pm7 cd7 ct7 : Value} {f8 : Addr} {od8 an8 : Option Addr} {sl8 : Array (Option Value)} {oc8 kV8 dc8 pm8 cd8 ct8 : Value} {tz_LETTERS : Tok}
    (a0 : PySem.W.nsIn K mainGlobals "_law_signed_word" = some (some (.ref f0))) (l0 : K.lookup f0 = some ⟨oc0, od0, .func (PySem.W.fnOf "_law_signed_word" "_law_signed_word" (defArgs (top 5)) (defBody (top 5)) (defScope (top 5)) .none kV0 dc0 pm0 an0 cd0 ct0), sl0⟩) (e0 : PySem.W.codeIn K cd0 "_law_signed_word" = true) (k0 : PySem.W.keepIn K (.ref f0) = true)
    (a1 : PySem.W.nsIn K mainGlobals "_law_word" = some (some (.ref f1))) (l1 : K.lookup f1 = some ⟨oc1, od1, .func (PySem.W.fnOf "_law_word" "_law_word" (defArgs (top 6)) (defBody (top 6)) (defScope (top 6)) .none kV1 dc1 pm1 an1 cd1 ct1), sl1⟩) (e1 : PySem.W.codeIn K cd1 "_law_word" = true) (k1 : PySem.W.keepIn K (.ref f1) = true)
    (a2 : PySem.W.nsIn K mainGlobals "is_name" = some (some (.ref f2))) (l2 : K.lookup f2 = some ⟨oc2, od2, .func (PySem.W.fnOf "is_name" "is_name" (defArgs (top 2)) (defBody (top 2)) (defScope (top 2)) .none kV2 dc2 pm2 an2 cd2 ct2), sl2⟩) (e2 : PySem.W.codeIn K cd2 "is_name" = true) (k2 : PySem.W.keepIn K (.ref f2) = true)
    (a3 : PySem.W.nsIn K mainGlobals "_law_told" = some (some (.ref f3))) (l3 : K.lookup f3 = some ⟨oc3, od3, .func (PySem.W.fnOf "_law_told" "_law_told" (defArgs (top 9)) (defBody (top 9)) (defScope (top 9)) .none kV3 dc3 pm3 an3 cd3 ct3), sl3⟩) (e3 : PySem.W.codeIn K cd3 "_law_told" = true) (k3 : PySem.W.keepIn K (.ref f3) = true)
    (a4 : PySem.W.nsIn K mainGlobals "_law_cell_at" = some (some (.ref f4))) (l4 : K.lookup f4 = some ⟨oc4, od4, .func (PySem.W.fnOf "_law_cell_at" "_law_cell_at" (defArgs (top 4)) (defBody (top 4)) (defScope (top 4)) .none kV4 dc4 pm4 an4 cd4 ct4), sl4⟩) (e4 : PySem.W.codeIn K cd4 "_law_cell_at" = true) (k4 : PySem.W.keepIn K (.ref f4) = true)
    (a5 : PySem.W.nsIn K mainGlobals "_law_due" = some (some (.ref f5))) (l5 : K.lookup f5 = some ⟨oc5, od5, .func (PySem.W.fnOf "_law_due" "_law_due" (defArgs (top 8)) (defBody (top 8)) (defScope (top 8)) .none kV5 dc5 pm5 an5 cd5 ct5), sl5⟩) (e5 : PySem.W.codeIn K cd5 "_law_due" = true) (k5 : PySem.W.keepIn K (.ref f5) = true)
    (a6 : PySem.W.nsIn K mainGlobals "_law_spoiled" = some (some (.ref f6))) (l6 : K.lookup f6 = some ⟨oc6, od6, .func (PySem.W.fnOf "_law_spoiled" "_law_spoiled" (defArgs (top 7)) (defBody (top 7)) (defScope (top 7)) .none kV6 dc6 pm6 an6 cd6 ct6), sl6⟩) (e6 : PySem.W.codeIn K cd6 "_law_spoiled" = true) (k6 : PySem.W.keepIn K (.ref f6) = true)
    (a7 : PySem.W.nsIn K mainGlobals "_law_other" = some (some (.ref f7))) (l7 : K.lookup f7 = some ⟨oc7, od7, .func (PySem.W.fnOf "_law_other" "_law_other" (defArgs (top 10)) (defBody (top 10)) (defScope (top 10)) .none kV7 dc7 pm7 an7 cd7 ct7), sl7⟩) (e7 : PySem.W.codeIn K cd7 "_law_other" = true) (k7 : PySem.W.keepIn K (.ref f7) = true)
    (a8 : PySem.W.nsIn K mainGlobals "law" = some (some (.ref f8))) (l8 : K.lookup f8 = some ⟨oc8, od8, .func (PySem.W.fnOf "law" "law" (defArgs (top 11)) (defBody (top 11)) (defScope (top 11)) .none kV8 dc8 pm8 an8 cd8 ct8), sl8⟩) (e8 : PySem.W.codeIn K cd8 "law" = true) (k8 : PySem.W.keepIn K (.ref f8) = true)
    (zb_abs : PySem.W.nsIn K mainGlobals "abs" = some none)
    (zb_bool : PySem.W.nsIn K mainGlobals "bool" = some none)
    (zb_isinstance : PySem.W.nsIn K mainGlobals "isinstance" = some none)
    (zb_len : PySem.W.nsIn K mainGlobals "len" = some none)
    (zb_max : PySem.W.nsIn K mainGlobals "max" = some none)
    (zb_min : PySem.W.nsIn K mainGlobals "min" = some none)
    (zb_range : PySem.W.nsIn K mainGlobals "range" = some none)
    (zb_str : PySem.W.nsIn K mainGlobals "str" = some none)
    (zg_LETTERS : PySem.W.nsIn K mainGlobals "LETTERS" = some (some (.str (Str.ofString "abcdefghijklmnopqrstuvwxyz") tz_LETTERS))) :
    ∃ fd : FuncData, (∀ (s : Shared) (v : Value), BindsTo s fd ⟨[v], []⟩ [("_law_script", v)]) ∧ ∀ base : Heap, K.In base → base.Ns mainGlobals mg → FnOk l.prog w K mg base (L2.CX l.prog w) 3 fa fd ["_law_script"] (spM (gOf K) m_law_a0a13) := by
  have T : Txt mg := ⟨PySem.W.mg_none_of X G zb_abs, PySem.W.mg_none_of X G zb_bool, PySem.W.mg_none_of X G zb_isinstance, PySem.W.mg_none_of X G zb_len, PySem.W.mg_none_of X G zb_max, PySem.W.mg_none_of X G zb_min, PySem.W.mg_none_of X G zb_range, PySem.W.mg_none_of X G zb_str, ⟨_, PySem.W.mg_of X G zg_LETTERS⟩⟩
  have d0 : Df K mg "_law_signed_word" (top 5) ["_law_rest", "_law_long"] := df_mk X G a0 l0 e0 k0 fun _ _ _ _ _ _ us hl => match us, hl with | [_, _], _ => rfl
  have c0 : ∀ base : Heap, Cal l.prog w K mg base "_law_signed_word" 1 (m_signed_word_3d1e6) := fun base => sim__law_signed_word T d0
  have d1 : Df K mg "_law_word" (top 6) ["_law_cell"] := df_mk X G a1 l1 e1 k1 fun _ _ _ _ _ _ us hl => match us, hl with | [_], _ => rfl
  have c1 : ∀ base : Heap, Cal l.prog w K mg base "_law_word" 2 (m_word_76749) := fun base => sim__law_word T d1 (c0 base)
  have d2 : Df K mg "is_name" (top 2) ["thing"] := df_mk X G a2 l2 e2 k2 fun _ _ _ _ _ _ us hl => match us, hl with | [_], _ => rfl
  have c2 : ∀ base : Heap, Cal l.prog w K mg base "is_name" 1 (m_is_name_50395) := fun base => sim_is_name T d2
  have d3 : Df K mg "_law_told" (top 9) ["_law_thing", "_law_due_here"] := df_mk X G a3 l3 e3 k3 fun _ _ _ _ _ _ us hl => match us, hl with | [_, _], _ => rfl
  have c3 : ∀ base : Heap, Cal l.prog w K mg base "_law_told" 2 (m_told_ce275) := fun base => sim__law_told T d3 (c2 base)
  have d4 : Df K mg "_law_cell_at" (top 4) ["_law_script", "_law_k"] := df_mk X G a4 l4 e4 k4 fun _ _ _ _ _ _ us hl => match us, hl with | [_, _], _ => rfl
  have c4 : ∀ base : Heap, Cal l.prog w K mg base "_law_cell_at" 1 (m_cell_at_5ae90) := fun base => sim__law_cell_at T d4
  have d5 : Df K mg "_law_due" (top 8) ["_law_word_here"] := df_mk X G a5 l5 e5 k5 fun _ _ _ _ _ _ us hl => match us, hl with | [_], _ => rfl
  have c5 : ∀ base : Heap, Cal l.prog w K mg base "_law_due" 1 (m_due_ef749) := fun base => sim__law_due T d5
  have d6 : Df K mg "_law_spoiled" (top 7) ["_law_word_here", "_law_cell"] := df_mk X G a6 l6 e6 k6 fun _ _ _ _ _ _ us hl => match us, hl with | [_, _], _ => rfl
  have c6 : ∀ base : Heap, Cal l.prog w K mg base "_law_spoiled" 1 (m_spoiled_b8674) := fun base => sim__law_spoiled T d6
  have d7 : Df K mg "_law_other" (top 10) ["_law_word_here", "_law_cell"] := df_mk X G a7 l7 e7 k7 fun _ _ _ _ _ _ us hl => match us, hl with | [_, _], _ => rfl
  have c7 : ∀ base : Heap, Cal l.prog w K mg base "_law_other" 1 (m_other_17a03) := fun base => sim__law_other T d7
  have ea := hfa.symm.trans (PySem.W.mg_of X G a8)
  cases ea
  have F := fun_mk (st := top 11) l8 e8 k8
  exact ⟨PySem.W.fnOf "law" "law" (defArgs (top 11)) (defBody (top 11)) (defScope (top 11)) .none kV8 dc8 pm8 an8 cd8 ct8, fun s v => .of_eq rfl, fun base _ _ => sim_law T F (c1 base) (c4 base) (c3 base) (c5 base) (c6 base) (c7 base)⟩
end Sk01

open PySem PySem.W PyProof.Rows
set_option maxRecDepth 100000 in
set_option maxHeartbeats 0 in
theorem PySem.Challenge.cw_graftform_k01_names_told_holds : PySem.Challenge.rw_graftform_k01_names_told.Holds := by
  w_on; o_law; k_head; (case hw => w_witness2)
  k_fill
  refine Mi.law_end (l := PySem.Challenge.rw_graftform_k01_names_told) (k := 3) (x := "_law_script") (F := Mi.m_law_a0a13) Mi.main_k01 rfl rfl ⟨rfl, by decide, by decide⟩ (fun w h Y => PySem.W.kIn_of Y) ?F
  case F =>
    intro w mg fa h KX G hmg
    refine' Sk01.all_mk KX G hmg ?a0 ?l0 ?e0 ?k0 ?a1 ?l1 ?e1 ?k1 ?a2 ?l2 ?e2 ?k2 ?a3 ?l3 ?e3 ?k3 ?a4 ?l4 ?e4 ?k4 ?a5 ?l5 ?e5 ?k5 ?a6 ?l6 ?e6 ?k6 ?a7 ?l7 ?e7 ?k7 ?a8 ?l8 ?e8 ?k8 ?zb_abs ?zb_bool ?zb_isinstance ?zb_len ?zb_max ?zb_min ?zb_range ?zb_str ?zg_LETTERS
    (case a0 => k_is)
    (case l0 => k_is)
    (case e0 => k_is)
    (case k0 => k_is)
    (case a1 => k_is)
    (case l1 => k_is)
    (case e1 => k_is)
    (case k1 => k_is)
    (case a2 => k_is)
    (case l2 => k_is)
    (case e2 => k_is)
    (case k2 => k_is)
    (case a3 => k_is)
    (case l3 => k_is)
    (case e3 => k_is)
    (case k3 => k_is)
    (case a4 => k_is)
    (case l4 => k_is)
    (case e4 => k_is)
    (case k4 => k_is)
    (case a5 => k_is)
    (case l5 => k_is)
    (case e5 => k_is)
    (case k5 => k_is)
    (case a6 => k_is)
    (case l6 => k_is)
    (case e6 => k_is)
    (case k6 => k_is)
    (case a7 => k_is)
    (case l7 => k_is)
    (case e7 => k_is)
    (case k7 => k_is)
    (case a8 => k_is)
    (case l8 => k_is)
    (case e8 => k_is)
    (case k8 => k_is)
    (case zb_abs => k_is)
    (case zb_bool => k_is)
    (case zb_isinstance => k_is)
    (case zb_len => k_is)
    (case zb_max => k_is)
    (case zb_min => k_is)
    (case zb_range => k_is)
    (case zb_str => k_is)
    (case zg_LETTERS => k_is)

