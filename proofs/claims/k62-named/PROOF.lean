import PyProof.Rows.All
import Wide.All
import OpenK.AllK
import Wide.FinOn
import HandS.ForMost
import HandS.Exc
import HandS.TryOnly
import HandS.ExcOwn
import HandS.WordsExc
import HandS.Wide
import HandS.WideBits
import HandS.EndBits
import HandS.IsInst
import HandS.TupAny
import HandS.Style
import HandS.RevRange
import HandS.Deep
import HandS.Strs
import HandS.Conv
import HandS.Flow
import HandS.DeepEq
import KE.KeyNested
import HandS.ExcInit
import HandS.ExcIs
import HandS.ExcField
import KE.KExcIs
import HandS.Iter
import HandS.TupMul
import HandS.Zip
import HandS.Defaults
import HandS.CallSlots
import KE.KDictSum
import KE.SortData
import HandS.ExcValue
import HandS.Text
import HandS.SetFor
import HandS.TupSets
import KE.KDictPairs
import PyProof.Rows.TupTab
import HandS.More
import HandS.ClsMeth
import PySem.Challenge.RW_graftform_k62_a_name_given
set_option Elab.async false
set_option linter.all false
set_option maxRecDepth 100000
set_option maxHeartbeats 4000000
/-! Mir: each def of the program as a Lean function over plain values (tuples by value, lists, dicts, instances in a heap of their own, numbered), and the proof that the def does what the function says. -/
namespace Mi
open PySem L2

inductive D where
  | non | bl (b : Bool) | int (i : Int) | str (x : Str) | tup (l : List D) | ref (i : Nat) | xo (c f : Str) (v : D)
mutual
def D.dec : (a b : D) → Decidable (a = b)
  | .non, .non => .isTrue rfl
  | .non, .bl _ => .isFalse (fun e => nomatch e)
  | .non, .int _ => .isFalse (fun e => nomatch e)
  | .non, .str _ => .isFalse (fun e => nomatch e)
  | .non, .tup _ => .isFalse (fun e => nomatch e)
  | .non, .ref _ => .isFalse (fun e => nomatch e)
  | .bl _, .non => .isFalse (fun e => nomatch e)
  | .bl a, .bl b => if h : a = b then .isTrue (by rw [h]) else .isFalse (fun e => h (D.bl.inj e))
  | .bl _, .int _ => .isFalse (fun e => nomatch e)
  | .bl _, .str _ => .isFalse (fun e => nomatch e)
  | .bl _, .tup _ => .isFalse (fun e => nomatch e)
  | .bl _, .ref _ => .isFalse (fun e => nomatch e)
  | .int _, .non => .isFalse (fun e => nomatch e)
  | .int _, .bl _ => .isFalse (fun e => nomatch e)
  | .int a, .int b => if h : a = b then .isTrue (by rw [h]) else .isFalse (fun e => h (D.int.inj e))
  | .int _, .str _ => .isFalse (fun e => nomatch e)
  | .int _, .tup _ => .isFalse (fun e => nomatch e)
  | .int _, .ref _ => .isFalse (fun e => nomatch e)
  | .str _, .non => .isFalse (fun e => nomatch e)
  | .str _, .bl _ => .isFalse (fun e => nomatch e)
  | .str _, .int _ => .isFalse (fun e => nomatch e)
  | .str a, .str b => if h : a = b then .isTrue (by rw [h]) else .isFalse (fun e => h (D.str.inj e))
  | .str _, .tup _ => .isFalse (fun e => nomatch e)
  | .str _, .ref _ => .isFalse (fun e => nomatch e)
  | .tup _, .non => .isFalse (fun e => nomatch e)
  | .tup _, .bl _ => .isFalse (fun e => nomatch e)
  | .tup _, .int _ => .isFalse (fun e => nomatch e)
  | .tup _, .str _ => .isFalse (fun e => nomatch e)
  | .tup a, .tup b => match D.decs a b with
    | .isTrue h => .isTrue (by rw [h])
    | .isFalse h => .isFalse (fun e => h (D.tup.inj e))
  | .tup _, .ref _ => .isFalse (fun e => nomatch e)
  | .ref _, .non => .isFalse (fun e => nomatch e)
  | .ref _, .bl _ => .isFalse (fun e => nomatch e)
  | .ref _, .int _ => .isFalse (fun e => nomatch e)
  | .ref _, .str _ => .isFalse (fun e => nomatch e)
  | .ref _, .tup _ => .isFalse (fun e => nomatch e)
  | .ref a, .ref b => if h : a = b then .isTrue (by rw [h]) else .isFalse (fun e => h (D.ref.inj e))
  | .non, .xo _ _ _ => .isFalse (fun e => nomatch e)
  | .xo _ _ _, .non => .isFalse (fun e => nomatch e)
  | .bl _, .xo _ _ _ => .isFalse (fun e => nomatch e)
  | .xo _ _ _, .bl _ => .isFalse (fun e => nomatch e)
  | .int _, .xo _ _ _ => .isFalse (fun e => nomatch e)
  | .xo _ _ _, .int _ => .isFalse (fun e => nomatch e)
  | .str _, .xo _ _ _ => .isFalse (fun e => nomatch e)
  | .xo _ _ _, .str _ => .isFalse (fun e => nomatch e)
  | .tup _, .xo _ _ _ => .isFalse (fun e => nomatch e)
  | .xo _ _ _, .tup _ => .isFalse (fun e => nomatch e)
  | .ref _, .xo _ _ _ => .isFalse (fun e => nomatch e)
  | .xo _ _ _, .ref _ => .isFalse (fun e => nomatch e)
  | .xo c f v, .xo c' f' v' => match D.dec v v' with
    | .isTrue h => if k : c = c' ∧ f = f' then .isTrue (by rw [h, k.1, k.2]) else .isFalse (fun e => by cases e; exact k ⟨rfl, rfl⟩)
    | .isFalse h => .isFalse (fun e => by cases e; exact h rfl)
def D.decs : (a b : List D) → Decidable (a = b)
  | [], [] => .isTrue rfl
  | [], _ :: _ => .isFalse (fun e => nomatch e)
  | _ :: _, [] => .isFalse (fun e => nomatch e)
  | a :: r, b :: s => match D.dec a b, D.decs r s with
    | .isTrue h, .isTrue k => .isTrue (by rw [h, k])
    | .isFalse h, _ => .isFalse (fun e => h (List.cons.inj e).1)
    | _, .isFalse k => .isFalse (fun e => k (List.cons.inj e).2)
end
instance : DecidableEq D := D.dec

inductive MO where
  | lst (l : List D) | rol (l : List D) | dK (kvs : List (Key × D)) | ins (c : Str) (fs : List (Str × D)) | dN (kvs : List (NestedKey × D))
deriving DecidableEq

abbrev MH := List MO
abbrev Slots := List (Option D)

inductive R (α : Type) where
  | ok (a : α) (h : MH) | exc (x : Str) (fs : List (Str × D)) (h : MH) | bad

def R.bind {α β : Type} (r : R α) (f : α → MH → R β) : R β := match r with
  | .ok a h => f a h
  | .exc x fs h => .exc x fs h
  | .bad => .bad
/-- the written part, the classes by name -/
structure G where
  K : PySem.W.Frag
  cm : Str → Option Addr
  w : World

/-! ### values and the heap -/
/-- a tuple that is known to the object: it has no dict of its own -/
def Tk (K : PySem.W.Frag) (H : Hp) (p : Addr) (xs : List V) : Prop :=
  (∃ ob : Obj, ob.dict = none ∧ H p = some (.frz ob (.tup xs))) ∨ ∃ (ob : Obj) (ws : Array Value) (n : Nat), K.lookup p = some ob ∧ ob.cls = .type "tuple" ∧ ob.dict = none ∧ ob.data = .seq ws n ∧ ws.size ≤ sizeLine ∧ Vals xs ws.toList
theorem Tk.sq {K : PySem.W.Frag} {H : Hp} {p : Addr} {xs : List V} (h : Tk K H p xs) : SqT K H p xs := by
  rcases h with ⟨ob, _, h⟩ | ⟨ob, ws, n, h1, h2, _, h3⟩
  · exact .inl (.inr ⟨ob, h⟩)
  · exact .inr ⟨ob, ws, n, h1, h2, h3⟩
/-- an exception that is kept: its class, its dict -/
def XOk (C : Addr) (d : Option Addr) (a : Addr) : HO := .ext fun h => ∃ (oe : Obj) (vs : Array Value), h.get? a = some oe ∧ Zc (.ref C) d oe ∧ oe.data = .fields vs
def isX (p : Addr) (u : HO) : Prop := (∃ C d, u = XOk C d p) ∨ ∃ fs, u = .xd fs
mutual
inductive VR (g : G) (H : Hp) (μ : List Addr) : V → D → Prop
  | non : VR g H μ .non .non
  | bl (b : Bool) : VR g H μ (.bl b) (.bl b)
  | int (i : Int) : VR g H μ (.int i) (.int i)
  | str (x : Str) : VR g H μ (.str x) (.str x)
  | ref {p : Addr} {i : Nat} : μ[i]? = some p → VR g H μ (.ref p) (.ref i)
  | tup {p : Addr} {xs : List V} {ds : List D} : Tk g.K H p xs → VRs g H μ xs ds → VR g H μ (.ref p) (.tup ds)
  | xo {p C : Addr} {d : Option Addr} {c f : Str} {v : V} {dv : D} : H p = some (XOk C d p) → g.cm c = some C → ((f = Str.ofString "" ∧ d = none) ∨ ∃ dd fv, d = some dd ∧ H dd = some (.xd fv) ∧ fv.lookup f = some v) → VR g H μ v dv → VR g H μ (.ref p) (.xo c f dv)
inductive VRs (g : G) (H : Hp) (μ : List Addr) : List V → List D → Prop
  | nil : VRs g H μ [] []
  | cons {v : V} {d : D} {vs : List V} {ds : List D} : VR g H μ v d → VRs g H μ vs ds → VRs g H μ (v :: vs) (d :: ds)
end
mutual
/-- a thing as a key -/
def nkD : D → Option NestedKey
  | .non => some .none
  | .bl b => some (.num (if b = true then 1 else 0))
  | .int i => some (.num i)
  | .str x => some (.text x)
  | .tup l => (nkDs l).map NestedKey.tup
  | .ref _ => none
  | .xo _ _ _ => none
def nkDs : List D → Option (List NestedKey)
  | [] => some []
  | d :: l => match nkD d, nkDs l with
    | some k, some ks => some (k :: ks)
    | _, _ => none
end
/-- a dict whose keys are tuples -/
def DN (w : World) (a : Addr) (xs : List (NestedKey × Addr × Value)) : HO := .ext fun h => xs.length ≤ sizeLine ∧ (a == sysModules) = false ∧ ∃ o es ep, h.get? a = some o ∧ o.ExactDict ∧ o.data = .dict es ep ∧ es.toList = xs.map (fun x => ⟨x.1.hash w, .ref x.2.1, x.2.2⟩) ∧ (xs.map (·.1)).Nodup
inductive NR (g : G) (H : Hp) (μ : List Addr) : List (NestedKey × Addr × Value) → List (NestedKey × D) → Prop
  | nil : NR g H μ [] []
  | cons {k : NestedKey} {a : Addr} {u : Value} {e d : D} {v : V} {xs : List (NestedKey × Addr × Value)} {ds : List (NestedKey × D)} : VR g H μ (.ref a) e → nkD e = some k → k.depth ≤ 8 → RelV v u → VR g H μ v d → NR g H μ xs ds → NR g H μ ((k, a, u) :: xs) ((k, d) :: ds)
inductive KR {κ : Type} (g : G) (H : Hp) (μ : List Addr) : List (κ × V) → List (κ × D) → Prop
  | nil : KR g H μ [] []
  | cons {k : κ} {v : V} {d : D} {vs : List (κ × V)} {ds : List (κ × D)} : VR g H μ v d → KR g H μ vs ds → KR g H μ ((k, v) :: vs) ((k, d) :: ds)
inductive SR (g : G) (H : Hp) (μ : List Addr) : List (Option V) → Slots → Prop
  | nil : SR g H μ [] []
  | no {o : Option V} {σ : List (Option V)} {ρ : Slots} : SR g H μ σ ρ → SR g H μ (o :: σ) (none :: ρ)
  | yes {v : V} {d : D} {σ : List (Option V)} {ρ : Slots} : VR g H μ v d → SR g H μ σ ρ → SR g H μ (some v :: σ) (some d :: ρ)

/-- a list that is only read -/
def Lk (K : PySem.W.Frag) (H : Hp) (a : Addr) (xs : List V) : Prop :=
  (∃ o, H a = some (.frz o (.lst xs))) ∨ ∃ (o : Obj) (its : Array Value) (n : Nat), K.lookup a = some o ∧ o.cls = .type "list" ∧ o.dict = none ∧ o.data = .seq its n ∧ its.size ≤ sizeLine ∧ Vals xs its.toList
theorem Lk.sq {K : PySem.W.Frag} {H : Hp} {a : Addr} {xs : List V} (h : Lk K H a xs) : SqL K H a xs := by
  rcases h with ⟨o, h⟩ | h
  · exact .inl (.inr ⟨o, h⟩)
  · exact .inr h

def OR (g : G) (H : Hp) (μ : List Addr) (p : Addr) : MO → Prop
  | .lst ds => ∃ xs, H p = some (.lst xs) ∧ VRs g H μ xs ds
  | .rol ds => ∃ xs, Lk g.K H p xs ∧ VRs g H μ xs ds
  | .dK kvs => ∃ kv, H p = some (.dK kv) ∧ KR g H μ kv kvs
  | .ins c fs => ∃ C dx fv, H p = some (.ins C dx fv) ∧ g.cm c = some C ∧ KR g H μ fv fs
  | .dN kvs => ∃ xs, H p = some (DN g.w p xs) ∧ NR g H μ xs kvs
def isMut : MO → Bool
  | .rol _ => false
  | _ => true
structure HR (g : G) (H : Hp) (μ : List Addr) (h : MH) : Prop where
  len : μ.length = h.length
  ob : ∀ (i : Nat) (p : Addr) (o : MO), μ[i]? = some p → h[i]? = some o → OR g H μ p o
  nd : ∀ (i j : Nat) (p : Addr) (o u : MO), μ[i]? = some p → μ[j]? = some p → h[i]? = some o → h[j]? = some u → isMut o = true → isMut u = true → i = j

/-- what stands stands on: the tuples, the numbering -/
structure Mon (g : G) (H H' : Hp) (μ μ' : List Addr) : Prop where
  pre : μ <+: μ'
  tups : ∀ p xs, Tk g.K H p xs → Tk g.K H' p xs
  xs : ∀ p u, isX p u → H p = some u → H' p = some u
section
variable {g : G} {H H1 H2 : Hp} {μ μ1 μ2 : List Addr}
theorem Mon.refl : Mon g H H μ μ := ⟨List.prefix_rfl, fun _ _ h => h, fun _ _ _ h => h⟩
theorem Mon.trans (a : Mon g H H1 μ μ1) (b : Mon g H1 H2 μ1 μ2) : Mon g H H2 μ μ2 := ⟨a.pre.trans b.pre, fun p xs h => b.tups p xs (a.tups p xs h), fun p u x h => b.xs p u x (a.xs p u x h)⟩
theorem Mon.ix (m : Mon g H H1 μ μ1) {i : Nat} {p : Addr} (h : μ[i]? = some p) : μ1[i]? = some p := by
  obtain ⟨t, rfl⟩ := m.pre
  rw [List.getElem?_append_left (List.getElem?_eq_some_iff.mp h).1]
  exact h
mutual
theorem VR.mono (m : Mon g H H1 μ μ1) : ∀ {v : V} {d : D}, VR g H μ v d → VR g H1 μ1 v d
  | _, _, .non => .non
  | _, _, .bl b => .bl b
  | _, _, .int i => .int i
  | _, _, .str x => .str x
  | _, _, .ref h => .ref (m.ix h)
  | _, _, .tup h hs => .tup (m.tups _ _ h) (VRs.mono m hs)
  | _, _, .xo h c f v => .xo (m.xs _ _ (.inl ⟨_, _, rfl⟩) h) c (by
      rcases f with f | ⟨dd, fv, e1, e2, e3⟩
      · exact .inl f
      · exact .inr ⟨dd, fv, e1, m.xs _ _ (.inr ⟨_, rfl⟩) e2, e3⟩) (VR.mono m v)
theorem VRs.mono (m : Mon g H H1 μ μ1) : ∀ {vs : List V} {ds : List D}, VRs g H μ vs ds → VRs g H1 μ1 vs ds
  | _, _, .nil => .nil
  | _, _, .cons a b => .cons (VR.mono m a) (VRs.mono m b)
end
theorem KR.mono {κ : Type} (m : Mon g H H1 μ μ1) : ∀ {vs : List (κ × V)} {ds : List (κ × D)}, KR g H μ vs ds → KR g H1 μ1 vs ds
  | _, _, .nil => .nil
  | _, _, .cons a b => .cons (a.mono m) (KR.mono m b)
theorem NR.mono (m : Mon g H H1 μ μ1) : ∀ {xs : List (NestedKey × Addr × Value)} {ds : List (NestedKey × D)}, NR g H μ xs ds → NR g H1 μ1 xs ds
  | _, _, .nil => .nil
  | _, _, .cons a e l r v b => .cons (a.mono m) e l r (v.mono m) (NR.mono m b)
theorem SR.mono (m : Mon g H H1 μ μ1) : ∀ {σ : List (Option V)} {ρ : Slots}, SR g H μ σ ρ → SR g H1 μ1 σ ρ
  | _, _, .nil => .nil
  | _, _, .no b => .no (SR.mono m b)
  | _, _, .yes a b => .yes (a.mono m) (SR.mono m b)
theorem VRs.length : ∀ {vs : List V} {ds : List D}, VRs g H μ vs ds → vs.length = ds.length
  | _, _, .nil => rfl
  | _, _, .cons _ b => by rw [List.length_cons, List.length_cons, VRs.length b]
theorem VRs.get : ∀ {vs : List V} {ds : List D} {i : Nat} {d : D}, VRs g H μ vs ds → ds[i]? = some d → ∃ v, vs[i]? = some v ∧ VR g H μ v d
  | _, _, _, _, .nil, e => by simp at e
  | _, _, 0, _, .cons a _, e => by
    simp only [List.getElem?_cons_zero, Option.some.injEq] at e
    subst e
    exact ⟨_, rfl, a⟩
  | _, _, i + 1, _, .cons _ b, e => by
    obtain ⟨v, h1, h2⟩ := VRs.get (i := i) b (by simpa using e)
    exact ⟨v, by simpa using h1, h2⟩
theorem VRs.append : ∀ {vs ws : List V} {ds es : List D}, VRs g H μ vs ds → VRs g H μ ws es → VRs g H μ (vs ++ ws) (ds ++ es)
  | _, _, _, _, .nil, h => h
  | _, _, _, _, .cons a b, h => .cons a (VRs.append b h)
theorem VRs.take (n : Nat) : ∀ {vs : List V} {ds : List D}, VRs g H μ vs ds → VRs g H μ (vs.take n) (ds.take n) := by
  induction n with
  | zero => intro vs ds _; simp only [List.take_zero]; exact .nil
  | succ n ih =>
    intro vs ds h
    cases h with
    | nil => simp only [List.take_nil]; exact .nil
    | cons a b => simp only [List.take_succ_cons]; exact .cons a (ih b)
theorem VRs.drop (n : Nat) : ∀ {vs : List V} {ds : List D}, VRs g H μ vs ds → VRs g H μ (vs.drop n) (ds.drop n) := by
  induction n with
  | zero => intro vs ds h; exact h
  | succ n ih =>
    intro vs ds h
    cases h with
    | nil => simp only [List.drop_nil]; exact .nil
    | cons a b => simp only [List.drop_succ_cons]; exact ih b
theorem VRs.set (i : Nat) {v : V} {d : D} (r : VR g H μ v d) : ∀ {vs : List V} {ds : List D}, VRs g H μ vs ds → VRs g H μ (vs.set i v) (ds.set i d) := by
  induction i with
  | zero =>
    intro vs ds h
    cases h with
    | nil => exact .nil
    | cons a b => exact .cons r b
  | succ n ih =>
    intro vs ds h
    cases h with
    | nil => exact .nil
    | cons a b => exact .cons a (ih b)
theorem VRs.reverse : ∀ {vs : List V} {ds : List D}, VRs g H μ vs ds → VRs g H μ vs.reverse ds.reverse
  | _, _, .nil => .nil
  | _, _, .cons a b => by
    rw [List.reverse_cons, List.reverse_cons]
    exact (VRs.reverse b).append (.cons a .nil)
theorem VRs.dropLast : ∀ {vs : List V} {ds : List D}, VRs g H μ vs ds → VRs g H μ vs.dropLast ds.dropLast
  | _, _, .nil => .nil
  | _, _, .cons a .nil => .nil
  | _, _, .cons a (.cons b c) => .cons a (VRs.dropLast (.cons b c))
theorem VRs.one {v : V} {d : D} (a : VR g H μ v d) : VRs g H μ [v] [d] := .cons a .nil
theorem SR.get : ∀ {σ : List (Option V)} {ρ : Slots} {i : Nat} {d : D}, SR g H μ σ ρ → ρ[i]? = some (some d) → ∃ v, σ[i]? = some (some v) ∧ VR g H μ v d
  | _, _, _, _, .nil, e => by simp at e
  | _, _, 0, _, .no _, e => by simp at e
  | _, _, 0, _, .yes a _, e => by
    simp only [List.getElem?_cons_zero, Option.some.injEq] at e
    subst e
    exact ⟨_, rfl, a⟩
  | _, _, i + 1, _, .no b, e => by
    obtain ⟨v, h1, h2⟩ := SR.get (i := i) b (by simpa using e)
    exact ⟨v, by simpa using h1, h2⟩
  | _, _, i + 1, _, .yes _ b, e => by
    obtain ⟨v, h1, h2⟩ := SR.get (i := i) b (by simpa using e)
    exact ⟨v, by simpa using h1, h2⟩
theorem SR.set (i : Nat) {v : V} {d : D} (r : VR g H μ v d) : ∀ {σ : List (Option V)} {ρ : Slots}, SR g H μ σ ρ → SR g H μ (σ.set i (some v)) (ρ.set i (some d)) := by
  induction i with
  | zero =>
    intro σ ρ h
    cases h with
    | nil => exact .nil
    | no b => exact .yes r b
    | yes a b => exact .yes r b
  | succ n ih =>
    intro σ ρ h
    cases h with
    | nil => exact .nil
    | no b => exact .no (ih b)
    | yes a b => exact .yes a (ih b)
theorem SR.unset (i : Nat) (o : Option V) : ∀ {σ : List (Option V)} {ρ : Slots}, SR g H μ σ ρ → SR g H μ (σ.set i o) (ρ.set i none) := by
  induction i with
  | zero =>
    intro σ ρ h
    cases h with
    | nil => exact .nil
    | no b => exact .no b
    | yes a b => exact .no b
  | succ n ih =>
    intro σ ρ h
    cases h with
    | nil => exact .nil
    | no b => exact .no (ih b)
    | yes a b => exact .yes a (ih b)
theorem SR.start : ∀ {vs : List V} {ds : List D} (n : Nat), VRs g H μ vs ds → SR g H μ (vs.map some ++ List.replicate n none) (ds.map some ++ List.replicate n none)
  | _, _, n, .nil => by
    show SR g H μ (List.replicate n none) (List.replicate n none)
    induction n with
    | zero => exact .nil
    | succ n ih => rw [List.replicate_succ]; exact .no ih
  | _, _, n, .cons a b => .yes a (SR.start n b)

/-! ### the heap changes -/
/-- a place that may be written: neither a tuple's nor a locked thing's -/
def Saf (H : Hp) (p : Addr) : Prop := ∀ u, H p = some u → ((∀ xs, u ≠ .tup xs) ∧ ¬ isX p u) ∧ ∀ o v, u ≠ .frz o v
theorem Saf.fresh {p : Addr} (h : H p = none) : Saf H p := fun u e => by rw [h] at e; cases e
theorem Saf.lst {p : Addr} {xs : List V} (h : H p = some (.lst xs)) : Saf H p := fun u e => by
  rw [h] at e
  cases e
  exact ⟨⟨fun _ z => (nomatch z), fun z => by rcases z with ⟨_, _, z⟩ | ⟨_, z⟩ <;> exact nomatch z⟩, fun _ _ z => (nomatch z)⟩
theorem Saf.dK {p : Addr} {xs : List (Key × V)} (h : H p = some (.dK xs)) : Saf H p := fun u e => by
  rw [h] at e
  cases e
  exact ⟨⟨fun _ z => (nomatch z), fun z => by rcases z with ⟨_, _, z⟩ | ⟨_, z⟩ <;> exact nomatch z⟩, fun _ _ z => (nomatch z)⟩
theorem Saf.ins {p C dx : Addr} {xs : List (Str × V)} (h : H p = some (.ins C dx xs)) : Saf H p := fun u e => by
  rw [h] at e
  cases e
  exact ⟨⟨fun _ z => (nomatch z), fun z => by rcases z with ⟨_, _, z⟩ | ⟨_, z⟩ <;> exact nomatch z⟩, fun _ _ z => (nomatch z)⟩
theorem dn_ne {w : World} {p C : Addr} {d : Option Addr} {xs : List (NestedKey × Addr × Value)} : DN w p xs ≠ XOk C d p := fun z => by
  unfold DN XOk at z
  injection z with z
  have hh : ∃ h : Heap, ∃ (oe : Obj) (vs : Array Value), h.get? p = some oe ∧ Zc (.ref C) d oe ∧ oe.data = .fields vs := by
    refine ⟨{ objs := Array.replicate (p + 1) { cls := .ref C, dict := d, data := .fields #[] } }, { cls := .ref C, dict := d, data := .fields #[] }, #[], ?_, ?_, rfl⟩
    · simp [Heap.get?]
    · exact ⟨rfl, rfl⟩
  obtain ⟨h, oe, vs, h1, h2, h3⟩ := hh
  have z2 := congrFun z h
  obtain ⟨_, _, o, es, ep, e1, _, e3, _⟩ := z2.mpr ⟨oe, vs, h1, h2, h3⟩
  rw [h1] at e1
  cases e1
  rw [h3] at e3
  cases e3
theorem Saf.dN {p : Addr} {w : World} {xs : List (NestedKey × Addr × Value)} (h : H p = some (DN w p xs)) : Saf H p := fun u e => by
  rw [h] at e
  cases e
  exact ⟨⟨fun _ z => (nomatch z), fun z => by
    rcases z with ⟨_, _, z⟩ | ⟨_, z⟩
    · exact dn_ne z
    · exact nomatch z⟩, fun _ _ z => (nomatch z)⟩
theorem Saf.mon {p : Addr} {o : HO} (s : Saf H p) : Mon g H (upd H p o) μ μ := ⟨List.prefix_rfl, fun q xs h => by
  rcases h with ⟨u, hu, h⟩ | h
  · refine .inl ⟨u, hu, ?_⟩
    rw [upd_ne]
    · exact h
    · rintro rfl; exact (s _ h).2 u _ rfl
  · exact .inr h, fun q u x h => by
    rw [upd_ne]
    · exact h
    · rintro rfl; exact (s _ h).1.2 x⟩
theorem OR.mono_at {p : Addr} {o : MO} (m : Mon g H H1 μ μ1) (k : ∀ u, H p = some u → H1 p = some u) (h : OR g H μ p o) : OR g H1 μ1 p o := by
  cases o with
  | lst ds => obtain ⟨xs, a, b⟩ := h; exact ⟨xs, k _ a, b.mono m⟩
  | rol ds =>
    obtain ⟨xs, a, b⟩ := h
    refine ⟨xs, ?_, b.mono m⟩
    rcases a with ⟨u, a⟩ | a
    · exact .inl ⟨u, k _ a⟩
    · exact .inr a
  | dK kvs => obtain ⟨xs, a, b⟩ := h; exact ⟨xs, k _ a, b.mono m⟩
  | ins c fs => obtain ⟨C, dx, xs, a, c', b⟩ := h; exact ⟨C, dx, xs, k _ a, c', b.mono m⟩
  | dN kvs => obtain ⟨xs, a, b⟩ := h; exact ⟨xs, k _ a, b.mono m⟩
theorem OR.mut {p : Addr} {o : MO} (h : OR g H μ p o) (hm : isMut o = true) : ∃ u, H p = some u ∧ (∀ w v, u ≠ .frz w v) := by
  cases o with
  | lst ds => obtain ⟨xs, a, b⟩ := h; exact ⟨_, a, fun _ _ z => nomatch z⟩
  | rol ds => cases hm
  | dK kvs => obtain ⟨xs, a, b⟩ := h; exact ⟨_, a, fun _ _ z => nomatch z⟩
  | ins c fs => obtain ⟨C, dx, xs, a, c', b⟩ := h; exact ⟨_, a, fun _ _ z => nomatch z⟩
  | dN kvs => obtain ⟨xs, a, b⟩ := h; exact ⟨_, a, fun _ _ z => nomatch z⟩
/-- a new thing is laid that is no cell of h -/
theorem HR.laid {h : MH} {p : Addr} {o : HO} (r : HR g H μ h) (hp : H p = none) : HR g (upd H p o) μ h :=
  ⟨r.len, fun i q u hi hu => (r.ob i q u hi hu).mono_at (Saf.fresh hp).mon fun w e => by rw [upd_ne (ne_of_none e hp)]; exact e, r.nd⟩
/-- a new cell -/
theorem HR.push {h : MH} {p : Addr} {o : HO} {u : MO} (r : HR g H μ h) (hp : H p = none) (hu : OR g (upd H p o) (μ ++ [p]) p u) : HR g (upd H p o) (μ ++ [p]) (h ++ [u]) := by
  have m : Mon g H (upd H p o) μ (μ ++ [p]) := ⟨List.prefix_append _ _, (Saf.fresh hp : Saf H p).mon (g := g) (μ := μ) (o := o) |>.tups, (Saf.fresh hp : Saf H p).mon (g := g) (μ := μ) (o := o) |>.xs⟩
  have key : ∀ (i : Nat) (q : Addr), (μ ++ [p])[i]? = some q → (i < μ.length ∧ μ[i]? = some q) ∨ (i = μ.length ∧ q = p) := fun i q e => by
    by_cases hi : i < μ.length
    · rw [List.getElem?_append_left hi] at e; exact .inl ⟨hi, e⟩
    · rw [List.getElem?_append_right (by omega)] at e
      have : i - μ.length = 0 := by
        have := (List.getElem?_eq_some_iff.mp e).1
        simp at this; omega
      rw [this] at e
      simp at e
      exact .inr ⟨by omega, e.symm⟩
  have keyh : ∀ (i : Nat) (w : MO), (h ++ [u])[i]? = some w → (i < h.length ∧ h[i]? = some w) ∨ (i = h.length ∧ w = u) := fun i w e => by
    by_cases hi : i < h.length
    · rw [List.getElem?_append_left hi] at e; exact .inl ⟨hi, e⟩
    · rw [List.getElem?_append_right (by omega)] at e
      have : i - h.length = 0 := by
        have := (List.getElem?_eq_some_iff.mp e).1
        simp at this; omega
      rw [this] at e
      simp at e
      exact .inr ⟨by omega, e.symm⟩
  have l := r.len
  refine ⟨by simp [l], fun i q w hi hw => ?_, fun i j q w v hi hj hw hv m1 m2 => ?_⟩
  · rcases key i q hi with ⟨a, b⟩ | ⟨a, b⟩
    · rcases keyh i w hw with ⟨c, d⟩ | ⟨c, d⟩
      · exact (r.ob i q w b d).mono_at m fun x e => by rw [upd_ne (ne_of_none e hp)]; exact e
      · omega
    · rcases keyh i w hw with ⟨c, d⟩ | ⟨c, d⟩
      · omega
      · subst b d; exact hu
  · rcases key i q hi with ⟨a, b⟩ | ⟨a, b⟩ <;> rcases key j q hj with ⟨a', b'⟩ | ⟨a', b'⟩
    · rcases keyh i w hw with ⟨c, d⟩ | ⟨c, d⟩
      · rcases keyh j v hv with ⟨c', d'⟩ | ⟨c', d'⟩
        · exact r.nd i j q w v b b' d d' m1 m2
        · omega
      · omega
    · rcases keyh i w hw with ⟨c, d⟩ | ⟨c, d⟩
      · obtain ⟨x, e, _⟩ := (r.ob i q w b d).mut m1
        subst b'
        rw [hp] at e; cases e
      · omega
    · rcases keyh j v hv with ⟨c, d⟩ | ⟨c, d⟩
      · obtain ⟨x, e, _⟩ := (r.ob j q v b' d).mut m2
        subst b
        rw [hp] at e; cases e
      · omega
    · omega
/-- a cell is written -/
theorem HR.write {h : MH} {i : Nat} {p : Addr} {o : HO} {u w : MO} (r : HR g H μ h) (hi : μ[i]? = some p) (hw : h[i]? = some w) (mw : isMut w = true) (s : Saf H p) (mu : isMut u = true) (hu : OR g (upd H p o) μ p u) : HR g (upd H p o) μ (h.set i u) := by
  have m : Mon g H (upd H p o) μ μ := s.mon
  have hlt : i < h.length := (List.getElem?_eq_some_iff.mp hw).1
  refine ⟨by rw [List.length_set]; exact r.len, fun j q v hj hv => ?_, fun j k q v x hj hk hv hx m1 m2 => ?_⟩
  · by_cases e : i = j
    · subst e
      rw [List.getElem?_set_self hlt] at hv
      rw [hi] at hj
      cases hj; cases hv
      exact hu
    · rw [List.getElem?_set_ne e] at hv
      have old := r.ob j q v hj hv
      cases mv : isMut v with
      | true =>
        refine old.mono_at m fun x ex => ?_
        rw [upd_ne]
        · exact ex
        · rintro rfl; exact e (r.nd i j q w v hi hj hw hv mw mv)
      | false =>
        cases v with
        | rol ds =>
          obtain ⟨xs, a, b⟩ := old
          refine ⟨xs, ?_, b.mono m⟩
          rcases a with ⟨u', a⟩ | a
          · refine .inl ⟨u', ?_⟩
            rw [upd_ne]
            · exact a
            · rintro rfl; exact (s _ a).2 _ _ rfl
          · exact .inr a
        | lst ds => cases mv
        | dK kvs => cases mv
        | ins c fs => cases mv
        | dN kvs => cases mv
  · have key : ∀ (j : Nat) (v : MO), (h.set i u)[j]? = some v → isMut v = true → ∃ v', h[j]? = some v' ∧ isMut v' = true := fun j v hv mv => by
      by_cases e : i = j
      · subst e; exact ⟨w, hw, mw⟩
      · rw [List.getElem?_set_ne e] at hv; exact ⟨v, hv, mv⟩
    obtain ⟨v', hv', mv'⟩ := key j v hv m1
    obtain ⟨x', hx', mx'⟩ := key k x hx m2
    exact r.nd j k q v' x' hj hk hv' hx' mv' mx'
end

/-! ### rules that lay tuples, the new one known to the object -/
section
variable {X : Cx} {es : List Expr} {t : TA} {pos : Pos}
def tTupF (t : TA) : TE := fun σ H Q => t σ H fun xs H1 => xs.length ≤ sizeLine ∧ ∀ (p : Addr) (ob : Obj), H1 p = none → ob.dict = none → Q (.ref p) (upd H1 p (.frz ob (.tup xs)))
theorem pe_tupF {x1} (h : PA X es t) : PE X (.Tuple es x1 pos) (tTupF t) := by
  refine ⟨fun pins s σ H Q I hq => ?_⟩
  refine wpAny_Tuple_spliced (thn (h.run pos pins s σ H _ I hq) fun us s1 ⟨xs, H1, I1, rv, zl, q⟩ => ⟨by rw [← rv.length]; exact zl, ?_⟩)
  have new : H1 s1.heap.objs.size = none := I1.hok.fresh (Nat.le_refl _)
  refine ⟨.ref s1.heap.objs.size, upd H1 s1.heap.objs.size (.frz { cls := .type "tuple", data := .seq us.toArray } (.tup xs)), I1.laid (t' := s1.toks) (fun b u e => Heap.get?_push_of_some _ e) (Nat.le_refl _) ?_, rfl, q _ _ new rfl⟩
  exact ⟨Heap.get?_push_size _ rfl, zl, us, rv, PyProof.Rows.IsTup.new _ _⟩
def rTupF (K : PySem.W.Frag) : List V → Hp → VK → Prop := fun xs H Q => ∃ p ys, xs = [.ref p] ∧ ((SqL K H p ys ∧ ∀ (l : Addr) (ob : Obj), H l = none → ob.dict = none → Q (.ref l) (upd H l (.frz ob (.tup ys)))) ∨ (SqT K H p ys ∧ Q (.ref p) H))
theorem call_tupF : CallR X (.type "tuple") (rTupF X.K) := by
  intro pins s σ H xs us Q I rr hh
  obtain ⟨p, ys, rfl, hh⟩ := hh
  rcases hh with ⟨hq, q⟩ | ⟨hq, q⟩
  · obtain ⟨u, rfl, rx⟩ := vals1 rr
    cases rx
    obtain ⟨its, rv, pl, zl⟩ := I.list hq
    have hlen := rv.length
    refine PySem.call_tuple_list pl.isList (fun h' kp => ?_) (by simp only [List.size_toArray]; omega)
    have I1 : Inv X pins σ H { s with heap := h' } := I.kept (t' := s.toks) kp
    refine ⟨.ref h'.objs.size, upd H h'.objs.size (.frz { cls := .type "tuple", data := .seq its.toArray } (.tup ys)), ?_, rfl, q _ _ (I1.hok.fresh (Nat.le_refl _)) rfl⟩
    exact I1.laid (t' := s.toks) (fun b o e => Heap.get?_push_of_some _ e) (Nat.le_refl _) ⟨Heap.get?_push_size _ rfl, zl, its, rv, PyProof.Rows.IsTup.new _ _⟩
  · exact call_tuple_of pins s σ H _ us Q I rr ⟨p, ys, rfl, .inr ⟨hq, q⟩⟩
def rCatF (K : PySem.W.Frag) : R2 := fun x y H Q => ∃ a b xs ys, x = .ref a ∧ y = .ref b ∧ SqT K H a xs ∧ SqT K H b ys ∧ xs.length + ys.length ≤ sizeLine ∧
  (xs = [] → Q (.ref b) H) ∧ (xs ≠ [] → ys = [] → Q (.ref a) H) ∧ (xs ≠ [] → ys ≠ [] → ∀ (p : Addr) (ob : Obj), H p = none → ob.dict = none → Q (.ref p) (upd H p (.frz ob (.tup (xs ++ ys)))))
theorem op_catF : OpR X (binaryOp .Add) (rCatF X.K) := by
  intro pins s σ H x y v u Q I rx ry hh
  obtain ⟨a, b, xs, ys, rfl, rfl, ha, hb, zl, q0, q1, q2⟩ := hh
  cases rx
  cases ry
  obtain ⟨ws1, r1, p1, _⟩ := I.tuple ha
  obtain ⟨ws2, r2, p2, _⟩ := I.tuple hb
  by_cases hx : xs = []
  · subst hx
    cases r1
    exact cat_tup0 p1 p2 ⟨.ref b, H, I, rfl, q0 rfl⟩
  · refine HT.cat_tup p1 p2 (fun z => hx (r1.nil_iff.mp z)) (fun z => ⟨.ref a, H, I, rfl, q1 hx (r2.nil_iff.mp z)⟩) (fun z => ?_) (by rw [← r1.length, ← r2.length]; exact zl)
    refine ⟨.ref s.heap.objs.size, upd H s.heap.objs.size (.frz { cls := .type "tuple", data := .seq (ws1 ++ ws2).toArray } (.tup (xs ++ ys))), ?_, rfl, q2 hx (fun w => z (r2.nil_iff.mpr w)) _ _ (I.hok.fresh (Nat.le_refl _)) rfl⟩
    exact I.laid (t' := s.toks) (fun b ob e => Heap.get?_push_of_some _ e) (Nat.le_refl _) ⟨Heap.get?_push_size _ rfl, by rw [List.length_append]; exact zl, _, r1.append r2, PyProof.Rows.IsTup.new _ _⟩
def rSlF (K : PySem.W.Frag) : V → Option Int → Option Int → Hp → VK → Prop := fun x lo hi H Q => ∃ a xs, x = .ref a ∧ SqT K H a xs ∧
  (HT.sIx xs.length 0 lo = 0 ∧ HT.sIx xs.length xs.length hi = xs.length → Q (.ref a) H) ∧ (¬ (HT.sIx xs.length 0 lo = 0 ∧ HT.sIx xs.length xs.length hi = xs.length) → ∀ (p : Addr) (ob : Obj), H p = none → ob.dict = none → Q (.ref p) (upd H p (.frz ob (.tup (cutV xs lo hi)))))
theorem sl_tupF : SlR X (rSlF X.K) := by
  intro pins s σ H x v vl vu lo hi sl Q I rx hs pl pu hh
  obtain ⟨a, xs, rfl, hx, q1, q2⟩ := hh
  by_cases hw : HT.sIx xs.length 0 lo = 0 ∧ HT.sIx xs.length xs.length hi = xs.length
  · exact sl_tupA pins s σ H _ v vl vu lo hi sl Q I rx hs pl pu ⟨a, xs, rfl, hx, q1, fun z => absurd hw z⟩
  · cases rx
    obtain ⟨ws, rv, ht, zl⟩ := I.tuple hx
    have el : ws.toArray.size = xs.length := by rw [List.size_toArray]; exact rv.length.symm
    refine ⟨"tuple", _, PyProof.Rows.slot_tuple_getitem.lookup, ht.typeIs, ?_⟩
    refine HT.getItem_tuple_cut ht hs pl pu (by rw [el]; exact hw) ?_ (by rw [el]; exact zl)
    rw [el]
    refine ⟨.ref s.heap.objs.size, upd H s.heap.objs.size (.frz { cls := .type "tuple", data := .seq ((ws.drop (HT.sIx xs.length 0 lo)).take (HT.sIx xs.length xs.length hi - HT.sIx xs.length 0 lo)).toArray } (.tup (cutV xs lo hi))), ?_, rfl, q2 hw _ _ (I.hok.fresh (Nat.le_refl _)) rfl⟩
    exact I.laid (t' := s.toks) (fun b ob e => Heap.get?_push_of_some _ e) (Nat.le_refl _) ⟨Heap.get?_push_size _ rfl, Nat.le_trans (cutV_length xs lo hi) zl, _, (rv.drop _).take _, PyProof.Rows.IsTup.new _ _⟩
end
end Mi

namespace Mi
open PySem L2

/-! ### what is wanted behind -/
/-- an exception of the class named x with these fields -/
def XR (g : G) (H : Hp) (μ : List Addr) (cls : Value) (d : Option Addr) (x : Str) (fs : List (Str × D)) : Prop :=
  ∃ C, cls = .ref C ∧ g.cm x = some C ∧ ((fs = [] ∧ d = none) ∨ ∃ dd fv, fs ≠ [] ∧ d = some dd ∧ H dd = some (.xd fv) ∧ KR g H μ fv fs)
def Bk {α β : Type} (rel : Hp → List Addr → β → α → Prop) (g : G) (H : Hp) (μ : List Addr) (r : R α) (Q : β → Hp → Prop) (W : XK) : Prop := match r with
  | .ok a h' => ∀ b H' μ', Mon g H H' μ μ' → HR g H' μ' h' → rel H' μ' b a → Q b H'
  | .exc x fs h' => ∀ cls d H' μ', Mon g H H' μ μ' → HR g H' μ' h' → XR g H' μ' cls d x fs → W cls d H'
  | .bad => False
abbrev eqR : Hp → List Addr → Bool → Bool → Prop := fun _ _ b a => b = a
abbrev opR : Hp → List Addr → Option Int → Option Int → Prop := fun _ _ b a => b = a
section
variable {g : G} {H H1 : Hp} {μ μ1 : List Addr} {α α' β β' : Type} {rel : Hp → List Addr → β → α → Prop} {rel' : Hp → List Addr → β' → α' → Prop}
theorem Bk.mono {r : R α} {Q : β → Hp → Prop} {W : XK} (m : Mon g H H1 μ μ1) (h : Bk rel g H μ r Q W) : Bk rel g H1 μ1 r Q W := by
  cases r with
  | ok a h' => exact fun b H' μ' m' => h b H' μ' (m.trans m')
  | exc x fs h' => exact fun cls d H' μ' m' => h cls d H' μ' (m.trans m')
  | bad => exact h
theorem Bk.bind {r : R α} {f : α → MH → R α'} {Q : β → Hp → Prop} {Q' : β' → Hp → Prop} {W : XK} (hb : Bk rel' g H μ (r.bind f) Q' W)
    (k : ∀ a h1 b H1 μ1, r = .ok a h1 → Mon g H H1 μ μ1 → HR g H1 μ1 h1 → rel H1 μ1 b a → Bk rel' g H1 μ1 (f a h1) Q' W → Q b H1) : Bk rel g H μ r Q W := by
  cases r with
  | ok a h' => exact fun b H' μ' m hr hv => k a h' b H' μ' rfl m hr hv (Bk.mono m hb)
  | exc x fs h' => exact hb
  | bad => exact hb
end

abbrev ME := Slots → MH → R D
abbrev MT := Slots → MH → R Bool
abbrev MA := Slots → MH → R (List D)
abbrev MP := Slots → MH → R (Option Int)
def tX {α β : Type} (rel : G → Hp → List Addr → β → α → Prop) (g : G) (W : WX) (m : Slots → MH → R α) : St → Hp → (β → Hp → Prop) → Prop := fun σ H Q =>
  ∃ ρ h μ, SR g H μ σ ρ ∧ HR g H μ h ∧ Bk (rel g) g H μ (m ρ h) Q (fun c d H' => W c d σ H')
abbrev tE (g : G) (W : WX) (m : ME) : TE := tX VR g W m
abbrev tT (g : G) (W : WX) (m : MT) : TT := tX (fun _ => eqR) g W m
abbrev tA (g : G) (W : WX) (m : MA) : TA := tX VRs g W m
abbrev tP (g : G) (W : WX) (m : MP) : TO := tX (fun _ => opR) g W m

inductive Out where
  | nx (ρ : Slots) (h : MH) | rt (d : D) (h : MH) | bk (ρ : Slots) (h : MH) | ct (ρ : Slots) (h : MH) | exc (x : Str) (fs : List (Str × D)) (ρ : Slots) (h : MH) | bad
abbrev MS := Slots → MH → Out
def BkS (g : G) (H : Hp) (μ : List Addr) (o : Out) (E : Ends) (W : WX) : Prop := match o with
  | .nx ρ h => ∀ σ' H' μ', Mon g H H' μ μ' → SR g H' μ' σ' ρ → HR g H' μ' h → E.nx σ' H'
  | .rt d h => ∀ v H' μ', Mon g H H' μ μ' → HR g H' μ' h → VR g H' μ' v d → E.rt v H'
  | .bk ρ h => ∀ σ' H' μ', Mon g H H' μ μ' → SR g H' μ' σ' ρ → HR g H' μ' h → E.bk σ' H'
  | .ct ρ h => ∀ σ' H' μ', Mon g H H' μ μ' → SR g H' μ' σ' ρ → HR g H' μ' h → E.ct σ' H'
  | .exc x fs ρ h => ∀ cls d σ' H' μ', Mon g H H' μ μ' → SR g H' μ' σ' ρ → HR g H' μ' h → XR g H' μ' cls d x fs → W cls d σ' H'
  | .bad => False
theorem BkS.mono {g : G} {H H1 : Hp} {μ μ1 : List Addr} {o : Out} {E : Ends} {W : WX} (m : Mon g H H1 μ μ1) (h : BkS g H μ o E W) : BkS g H1 μ1 o E W := by
  cases o with
  | nx ρ h' => exact fun σ' H' μ' m' => h σ' H' μ' (m.trans m')
  | rt d h' => exact fun v H' μ' m' => h v H' μ' (m.trans m')
  | bk ρ h' => exact fun σ' H' μ' m' => h σ' H' μ' (m.trans m')
  | ct ρ h' => exact fun σ' H' μ' m' => h σ' H' μ' (m.trans m')
  | exc x fs ρ h' => exact fun cls d σ' H' μ' m' => h cls d σ' H' μ' (m.trans m')
  | bad => exact h
def tS (g : G) (W : WX) (m : MS) : TS := fun E σ H => ∃ ρ h μ, SR g H μ σ ρ ∧ HR g H μ h ∧ BkS g H μ (m ρ h) E W

/-- an expression's end within a statement -/
def R.out {α : Type} (r : R α) (ρ : Slots) (k : α → MH → Out) : Out := match r with
  | .ok a h => k a h
  | .exc x fs h => .exc x fs ρ h
  | .bad => .bad
section
variable {g : G} {W : WX} {α β α' β' : Type} {rel : G → Hp → List Addr → β → α → Prop} {rel' : G → Hp → List Addr → β' → α' → Prop} {σ : St} {H : Hp} {μ : List Addr} {ρ : Slots} {h : MH}
/-- one part is read; what follows it -/
theorem step {ma : Slots → MH → R α} {f : α → MH → R α'} {Q : β → Hp → Prop} {Q' : β' → Hp → Prop} (sr : SR g H μ σ ρ) (hr : HR g H μ h) (hb : Bk (rel' g) g H μ ((ma ρ h).bind f) Q' (fun c d H' => W c d σ H'))
    (k : ∀ b a h1 H1 μ1, Mon g H H1 μ μ1 → SR g H1 μ1 σ ρ → HR g H1 μ1 h1 → rel g H1 μ1 b a → Bk (rel' g) g H1 μ1 (f a h1) Q' (fun c d H' => W c d σ H') → Q b H1) : tX rel g W ma σ H Q :=
  ⟨ρ, h, μ, sr, hr, Bk.bind hb fun a h1 b H1 μ1 _ m hr1 hv bk => k b a h1 H1 μ1 m (sr.mono m) hr1 hv bk⟩
theorem stepS {ma : Slots → MH → R α} {f : α → MH → Out} {Q : β → Hp → Prop} {E : Ends} (sr : SR g H μ σ ρ) (hr : HR g H μ h) (hb : BkS g H μ ((ma ρ h).out ρ f) E W)
    (k : ∀ b a h1 H1 μ1, Mon g H H1 μ μ1 → SR g H1 μ1 σ ρ → HR g H1 μ1 h1 → rel g H1 μ1 b a → BkS g H1 μ1 (f a h1) E W → Q b H1) : tX rel g W ma σ H Q := by
  refine ⟨ρ, h, μ, sr, hr, ?_⟩
  cases e : ma ρ h with
  | ok a h' =>
    rw [e] at hb
    exact fun b H' μ' m hr' hv => k b a h' H' μ' m (sr.mono m) hr' hv (BkS.mono m hb)
  | exc x fs h' =>
    rw [e] at hb
    exact fun cls d H' μ' m hr' hx => hb cls d σ H' μ' m (sr.mono m) hr' hx
  | bad =>
    rw [e] at hb
    exact hb
end

/-! ### the judgements are monotone -/
section
variable {X : Cx}
theorem pe_mono {e : Expr} {t t' : TE} (h : PE X e t) (hm : ∀ σ H Q, t' σ H Q → t σ H Q) : PE X e t' := ⟨fun pins s σ H Q I q => h.run pins s σ H Q I (hm σ H Q q)⟩
theorem pt_mono {e : Expr} {t t' : TT} (h : PT X e t) (hm : ∀ σ H Q, t' σ H Q → t σ H Q) : PT X e t' := ⟨fun pins s σ H Q I q => h.run pins s σ H Q I (hm σ H Q q)⟩
theorem pw_mono {e : Expr} {t t' : TT} (h : PW X e t) (hm : ∀ σ H Q, t' σ H Q → t σ H Q) : PW X e t' := ⟨fun wh pins s σ H Q I q => h.run wh pins s σ H Q I (hm σ H Q q)⟩
theorem pa_mono {es : List Expr} {t t' : TA} (h : PA X es t) (hm : ∀ σ H Q, t' σ H Q → t σ H Q) : PA X es t' := ⟨fun pos pins s σ H Q I q => h.run pos pins s σ H Q I (hm σ H Q q)⟩
theorem ps_mono {st : Stmt} {t t' : TS} (h : PS X st t) (hm : ∀ E σ H, t' E σ H → t E σ H) : PS X st t' := ⟨fun pins s σ H E I q => h.run pins s σ H E I (hm E σ H q)⟩
theorem pss_mono {st : List Stmt} {t t' : TS} (h : PSs X st t) (hm : ∀ E σ H, t' E σ H → t E σ H) : PSs X st t' := ⟨fun pins s σ H E I q => h.run pins s σ H E I (hm E σ H q)⟩
end

/-! ### plain parts -/
def mVar (i : Nat) : ME := fun ρ h => match ρ[i]? with
  | some (some d) => .ok d h
  | _ => .bad
def mC (d : D) : ME := fun _ h => .ok d h
def mBin (f : D → D → MH → R D) (a b : ME) : ME := fun ρ h => (a ρ h).bind fun x h1 => (b ρ h1).bind fun y h2 => f x y h2
def mUn (f : D → MH → R D) (a : ME) : ME := fun ρ h => (a ρ h).bind fun x h1 => f x h1
def mNil : MA := fun _ h => .ok [] h
def mCons (a : ME) (r : MA) : MA := fun ρ h => (a ρ h).bind fun x h1 => (r ρ h1).bind fun xs h2 => .ok (x :: xs) h2
def mTup (a : MA) : ME := fun ρ h => (a ρ h).bind fun xs h1 => if xs.length ≤ 1000000 then .ok (.tup xs) h1 else .bad
def mLst (a : MA) : ME := fun ρ h => (a ρ h).bind fun xs h1 => if xs.length ≤ 1000000 then .ok (.ref h1.length) (h1 ++ [.lst xs]) else .bad
def mCall (F : List D → MH → R D) (a : MA) : ME := fun ρ h => (a ρ h).bind fun xs h1 => F xs h1

/-- an operation by values -/
def S2 (g : G) (r : R2) (f : D → D → MH → R D) : Prop := ∀ (H : Hp) (μ : List Addr) (h : MH) (x y : V) (a b : D) (Q : VK) (W : XK), HR g H μ h → VR g H μ x a → VR g H μ y b → Bk (VR g) g H μ (f a b h) Q W → r x y H Q
def S1 (g : G) (r : V → Hp → VK → Prop) (f : D → MH → R D) : Prop := ∀ (H : Hp) (μ : List Addr) (h : MH) (x : V) (a : D) (Q : VK) (W : XK), HR g H μ h → VR g H μ x a → Bk (VR g) g H μ (f a h) Q W → r x H Q
def SN (g : G) (r : List V → Hp → VK → Prop) (f : List D → MH → R D) : Prop := ∀ (H : Hp) (μ : List Addr) (h : MH) (xs : List V) (ds : List D) (Q : VK) (W : XK), HR g H μ h → VRs g H μ xs ds → Bk (VR g) g H μ (f ds h) Q W → r xs H Q
def SM (g : G) (r : V → List V → Hp → VK → Prop) (f : D → List D → MH → R D) : Prop := ∀ (H : Hp) (μ : List Addr) (h : MH) (x : V) (xs : List V) (a : D) (ds : List D) (Q : VK) (W : XK), HR g H μ h → VR g H μ x a → VRs g H μ xs ds → Bk (VR g) g H μ (f a ds h) Q W → r x xs H Q

section
variable {g : G} {H : Hp} {μ : List Addr} {h : MH} {Q : VK} {W : XK}
/-- the ends of an operation -/
theorem Bk.val {v : V} {d : D} (hb : Bk (VR g) g H μ (.ok d h) Q W) (hr : HR g H μ h) (hv : VR g H μ v d) : Q v H := hb v H μ Mon.refl hr hv
theorem Bk.newT {xs : List V} {ds : List D} {p : Addr} {ob : Obj} (hb : Bk (VR g) g H μ (.ok (.tup ds) h) Q W) (hr : HR g H μ h) (hv : VRs g H μ xs ds) (hp : H p = none) (ho : ob.dict = none) : Q (.ref p) (upd H p (.frz ob (.tup xs))) := by
  have m : Mon g H (upd H p (.frz ob (.tup xs))) μ μ := (Saf.fresh hp).mon
  exact hb _ _ μ m (hr.laid hp) (.tup (.inl ⟨ob, ho, upd_same⟩) (hv.mono m))
theorem mon_push {p : Addr} {o : HO} (hp : H p = none) : Mon g H (upd H p o) μ (μ ++ [p]) := ⟨List.prefix_append _ _, ((Saf.fresh hp : Saf H p).mon (g := g) (μ := μ) (o := o)).tups, ((Saf.fresh hp : Saf H p).mon (g := g) (μ := μ) (o := o)).xs⟩
theorem ix_push {p : Addr} {n : Nat} (l : μ.length = n) : (μ ++ [p])[n]? = some p := by
  subst l
  simp
theorem Bk.newL {xs : List V} {ds : List D} {p : Addr} (hb : Bk (VR g) g H μ (.ok (.ref h.length) (h ++ [.lst ds])) Q W) (hr : HR g H μ h) (hv : VRs g H μ xs ds) (hp : H p = none) : Q (.ref p) (upd H p (.lst xs)) :=
  hb _ _ (μ ++ [p]) (mon_push hp) (hr.push hp ⟨xs, upd_same, hv.mono (mon_push hp)⟩) (.ref (ix_push hr.len))
theorem Bk.setL {xs xs' : List V} {ds ds' : List D} {p : Addr} {i : Nat} {v : V} {d : D} (hb : Bk (VR g) g H μ (.ok d (h.set i (.lst ds'))) Q W) (hr : HR g H μ h) (hi : μ[i]? = some p) (hh : h[i]? = some (.lst ds)) (hp : H p = some (.lst xs)) (hv : VRs g H μ xs' ds') (hd : VR g H μ v d) : Q v (upd H p (.lst xs')) := by
  have m : Mon g H (upd H p (.lst xs')) μ μ := (Saf.lst hp).mon
  exact hb v _ μ m (hr.write hi hh rfl (Saf.lst hp) rfl ⟨xs', upd_same, hv.mono m⟩) (hd.mono m)
/-- a cell that is a list -/
theorem HR.lst {i : Nat} {p : Addr} {ds : List D} (hr : HR g H μ h) (hi : μ[i]? = some p) (hh : h[i]? = some (.lst ds)) : ∃ xs, H p = some (.lst xs) ∧ VRs g H μ xs ds := hr.ob i p _ hi hh
/-- a list that may be read: a cell that changes or not -/
def getL (h : MH) (i : Nat) : Option (List D) := match h[i]? with
  | some (.lst l) => some l
  | some (.rol l) => some l
  | _ => none
theorem HR.list {i : Nat} {p : Addr} {ds : List D} (hr : HR g H μ h) (hi : μ[i]? = some p) (hh : getL h i = some ds) : ∃ xs, SqL g.K H p xs ∧ VRs g H μ xs ds := by
  unfold getL at hh
  split at hh
  · rename_i l e
    cases hh
    obtain ⟨xs, a, b⟩ := hr.ob i p _ hi e
    exact ⟨xs, .inl (.inl a), b⟩
  · rename_i l e
    cases hh
    obtain ⟨xs, a, b⟩ := hr.ob i p _ hi e
    exact ⟨xs, a.sq, b⟩
  · cases hh
end
theorem sz6 {n : Nat} (h : n ≤ 1000000) : n ≤ sizeLine := Nat.le_trans h (by decide)
theorem sz6' {n : Nat} (h : n < 1000000) : n < sizeLine := Nat.lt_trans h (by decide)

section
variable {X : Cx} {g : G} {W : WX} {a b e : Expr} {ma mb : ME} {pos : Pos} {es : List Expr} {mr : MA}
theorem se_var {i : Nat} {x : Str} (hN : X.N[i]? = some x) (hv : Vis X.env.scope x) (hd : (x == ("__debug__" : Str)) = false := by decide) (hcd : (x == ("__classdict__" : Str)) = false := by decide) : PE X (.Name x pos) (tE g W (mVar i)) :=
  pe_mono (pe_var hN hv hd hcd) fun σ H Q ⟨ρ, h, μ, sr, hr, bk⟩ => by
    unfold mVar at bk
    split at bk
    · rename_i d e
      obtain ⟨v, h1, h2⟩ := sr.get e
      exact ⟨v, h1, bk.val hr h2⟩
    · exact bk.elim
theorem mv (i : Nat) {x : Str} {pos : Pos} (hN : X.N[i]? = some x := by rfl) (hv : Vis X.env.scope x := by first | exact Or.inl rfl | exact Or.inr (Or.inl rfl) | exact Or.inr (Or.inr rfl)) (hd : (x == ("__debug__" : Str)) = false := by decide)
    (hcd : (x == ("__classdict__" : Str)) = false := by decide) : PE X (.Name x pos) (tE g W (mVar i)) := se_var hN hv hd hcd
theorem se_const {v : V} {d : D} (h : PE X e (tC v)) (hv : ∀ H μ, VR g H μ v d) : PE X e (tE g W (mC d)) := pe_mono h fun σ H Q ⟨ρ, hh, μ, sr, hr, bk⟩ => bk.val hr (hv H μ)
theorem se_int {i : Int} {j : Nat} : PE X (.Constant (.int i) j pos) (tE g W (mC (.int i))) := se_const pe_int fun _ _ => .int i
theorem se_bl {i : Bool} {j : Nat} : PE X (.Constant (.bool i) j pos) (tE g W (mC (.bl i))) := se_const pe_bl fun _ _ => .bl i
theorem se_non {j : Nat} : PE X (.Constant .none j pos) (tE g W (mC .non)) := se_const pe_non fun _ _ => .non
theorem se_str {x : Str} {j : Nat} : PE X (.Constant (.str x) j pos) (tE g W (mC (.str x))) := se_const pe_str fun _ _ => .str x
theorem se_globS {x y : Str} {t : Tok} (hg : Gl X x) (hm : X.mg x = some (.str y t)) (hd : (x == ("__debug__" : Str)) = false := by decide) : PE X (.Name x pos) (tE g W (mC (.str y))) := se_const (pe_glob (v := .str y) hg hm ⟨t, rfl⟩ hd) fun _ _ => .str y
/-- two parts by values -/
theorem two {r : R2} {f : D → D → MH → R D} (hs : S2 g r f) {σ : St} {H : Hp} {Q : VK} (q : tE g W (mBin f ma mb) σ H Q) : tOp r (tE g W ma) (tE g W mb) σ H Q := by
  obtain ⟨ρ, h, μ, sr, hr, bk⟩ := q
  exact step sr hr bk fun x a h1 H1 μ1 m1 sr1 hr1 vx bk1 => step sr1 hr1 bk1 fun y b h2 H2 μ2 m2 sr2 hr2 vy bk2 => hs H2 μ2 h2 x y a b Q _ hr2 (vx.mono m2) vy bk2
theorem se_bin {op : Operator} {r : R2} {f : D → D → MH → R D} (ho : OpR X (binaryOp op) r) (hs : S2 g r f) (ha : PE X a (tE g W ma)) (hb : PE X b (tE g W mb)) : PE X (.BinOp a op b pos) (tE g W (mBin f ma mb)) :=
  pe_mono (pe_op ho ha hb) fun σ H Q q => two hs q
theorem se_cmp {op : CmpOp} {r : R2} {f : D → D → MH → R D} (ho : OpR X (compareOp op) r) (hs : S2 g r f) (ha : PE X a (tE g W ma)) (hb : PE X b (tE g W mb)) (hm : behindInMarks op b = false) : PE X (.Compare a [op] [b] pos) (tE g W (mBin f ma mb)) :=
  pe_mono (pe_cmpR ho ha hb hm) fun σ H Q q => two hs q
theorem se_un {op : UnaryOp} {r : V → Hp → VK → Prop} {f : D → MH → R D} (ho : UnR X (unaryOp op) r) (hs : S1 g r f) (ha : PE X a (tE g W ma)) : PE X (.UnaryOp op a pos) (tE g W (mUn f ma)) :=
  pe_mono (pe_un ho ha) fun σ H Q ⟨ρ, h, μ, sr, hr, bk⟩ => step sr hr bk fun x a h1 H1 μ1 m1 sr1 hr1 vx bk1 => hs H1 μ1 h1 x a Q _ hr1 vx bk1
theorem se_ix {r : R2} {f : D → D → MH → R D} (hx : IxR X r) (hs : S2 g r f) (ha : PE X a (tE g W ma)) (hb : PE X b (tE g W mb)) (hp : PlainIx b) : PE X (.Subscript a b pos) (tE g W (mBin f ma mb)) :=
  pe_mono (pe_ix hx ha hb hp) fun σ H Q q => two hs q

/-! ### arguments, displays -/
theorem sa_nil : PA X [] (tA g W mNil) := pa_mono pa_nil fun σ H Q ⟨ρ, h, μ, sr, hr, bk⟩ => bk [] H μ Mon.refl hr .nil
theorem sa_cons (ha : PE X e (tE g W ma)) (hr : PA X es (tA g W mr)) (hs : starEach (e :: es) X.env = (false, eval e X.env) :: starEach es X.env := by rfl) : PA X (e :: es) (tA g W (mCons ma mr)) :=
  pa_mono (pa_cons ha hr hs) fun σ H Q ⟨ρ, h, μ, sr, hr, bk⟩ => step sr hr bk fun x a h1 H1 μ1 m1 sr1 hr1 vx bk1 => step sr1 hr1 bk1 fun xs ds h2 H2 μ2 m2 sr2 hr2 vs bk2 => bk2 (x :: xs) H2 μ2 Mon.refl hr2 (.cons (vx.mono m2) vs)
theorem se_tup {x1 : Nat} (h : PA X es (tA g W mr)) : PE X (.Tuple es x1 pos) (tE g W (mTup mr)) :=
  pe_mono (pe_tupF h) fun σ H Q ⟨ρ, h, μ, sr, hr, bk⟩ => step sr hr bk fun xs ds h1 H1 μ1 m1 sr1 hr1 vs bk1 => by
    split at bk1
    · rename_i hl
      exact ⟨by rw [vs.length]; exact sz6 hl, fun p ob hp ho => bk1.newT hr1 vs hp ho⟩
    · exact bk1.elim
theorem se_lst (h : PA X es (tA g W mr)) : PE X (.List es pos) (tE g W (mLst mr)) :=
  pe_mono (pe_lst h) fun σ H Q ⟨ρ, h, μ, sr, hr, bk⟩ => step sr hr bk fun xs ds h1 H1 μ1 m1 sr1 hr1 vs bk1 => by
    split at bk1
    · rename_i hl
      exact ⟨by rw [vs.length]; exact sz6 hl, fun p hp => bk1.newL hr1 vs hp⟩
    · exact bk1.elim
/-! ### calls of built-ins -/
theorem se_callB {x : Str} {p : Pos} {id : String} {r : List V → Hp → VK → Prop} {f : List D → MH → R D} (hc : CallR X (.builtin id) r) (hs : SN g r f) (hg : Gl X x) (hm : X.mg x = none) (hv : bootBuiltins x = some (.builtin id)) (ha : PA X (e :: es) (tA g W mr))
    (hn : x ≠ "__name__" := by decide) (hdb : (x == ("__debug__" : Str)) = false := by decide)
    (he : starEach (e :: es) X.env = (false, eval e X.env) :: starEach es X.env := by rfl) (hpl : (backTo pos (starEach es X.env)).any (·.1) = false := by rfl) : PE X (.Call (.Name x p) (e :: es) [] pos) (tE g W (mCall f mr)) :=
  pe_mono (pe_callB hc hg hm hv ha hn hdb he hpl) fun σ H Q ⟨ρ, h, μ, sr, hr, bk⟩ => step sr hr bk fun xs ds h1 H1 μ1 m1 sr1 hr1 vs bk1 => hs H1 μ1 h1 xs ds Q _ hr1 vs bk1
theorem se_callTy {x : Str} {p : Pos} {T : String} {r : List V → Hp → VK → Prop} {f : List D → MH → R D} (hc : CallR X (.type T) r) (hs : SN g r f) (hg : Gl X x) (hm : X.mg x = none) (hv : bootBuiltins x = some (.type T)) (ha : PA X (e :: es) (tA g W mr))
    (hn : x ≠ "__name__" := by decide) (hdb : (x == ("__debug__" : Str)) = false := by decide)
    (he : starEach (e :: es) X.env = (false, eval e X.env) :: starEach es X.env := by rfl) (hpl : (backTo pos (starEach es X.env)).any (·.1) = false := by rfl) : PE X (.Call (.Name x p) (e :: es) [] pos) (tE g W (mCall f mr)) :=
  pe_mono (pe_callTy hc hg hm hv ha hn hdb he hpl) fun σ H Q ⟨ρ, h, μ, sr, hr, bk⟩ => step sr hr bk fun xs ds h1 H1 μ1 m1 sr1 hr1 vs bk1 => hs H1 μ1 h1 xs ds Q _ hr1 vs bk1
/-! ### methods of built-in types -/
def mMeth (T : D → MH → Bool) (f : D → List D → MH → R D) (a : ME) (r : MA) : ME := fun ρ h => (a ρ h).bind fun x h1 => if T x h1 = true then (r ρ h1).bind fun xs h2 => f x xs h2 else .bad
def isListD (x : D) (h : MH) : Bool := match x with
  | .ref i => (getL h i).isSome
  | _ => false
def isStrD (x : D) (_ : MH) : Bool := match x with
  | .str _ => true
  | _ => false
def isTupD (x : D) (_ : MH) : Bool := match x with
  | .tup _ => true
  | _ => false
/-! ### defs of the program -/
def spM (g : G) (F : List D → MH → R D) : Sp := fun vs H Q E => ∃ ds h μ, VRs g H μ vs ds ∧ HR g H μ h ∧ Bk (VR g) g H μ (F ds h) Q E
theorem se_call {k : Nat} {f : Addr} {fd : FuncData} {ps : List Str} {F : List D → MH → R D} {x : Str} {p : Pos} (FF : FnOk X.prog X.w X.K X.mg X.base (L2.CX X.prog X.w) k f fd ps (spM g F)) (hr : Room k X.A) (tk : Takes X W) (hm : X.mg x = some (.ref f)) (hk : PySem.W.keepIn X.K (.ref f) = true) (hb : Binds X.K fd ps [])
    (ha : PA X (e :: es) (tA g W mr)) (hg : Gl X x := by rfl) (hdb : (x == ("__debug__" : Str)) = false := by decide) (he : starEach (e :: es) X.env = (false, eval e X.env) :: starEach es X.env := by rfl) (hpl : (backTo pos (starEach es X.env)).any (·.1) = false := by rfl) :
    PE X (.Call (.Name x p) (e :: es) [] pos) (tE g W (mCall F mr)) :=
  pe_mono (pe_callS FF hr hg hm hk hb (fun σ => passAt tk σ) ha hdb he hpl) fun σ H Q ⟨ρ, h, μ, sr, hr, bk⟩ => step sr hr bk fun xs ds h1 H1 μ1 m1 sr1 hr1 vs bk1 => ⟨ds, h1, μ1, vs, hr1, bk1⟩

/-! ### tests -/
def mB (a : ME) : MT := fun ρ h => (a ρ h).bind fun x h1 => match x with
  | .bl b => .ok b h1
  | _ => .bad
def mAnd (a b : MT) : MT := fun ρ h => (a ρ h).bind fun x h1 => if x = true then b ρ h1 else .ok false h1
def mOr (a b : MT) : MT := fun ρ h => (a ρ h).bind fun x h1 => if x = true then .ok true h1 else b ρ h1
def mNot (a : MT) : MT := fun ρ h => (a ρ h).bind fun x h1 => .ok (!x) h1
theorem bl_of {σ : St} {H : Hp} {Q : Bool → Hp → Prop} (q : tT g W (mB ma) σ H Q) : tE g W ma σ H fun x H1 => ∃ c, x = .bl c ∧ Q c H1 := by
  obtain ⟨ρ, h, μ, sr, hr, bk⟩ := q
  refine step (rel := VR) (rel' := fun _ => eqR) (ma := ma) sr hr bk fun x a h1 H1 μ1 m1 sr1 hr1 vx bk1 => ?_
  cases vx with
  | bl b => exact ⟨b, rfl, bk1 b H1 μ1 Mon.refl hr1 rfl⟩
  | _ => exact bk1.elim
theorem st_val (ha : PE X a (tE g W ma)) (he : ∀ whole, isTrue a X.env whole = (do let v ← whole; standAt a.pos; holding [v] (truthy v)) := by intro _; rfl) : PT X a (tT g W (mB ma)) :=
  pt_mono (pt_val ha he) fun σ H Q q => bl_of q
theorem st_cmp {op : CmpOp} {r : R2} {f : D → D → MH → R D} (ho : OpR X (compareOp op) r) (hs : S2 g r f) (ha : PE X a (tE g W ma)) (hb : PE X b (tE g W mb)) (hm : behindInMarks op b = false) : PT X (.Compare a [op] [b] pos) (tT g W (mB (mBin f ma mb))) :=
  pt_mono (pt_cmpR ho ha hb hm) fun σ H Q ⟨ρ, h, μ, sr, hr, bk⟩ => by
    refine two (W := W) (f := f) hs ⟨ρ, h, μ, sr, hr, ?_⟩
    refine Bk.bind bk fun a h1 b H1 μ1 _ m hr1 hv bk1 => ?_
    cases hv with
    | bl b => exact ⟨b, rfl, bk1 b H1 μ1 Mon.refl hr1 rfl⟩
    | _ => exact bk1.elim
variable {tm um : MT} {rest : List Expr}
theorem st_not (ha : PT X a (tT g W tm)) : PT X (.UnaryOp .Not a pos) (tT g W (mNot tm)) :=
  pt_mono (pt_not ha) fun σ H Q ⟨ρ, h, μ, sr, hr, bk⟩ => step (rel := fun _ => eqR) (rel' := fun _ => eqR) (ma := tm) (Q' := Q) sr hr bk fun x a h1 H1 μ1 m1 sr1 hr1 vx bk1 => by
    cases vx
    exact bk1 _ H1 μ1 Mon.refl hr1 rfl
theorem sw_and1 (ha : PT X a (tT g W tm)) : PW X (.BoolOp .And [a] pos) (tT g W tm) := pw_and1 ha
theorem sw_or1 (ha : PT X a (tT g W tm)) : PW X (.BoolOp .Or [a] pos) (tT g W tm) := pw_or1 ha
theorem sw_and (ha : PT X a (tT g W tm)) (hb : PW X (.BoolOp .And (b :: rest) pos) (tT g W um)) : PW X (.BoolOp .And (a :: b :: rest) pos) (tT g W (mAnd tm um)) :=
  pw_mono (pw_and ha hb) fun σ H Q ⟨ρ, h, μ, sr, hr, bk⟩ => step (rel := fun _ => eqR) (rel' := fun _ => eqR) (ma := tm) (Q' := Q) sr hr bk fun x a h1 H1 μ1 m1 sr1 hr1 vx bk1 => by
    cases vx
    cases x with
    | true => exact ⟨ρ, h1, μ1, sr1, hr1, bk1⟩
    | false => exact bk1 _ H1 μ1 Mon.refl hr1 rfl
theorem sw_or (ha : PT X a (tT g W tm)) (hb : PW X (.BoolOp .Or (b :: rest) pos) (tT g W um)) : PW X (.BoolOp .Or (a :: b :: rest) pos) (tT g W (mOr tm um)) :=
  pw_mono (pw_or ha hb) fun σ H Q ⟨ρ, h, μ, sr, hr, bk⟩ => step (rel := fun _ => eqR) (rel' := fun _ => eqR) (ma := tm) (Q' := Q) sr hr bk fun x a h1 H1 μ1 m1 sr1 hr1 vx bk1 => by
    cases vx
    cases x with
    | false => exact ⟨ρ, h1, μ1, sr1, hr1, bk1⟩
    | true => exact bk1 _ H1 μ1 Mon.refl hr1 rfl
/-! ### and, or, not as values (of truths) -/
def mAndV (a b : ME) : ME := fun ρ h => (a ρ h).bind fun x h1 => match x with
  | .bl true => b ρ h1
  | .bl false => .ok (.bl false) h1
  | _ => .bad
def mOrV (a b : ME) : ME := fun ρ h => (a ρ h).bind fun x h1 => match x with
  | .bl false => b ρ h1
  | .bl true => .ok (.bl true) h1
  | _ => .bad
def mNotV (a : ME) : ME := fun ρ h => (a ρ h).bind fun x h1 => match x with
  | .bl b => .ok (.bl (!b)) h1
  | _ => .bad
def mIfE (c : MT) (a b : ME) : ME := fun ρ h => (c ρ h).bind fun x h1 => if x = true then a ρ h1 else b ρ h1
end

/-! ### statements -/
def mSkip : MS := fun ρ h => .nx ρ h
def mSeq (a b : MS) : MS := fun ρ h => match a ρ h with
  | .nx ρ' h' => b ρ' h'
  | o => o
def mBreak : MS := fun ρ h => .bk ρ h
def mCont : MS := fun ρ h => .ct ρ h
def mDrop (e : ME) : MS := fun ρ h => (e ρ h).out ρ fun _ h1 => .nx ρ h1
def mRet (e : ME) : MS := fun ρ h => (e ρ h).out ρ fun d h1 => .rt d h1
def mRetN : MS := fun _ h => .rt .non h
def mIf (c : MT) (a b : MS) : MS := fun ρ h => (c ρ h).out ρ fun x h1 => if x = true then a ρ h1 else b ρ h1
def mAsg (i : Nat) (e : ME) : MS := fun ρ h => (e ρ h).out ρ fun d h1 => .nx (ρ.set i (some d)) h1
section
variable {X : Cx} {g : G} {W : WX} {e : Expr} {me : ME} {pos : Pos} {st : Stmt} {rest : List Stmt} {ms mr : MS}
theorem ss_nil : PSs X [] (tS g W mSkip) := pss_mono pss_nil fun E σ H ⟨ρ, h, μ, sr, hr, bk⟩ => bk σ H μ Mon.refl sr hr
theorem seq_of {E : Ends} {σ : St} {H : Hp} (q : tS g W (mSeq ms mr) E σ H) : tSeq (tS g W ms) (tS g W mr) E σ H := by
  obtain ⟨ρ, h, μ, sr, hr, bk⟩ := q
  refine ⟨ρ, h, μ, sr, hr, ?_⟩
  unfold mSeq at bk
  cases e : ms ρ h with
  | nx ρ' h' =>
    rw [e] at bk
    exact fun σ' H' μ' m sr' hr' => ⟨ρ', h', μ', sr', hr', BkS.mono m bk⟩
  | rt d h' => rw [e] at bk; exact bk
  | bk ρ' h' => rw [e] at bk; exact bk
  | ct ρ' h' => rw [e] at bk; exact bk
  | exc x fs ρ' h' => rw [e] at bk; exact bk
  | bad => rw [e] at bk; exact bk
theorem ss_cons (h1 : PS X st (tS g W ms)) (h2 : PSs X rest (tS g W mr)) : PSs X (st :: rest) (tS g W (mSeq ms mr)) := pss_mono (pss_cons h1 h2) fun E σ H q => seq_of q
theorem ss_one (h1 : PS X st (tS g W ms)) : PSs X [st] (tS g W ms) := pss_one h1
theorem sx_expr (he : PE X e (tE g W me)) (hs : swapsWith e none pos.line X.env = pure false := by rfl) : PS X (.Expr e pos) (tS g W (mDrop me)) :=
  ps_mono (ps_expr he hs) fun E σ H ⟨ρ, h, μ, sr, hr, bk⟩ => stepS (rel := VR) (ma := me) (E := E) sr hr bk fun x a h1 H1 μ1 m1 sr1 hr1 vx bk1 => bk1 σ H1 μ1 Mon.refl sr1 hr1
theorem sx_ret (he : PE X e (tE g W me)) : PS X (.Return (some e) pos) (tS g W (mRet me)) :=
  ps_mono (ps_ret he) fun E σ H ⟨ρ, h, μ, sr, hr, bk⟩ => stepS (rel := VR) (ma := me) (E := E) sr hr bk fun x a h1 H1 μ1 m1 sr1 hr1 vx bk1 => bk1 x H1 μ1 Mon.refl hr1 vx
theorem sx_if {c : Expr} {a b : List Stmt} {tm : MT} (hc : PT X c (tT g W tm)) (ha : PSs X a (tS g W ms)) (hb : PSs X b (tS g W mr)) : PS X (.If c a b pos) (tS g W (mIf tm ms mr)) :=
  ps_mono (ps_if hc ha hb) fun E σ H ⟨ρ, h, μ, sr, hr, bk⟩ => stepS (rel := fun _ => eqR) (ma := tm) (E := E) sr hr bk fun x a h1 H1 μ1 m1 sr1 hr1 vx bk1 => by
    cases vx
    cases x with
    | true => exact ⟨ρ, h1, μ1, sr1, hr1, bk1⟩
    | false => exact ⟨ρ, h1, μ1, sr1, hr1, bk1⟩
theorem sx_set {i : Nat} {x : Str} {pos' : Pos} (he : PE X e (tE g W me)) (hN : X.N.Nodup) (hi : X.N[i]? = some x := by rfl) (hx : Loc X.env.scope x := by first | exact Or.inl rfl | exact Or.inr rfl) (hs : swapsWith e (some (.Name x pos')) pos.line X.env = pure false := by rfl)
    (hf : X.fn x = true ∨ X.env.scope.names.lookup x = some .local := by first | exact .inl rfl | exact .inr rfl | assumption) : PS X (.Assign [.Name x pos'] e pos) (tS g W (mAsg i me)) :=
  ps_mono (ps_set hN hi hx he hs hf) fun E σ H ⟨ρ, h, μ, sr, hr, bk⟩ => stepS (rel := VR) (ma := me) (E := E) sr hr bk fun v d h1 H1 μ1 m1 sr1 hr1 vx bk1 => bk1 _ H1 μ1 Mon.refl (sr1.set i vx) hr1
end
end Mi

namespace Mi
open PySem L2

/-! ### operators by values -/
def dAdd : D → D → MH → R D
  | .int i, .int j, h => .ok (.int (i + j)) h
  | .str x, .str y, h => if x.length + y.length ≤ 1000000 then .ok (.str (x ++ y)) h else .bad
  | .tup a, .tup b, h => if a.length + b.length ≤ 1000000 then .ok (.tup (a ++ b)) h else .bad
  | .ref i, .ref j, h => match h[i]?, h[j]? with
    | some (.lst a), some (.lst b) => if a.length + b.length ≤ 1000000 then .ok (.ref h.length) (h ++ [.lst (a ++ b)]) else .bad
    | _, _ => .bad
  | _, _, _ => .bad
def dSub : D → D → MH → R D
  | .int i, .int j, h => .ok (.int (i - j)) h
  | _, _, _ => .bad
def dMul : D → D → MH → R D
  | .int i, .int j, h => if (Builtin.Int.intBits i : Int) + (Builtin.Int.intBits j : Int) ≤ 134217728 then .ok (.int (i * j)) h else .bad
  | .str x, .int n, h => if n ≤ 1000000 ∧ -1000000 ≤ n ∧ x.length * n.toNat ≤ 1000000 then .ok (.str (Txt.mul x n)) h else .bad
  | _, _, _ => .bad
def dFdiv : D → D → MH → R D
  | .int i, .int j, h => if 0 < j ∧ j.natAbs.log2 < 9000 then .ok (.int (i / j)) h else .bad
  | _, _, _ => .bad
def dMod : D → D → MH → R D
  | .int i, .int j, h => if 0 < j then .ok (.int (i % j)) h else .bad
  | _, _, _ => .bad
def dPow : D → D → MH → R D
  | .int i, .int j, h => if 0 ≤ j ∧ j ≤ 1000000 ∧ i.natAbs < 2 ^ 64 then .ok (.int (i ^ j.toNat)) h else .bad
  | _, _, _ => .bad
def dShl : D → D → MH → R D
  | .int i, .int j, h => if 0 ≤ j ∧ j ≤ 1000000 ∧ i.natAbs < 2 ^ 64 then .ok (.int (i * 2 ^ j.toNat)) h else .bad
  | _, _, _ => .bad
def dBand : D → D → MH → R D
  | .int i, .int j, h => .ok (.int (Builtin.bitAnd i j)) h
  | _, _, _ => .bad
def dBor : D → D → MH → R D
  | .int i, .int j, h => .ok (.int (Builtin.bitOr i j)) h
  | _, _, _ => .bad
def dLt : D → D → MH → R D
  | .int i, .int j, h => .ok (.bl (decide (i < j))) h
  | _, _, _ => .bad
def dLe : D → D → MH → R D
  | .int i, .int j, h => .ok (.bl (decide (i ≤ j))) h
  | _, _, _ => .bad
def dGt : D → D → MH → R D
  | .int i, .int j, h => .ok (.bl (decide (j < i))) h
  | _, _, _ => .bad
def dGe : D → D → MH → R D
  | .int i, .int j, h => .ok (.bl (decide (j ≤ i))) h
  | _, _, _ => .bad
def dNeg : D → MH → R D
  | .int i, h => .ok (.int (-i)) h
  | _, _ => .bad

section
variable {g : G} {X : Cx}
theorem s2_int {C : Int → Int → Prop} [∀ i j, Decidable (C i j)] {o : Int → Int → Int} {f : D → D → MH → R D} (hi : ∀ i j h, f (.int i) (.int j) h = if C i j then .ok (.int (o i j)) h else .bad) (hb : ∀ a b h, (∀ i j, ¬ (a = .int i ∧ b = .int j)) → f a b h = .bad) :
    S2 g (rI C fun i j => .int (o i j)) f := by
  intro H μ h x y a b Q W hr vx vy bk
  have no : (∀ i j, ¬ (a = .int i ∧ b = .int j)) → rI C (fun i j => .int (o i j)) x y H Q := fun z => by rw [hb a b h z] at bk; exact bk.elim
  cases vx with
  | int i =>
    cases vy with
    | int j =>
      rw [hi] at bk
      by_cases c : C i j
      · rw [if_pos c] at bk
        exact ⟨i, j, rfl, rfl, c, bk.val hr (.int _)⟩
      · rw [if_neg c] at bk; exact bk.elim
    | _ => exact no fun _ _ z => nomatch z.2
  | _ => exact no fun _ _ z => nomatch z.1
theorem s2_int0 {o : Int → Int → V} {o' : Int → Int → D} {f : D → D → MH → R D} (hi : ∀ i j h, f (.int i) (.int j) h = .ok (o' i j) h) (hv : ∀ H μ i j, VR g H μ (o i j) (o' i j)) (hb : ∀ a b h, (∀ i j, ¬ (a = .int i ∧ b = .int j)) → f a b h = .bad) :
    S2 g (rI0 o) f := by
  intro H μ h x y a b Q W hr vx vy bk
  have no : (∀ i j, ¬ (a = .int i ∧ b = .int j)) → rI0 o x y H Q := fun z => by rw [hb a b h z] at bk; exact bk.elim
  cases vx with
  | int i =>
    cases vy with
    | int j =>
      rw [hi] at bk
      exact ⟨i, j, rfl, rfl, bk.val hr (hv _ _ _ _)⟩
    | _ => exact no fun _ _ z => nomatch z.2
  | _ => exact no fun _ _ z => nomatch z.1
theorem int_bad {f : D → D → MH → R D} (hf : ∀ (a b : D) (h : MH), (match a, b with | D.int _, D.int _ => True | _, _ => f a b h = .bad)) : ∀ a b h, (∀ i j, ¬ (a = .int i ∧ b = .int j)) → f a b h = .bad := fun a b h z => by
  have := hf a b h
  split at this
  · exact absurd ⟨rfl, rfl⟩ (z _ _)
  · exact this
theorem s2_sub : S2 g (rI0 fun i j => .int (i - j)) dSub := s2_int0 (o' := fun i j => .int (i - j)) (fun _ _ _ => rfl) (fun _ _ _ _ => .int _) (int_bad fun a b h => by cases a <;> cases b <;> first | trivial | rfl)
theorem s2_fdiv : S2 g (rI CDivW fun i j => .int (i / j)) dFdiv := s2_int (C := fun i j => 0 < j ∧ j.natAbs.log2 < 9000) (o := fun i j => i / j) (fun _ _ _ => rfl) (int_bad fun a b h => by cases a <;> cases b <;> first | trivial | rfl)
theorem s2_mod : S2 g (rI (fun _ j => 0 < j) fun i j => .int (i % j)) dMod := s2_int (C := fun i j => 0 < j) (o := fun i j => i % j) (fun _ _ _ => rfl) (int_bad fun a b h => by cases a <;> cases b <;> first | trivial | rfl)
theorem s2_pow : S2 g (rI CPow fun i j => .int (i ^ j.toNat)) dPow := s2_int (C := fun i j => 0 ≤ j ∧ j ≤ 1000000 ∧ i.natAbs < 2 ^ 64) (o := fun i j => i ^ j.toNat) (fun _ _ _ => rfl) (int_bad fun a b h => by cases a <;> cases b <;> first | trivial | rfl)
theorem s2_shl : S2 g (rI CPow fun i j => .int (i * 2 ^ j.toNat)) dShl := s2_int (C := fun i j => 0 ≤ j ∧ j ≤ 1000000 ∧ i.natAbs < 2 ^ 64) (o := fun i j => i * 2 ^ j.toNat) (fun _ _ _ => rfl) (int_bad fun a b h => by cases a <;> cases b <;> first | trivial | rfl)
theorem s2_lt : S2 g (rI0 fun i j => .bl (decide (i < j))) dLt := s2_int0 (o' := fun i j => .bl (decide (i < j))) (fun _ _ _ => rfl) (fun _ _ _ _ => .bl _) (int_bad fun a b h => by cases a <;> cases b <;> first | trivial | rfl)
theorem s2_gt : S2 g (rI0 fun i j => .bl (decide (j < i))) dGt := s2_int0 (o' := fun i j => .bl (decide (j < i))) (fun _ _ _ => rfl) (fun _ _ _ _ => .bl _) (int_bad fun a b h => by cases a <;> cases b <;> first | trivial | rfl)
theorem s2_ge : S2 g (rI0 fun i j => .bl (decide (j ≤ i))) dGe := s2_int0 (o' := fun i j => .bl (decide (j ≤ i))) (fun _ _ _ => rfl) (fun _ _ _ _ => .bl _) (int_bad fun a b h => by cases a <;> cases b <;> first | trivial | rfl)
theorem s1_neg : S1 g (rU fun i => .int (-i)) dNeg := by
  intro H μ h x a Q W hr vx bk
  cases vx with
  | int i => exact ⟨i, rfl, bk.val hr (.int _)⟩
  | _ => exact bk.elim
/-- + -/
def rAddA (K : PySem.W.Frag) : R2 := fun x y H Q => (rI0 (fun i j => .int (i + j)) x y H Q ∨ (∃ i j, x = .str i ∧ y = .str j ∧ i.length + j.length ≤ sizeLine ∧ Q (.str (i ++ j)) H)) ∨ (rCatF K x y H Q ∨ rCat x y H Q)
theorem op_addA : OpR X (binaryOp .Add) (rAddA X.K) := (op_add.or op_add_str).or (op_catF.or op_cat)
theorem nil_of_vrs {H : Hp} {μ : List Addr} {xs : List V} {ds : List D} (h : VRs g H μ xs ds) (e : xs = []) : ds = [] := by subst e; cases h; rfl
theorem s2_add : S2 g (rAddA g.K) dAdd := by
  intro H μ h x y a b Q W hr vx vy bk
  cases vx with
  | int i =>
    cases vy with
    | int j => exact .inl (.inl ⟨i, j, rfl, rfl, bk.val hr (.int _)⟩)
    | _ => exact bk.elim
  | str i =>
    cases vy with
    | str j =>
      simp only [dAdd] at bk
      split at bk
      · rename_i hl
        exact .inl (.inr ⟨i, j, rfl, rfl, sz6 hl, bk.val hr (.str _)⟩)
      · exact bk.elim
    | _ => exact bk.elim
  | @tup p xs ds hs vs =>
    cases vy with
    | @tup q ys es ht vt =>
      simp only [dAdd] at bk
      split at bk
      · rename_i hl
        refine .inr (.inl ⟨p, q, xs, ys, rfl, rfl, hs.sq, ht.sq, by rw [vs.length, vt.length]; exact sz6 hl, fun e => ?_, fun e e' => ?_, fun e e' r ob hr' ho => ?_⟩)
        · rw [nil_of_vrs vs e] at bk
          exact bk.val hr (.tup ht vt)
        · rw [nil_of_vrs vt e', List.append_nil] at bk
          exact bk.val hr (.tup hs vs)
        · exact bk.newT hr (vs.append vt) hr' ho
      · exact bk.elim
    | _ => exact bk.elim
  | @ref p i hi =>
    cases vy with
    | @ref q j hj =>
      simp only [dAdd] at bk
      split at bk
      · rename_i l1 l2 e1 e2
        obtain ⟨xs, h1, v1⟩ := hr.lst hi e1
        obtain ⟨ys, h2, v2⟩ := hr.lst hj e2
        split at bk
        · rename_i hl
          exact .inr (.inr ⟨p, q, xs, ys, rfl, rfl, h1, h2, by rw [v1.length, v2.length]; exact sz6 hl, fun r hr' => bk.newL hr (v1.append v2) hr'⟩)
        · exact bk.elim
      · exact bk.elim
    | _ => exact bk.elim
  | _ => exact bk.elim
/-- * -/
theorem op_mul_str : OpR X (binaryOp .Mult) (fun x y H Q => ∃ z n, x = .str z ∧ y = .int n ∧ MulOk z n ∧ Q (.str (Txt.mul z n)) H) := by
  intro pins s σ H x y v u Q I rx ry h
  obtain ⟨z, n, rfl, rfl, hok, q⟩ := h
  obtain ⟨t, rfl⟩ := rx
  obtain ⟨t', rfl⟩ := ry
  exact PySem.SB.mul hok fun t' k => ⟨.str _, H, I.tok k, ⟨t', rfl⟩, q⟩
def rMulA : R2 := fun x y H Q => rI CMulX (fun i j => .int (i * j)) x y H Q ∨ (∃ z n, x = .str z ∧ y = .int n ∧ MulOk z n ∧ Q (.str (Txt.mul z n)) H)
theorem op_mulA : OpR X (binaryOp .Mult) rMulA := op_mulX.or op_mul_str
theorem mulOk_of {z : Str} {n : Int} (h1 : n ≤ 1000000) (h2 : -1000000 ≤ n) (h3 : z.length * n.toNat ≤ 1000000) : MulOk z n := by
  refine ⟨?_, fun a b => ?_, fun a b => ?_⟩
  · rw [decide_eq_false (by omega), decide_eq_false (by omega)]; rfl
  · have hz : z.length ≤ 1000000 := Nat.le_trans (Nat.le_mul_of_pos_right _ (by omega)) h3
    have : (2 ^ 63 - 1 : Int) / n ≥ (2 ^ 63 - 1) / 1000000 := by
      have h0 : 0 < n := by omega
      rw [ge_iff_le, Int.le_ediv_iff_mul_le h0]
      have : (2 ^ 63 - 1 : Int) / 1000000 * n ≤ (2 ^ 63 - 1 : Int) / 1000000 * 1000000 := Int.mul_le_mul_of_nonneg_left h1 (by decide)
      exact Int.le_trans this (by decide)
    have h4 : ((2 ^ 63 - 1 : Int)) / 1000000 ≥ 1000000 := by decide
    omega
  · unfold Builtin.Str.tooLong
    simp only [decide_eq_false_iff_not]
    first
      | (show ¬ (z.length * n.toNat > sizeLine); rw [sizeLine_eq]; omega)
      | (rw [decide_eq_false_iff_not, sizeLine_eq]; omega)
      | (simp; omega)
theorem s2_mul : S2 g rMulA dMul := by
  intro H μ h x y a b Q W hr vx vy bk
  cases vx with
  | int i =>
    cases vy with
    | int j =>
      simp only [dMul] at bk
      split at bk
      · rename_i c
        exact .inl ⟨i, j, rfl, rfl, c, bk.val hr (.int _)⟩
      · exact bk.elim
    | _ => exact bk.elim
  | str z =>
    cases vy with
    | int n =>
      simp only [dMul] at bk
      split at bk
      · rename_i c
        exact .inr ⟨z, n, rfl, rfl, mulOk_of c.1 c.2.1 c.2.2, bk.val hr (.str _)⟩
      · exact bk.elim
    | _ => exact bk.elim
  | _ => exact bk.elim
end

/-! ### ==, != -/
def allSome {α : Type} : List (Option α) → Option (List α)
  | [] => some []
  | none :: _ => none
  | some a :: r => (allSome r).map (a :: ·)
def pyOf : Nat → MH → D → Option PyData
  | 0, _, _ => none
  | _ + 1, _, .non => some .none
  | _ + 1, _, .bl b => some (.bool b)
  | _ + 1, _, .int i => some (.int i)
  | _ + 1, _, .str x => some (.str x)
  | n + 1, h, .tup l => (allSome (l.map (pyOf n h))).map .tuple
  | n + 1, h, .ref i => (getL h i).bind fun l => (allSome (l.map (pyOf n h))).map .list
  | _ + 1, _, .xo _ _ _ => none
section
variable {g : G} {X : Cx} {H : Hp} {μ : List Addr} {h : MH}
theorem dp_all {f : D → Option PyData} (hf : ∀ d v e, VR g H μ v d → f d = some e → Dp g.K H v e) : ∀ {xs : List V} {ds : List D} {es : List PyData}, VRs g H μ xs ds → allSome (ds.map f) = some es → DpAll g.K H xs es
  | _, _, _, .nil, e => by
    simp only [List.map_nil, allSome, Option.some.injEq] at e
    subst e
    exact .nil
  | _, _, _, .cons (d := d) a b, e => by
    rw [List.map_cons] at e
    cases q : f d with
    | none => rw [q] at e; simp [allSome] at e
    | some z =>
      rw [q] at e
      simp only [allSome, Option.map_eq_some_iff] at e
      obtain ⟨r, e1, rfl⟩ := e
      exact .cons (hf _ _ _ a q) (dp_all hf b e1)
theorem dp_of (hr : HR g H μ h) : ∀ (n : Nat) (d : D) (v : V) (e : PyData), VR g H μ v d → pyOf n h d = some e → Dp g.K H v e
  | 0, _, _, _, _, q => by cases q
  | n + 1, d, v, e, a, q => by
    cases a with
    | xo _ _ _ _ => cases q
    | non => cases q; exact .non
    | bl b => cases q; exact .bl b
    | int b => cases q; exact .int b
    | str b => cases q; exact .str b
    | tup hs vs =>
      simp only [pyOf, Option.map_eq_some_iff] at q
      obtain ⟨es, q, rfl⟩ := q
      exact .tup hs.sq (dp_all (fun d v e a q => dp_of hr n d v e a q) vs q)
    | ref hi =>
      simp only [pyOf, Option.bind_eq_some_iff, Option.map_eq_some_iff] at q
      obtain ⟨l, q1, es, q2, rfl⟩ := q
      obtain ⟨xs, hs, vs⟩ := hr.list hi q1
      exact .lst hs (dp_all (fun d v e a q => dp_of hr n d v e a q) vs q2)
def scalD : D → D → Bool
  | .non, .non => true | .non, .int _ => true | .int _, .non => true | .non, .bl _ => true | .bl _, .non => true | .non, .str _ => true | .str _, .non => true
  | .int _, .int _ => true | .bl _, .bl _ => true | .str _, .str _ => true
  | .int _, .str _ => true | .str _, .int _ => true | .bl _, .str _ => true | .str _, .bl _ => true
  | _, _ => false
def eqD (a b : D) (h : MH) : Option Bool := if scalD a b = true then some (decide (a = b)) else match pyOf 60 h a, pyOf 60 h b with
  | some d, some e => if SeqAt.shaped d = true ∧ SeqAt.shaped e = true then some (PyData.eqv d e) else none
  | _, _ => none
/-- two dicts without pairs -/
def no2 (a b : D) (h : MH) : Bool := match a, b with
  | .ref i, .ref j => decide (h[i]? = some (.dK [])) && decide (h[j]? = some (.dK []))
  | _, _ => false
/-- two tuples, one without items -/
def emp2 (a b : D) : Option Bool := match a, b with
  | .tup l, .tup m => if l = [] ∨ m = [] then some (decide (l.length = m.length)) else none
  | _, _ => none
def dEq (a b : D) (h : MH) : R D := match eqD a b h with
  | some k => .ok (.bl k) h
  | none => match emp2 a b with
    | some k => .ok (.bl k) h
    | none => if no2 a b h = true then .ok (.bl true) h else .bad
def dNe (a b : D) (h : MH) : R D := match eqD a b h with
  | some k => .ok (.bl (!k)) h
  | none => match emp2 a b with
    | some k => .ok (.bl (!k)) h
    | none => .bad
def rEqE (K : PySem.W.Frag) : R2 := fun x y H Q => ∃ a b xs ys, x = .ref a ∧ y = .ref b ∧ SqT K H a xs ∧ SqT K H b ys ∧ (xs = [] ∨ ys = []) ∧ Q (.bl (decide (xs.length = ys.length))) H
def rNeE (K : PySem.W.Frag) : R2 := fun x y H Q => ∃ a b xs ys, x = .ref a ∧ y = .ref b ∧ SqT K H a xs ∧ SqT K H b ys ∧ (xs = [] ∨ ys = []) ∧ Q (.bl (!decide (xs.length = ys.length))) H
theorem emp_ev {us ws : Array Value} {n m : Nat} (h1 : us.size = n) (h2 : ws.size = m) (h0 : n = 0 ∨ m = 0) : ((List.range (min us.size ws.size)).all (fun _ => true) && us.size == ws.size) = decide (n = m) := by
  subst h1 h2
  have : min us.size ws.size = 0 := by omega
  rw [this]
  simp only [List.range_zero, List.all_nil, Bool.true_and]
  rw [Bool.eq_iff_iff, beq_iff_eq, decide_eq_true_iff]
theorem op_eqE (hu : X.A.units + 64 < cLine) : OpR X (compareOp .Eq) (rEqE X.K) := by
  intro pins s σ H x y v u Q I rx ry hh
  obtain ⟨a, b, xs, ys, rfl, rfl, ha, hb, h0, q⟩ := hh
  cases rx
  cases ry
  obtain ⟨ws1, r1, p1, _⟩ := I.tuple ha
  obtain ⟨ws2, r2, p2, _⟩ := I.tuple hb
  have l1 : ws1.toArray.size = xs.length := by rw [List.size_toArray]; exact r1.length.symm
  have l2 : ws2.toArray.size = ys.length := by rw [List.size_toArray]; exact r2.length.symm
  have h00 : xs.length = 0 ∨ ys.length = 0 := by
    rcases h0 with z | z
    · exact .inl (by rw [z]; rfl)
    · exact .inr (by rw [z]; rfl)
  refine SeqAt.eq_tupleAt (e := fun _ => true) p1 p2 (by omega) (fun j j1 j2 => by omega) ?_
  rw [emp_ev l1 l2 h00]
  exact ⟨.bl _, H, I, rfl, q⟩
theorem op_neE (hu : X.A.units + 64 < cLine) : OpR X (compareOp .NotEq) (rNeE X.K) := by
  intro pins s σ H x y v u Q I rx ry hh
  obtain ⟨a, b, xs, ys, rfl, rfl, ha, hb, h0, q⟩ := hh
  cases rx
  cases ry
  obtain ⟨ws1, r1, p1, _⟩ := I.tuple ha
  obtain ⟨ws2, r2, p2, _⟩ := I.tuple hb
  have l1 : ws1.toArray.size = xs.length := by rw [List.size_toArray]; exact r1.length.symm
  have l2 : ws2.toArray.size = ys.length := by rw [List.size_toArray]; exact r2.length.symm
  have h00 : xs.length = 0 ∨ ys.length = 0 := by
    rcases h0 with z | z
    · exact .inl (by rw [z]; rfl)
    · exact .inr (by rw [z]; rfl)
  refine SeqAt.RcNeAt.tuples (e := fun _ => true) p1 p2 (by omega) (fun j j1 j2 => by omega) _ _ _ _ ?_
  rw [emp_ev l1 l2 h00]
  exact ⟨.bl _, H, I, rfl, q⟩
def rEqA (K : PySem.W.Frag) : R2 := fun x y H Q => rEq x y H Q ∨ (rEqD K x y H Q ∨ (rEqV K x y H Q ∨ rEqE K x y H Q))
def rNeA (K : PySem.W.Frag) : R2 := fun x y H Q => rNe x y H Q ∨ (rNeD K x y H Q ∨ rNeE K x y H Q)
theorem op_eqA (hu : X.A.units + 65 < cLine) : OpR X (compareOp .Eq) (rEqA X.K) := op_eq.or ((op_eqD (by omega)).or ((op_eqV (by omega)).or (op_eqE (by omega))))
theorem op_neA (hu : X.A.units + 65 < cLine) : OpR X (compareOp .NotEq) (rNeA X.K) := op_ne.or ((op_neD (by omega)).or (op_neE (by omega)))
theorem scal_of {x y : V} {a b : D} (vx : VR g H μ x a) (vy : VR g H μ y b) (e : scalD a b = true) : scal x y = true ∧ decide (x = y) = decide (a = b) := by
  cases vx <;> cases vy <;> first | (cases e; done) | (refine ⟨rfl, ?_⟩; simp)
theorem eq_of {x y : V} {a b : D} {k : Bool} (hr : HR g H μ h) (vx : VR g H μ x a) (vy : VR g H μ y b) (e : eqD a b h = some k) :
    (scal x y = true ∧ decide (x = y) = k) ∨ ∃ d e, Dp g.K H x d ∧ Dp g.K H y e ∧ SeqAt.shaped d = true ∧ SeqAt.shaped e = true ∧ PyData.eqv d e = k := by
  unfold eqD at e
  split at e
  · rename_i s
    obtain ⟨h1, h2⟩ := scal_of vx vy s
    cases e
    exact .inl ⟨h1, h2⟩
  · split at e
    · rename_i d e' q1 q2
      split at e
      · rename_i s
        cases e
        exact .inr ⟨d, e', dp_of hr _ _ _ _ vx q1, dp_of hr _ _ _ _ vy q2, s.1, s.2, rfl⟩
      · cases e
    · cases e
theorem s2_eq : S2 g (rEqA g.K) dEq := by
  intro H μ h x y a b Q W hr vx vy bk
  unfold dEq at bk
  split at bk
  · rename_i k e
    rcases eq_of hr vx vy e with ⟨h1, h2⟩ | ⟨d, e, h1, h2, h3, h4, h5⟩
    · exact .inl ⟨h1, by rw [h2]; exact bk.val hr (.bl _)⟩
    · exact .inr (.inl ⟨d, e, h1, h2, h3, h4, by rw [h5]; exact bk.val hr (.bl _)⟩)
  · split at bk
    · rename_i k q
      unfold emp2 at q
      split at q
      · rename_i l m
        split at q
        · rename_i z
          cases q
          cases vx with
          | tup hs vs =>
            cases vy with
            | tup ht ws =>
              refine .inr (.inr (.inr ⟨_, _, _, _, rfl, rfl, hs.sq, ht.sq, ?_, ?_⟩))
              · rcases z with z | z
                · subst z; cases vs; exact .inl rfl
                · subst z; cases ws; exact .inr rfl
              · rw [vs.length, ws.length]; exact bk.val hr (.bl _)
        · cases q
      · cases q
    · split at bk
      · rename_i q
        unfold no2 at q
        split at q
        · rename_i i j
          obtain ⟨q1, q2⟩ := Bool.and_eq_true_iff.mp q
          cases vx with
          | ref hi =>
            cases vy with
            | ref hj =>
              obtain ⟨k1, e1, r1⟩ := hr.ob _ _ _ hi (of_decide_eq_true q1)
              obtain ⟨k2, e2, r2⟩ := hr.ob _ _ _ hj (of_decide_eq_true q2)
              cases r1
              cases r2
              exact .inr (.inr (.inl ⟨1, by decide, .inr ⟨_, _, [], [], rfl, rfl, e1, e2, rfl, fun p hp => by simp at hp⟩, bk.val hr (.bl true)⟩))
        · cases q
      · exact bk.elim
theorem s2_ne : S2 g (rNeA g.K) dNe := by
  intro H μ h x y a b Q W hr vx vy bk
  unfold dNe at bk
  split at bk
  · rename_i k e
    rcases eq_of hr vx vy e with ⟨h1, h2⟩ | ⟨d, e, h1, h2, h3, h4, h5⟩
    · exact .inl ⟨h1, by rw [h2]; exact bk.val hr (.bl _)⟩
    · exact .inr (.inl ⟨d, e, h1, h2, h3, h4, by rw [h5]; exact bk.val hr (.bl _)⟩)
  · split at bk
    · rename_i k q
      unfold emp2 at q
      split at q
      · rename_i l m
        split at q
        · rename_i z
          cases q
          cases vx with
          | tup hs vs =>
            cases vy with
            | tup ht ws =>
              refine .inr (.inr ⟨_, _, _, _, rfl, rfl, hs.sq, ht.sq, ?_, ?_⟩)
              · rcases z with z | z
                · subst z; cases vs; exact .inl rfl
                · subst z; cases ws; exact .inr rfl
              · rw [vs.length, ws.length]; exact bk.val hr (.bl _)
        · cases q
      · cases q
    · exact bk.elim
/-! ### is None -/
def dIsN : D → D → MH → R D
  | a, .non, h => .ok (.bl (decide (a = .non))) h
  | _, _, _ => .bad
def dNotN : D → D → MH → R D
  | a, .non, h => .ok (.bl (!decide (a = .non))) h
  | _, _, _ => .bad
/-! ### in -/
def flatD : D → Bool
  | .non => true | .bl _ => true | .int _ => true | .str _ => true | _ => false
def eqF : D → D → Bool
  | .non, .non => true
  | .bl a, .bl b => a == b
  | .bl a, .int b => (if a then 1 else 0) == b
  | .int a, .bl b => a == (if b then 1 else 0)
  | .int a, .int b => a == b
  | .str a, .str b => a == b
  | _, _ => false
def seqOf (h : MH) : D → Option (List D)
  | .tup l => some l
  | .ref i => getL h i
  | _ => none
/-- x in y: a sign in a text, a flat thing in a list or tuple of such, a nested one in a list -/
def inD (a b : D) (h : MH) : Option Bool := match a, b with
  | .str x, .str z => match x.cps.toList with
    | [c] => some (decide (c ∈ z.cps.toList))
    | _ => none
  | a, b => match seqOf h b with
    | some l => if flatD a = true ∧ l.all flatD = true then some (l.any fun y => eqF y a) else match pyOf 60 h a, pyOf 60 h b with
      | some d, some (.list es) => if SeqAt.shaped d = true ∧ SeqAt.shaped (.list es) = true then some (es.any fun z => PyData.eqv z d) else none
      | _, _ => none
    | none => none
def dIn (a b : D) (h : MH) : R D := match inD a b h with
  | some k => .ok (.bl k) h
  | none => .bad
def dNotIn (a b : D) (h : MH) : R D := match inD a b h with
  | some k => .ok (.bl (!k)) h
  | none => .bad
def rInA (K : PySem.W.Frag) : R2 := fun x y H Q => (∃ (c : Nat) (z : Str), x = .str ⟨#[c]⟩ ∧ y = .str z ∧ Q (.bl (decide (c ∈ z.cps.toList))) H) ∨ (rIn K false x y H Q ∨ rInD K x y H Q)
def rNotInA (K : PySem.W.Frag) : R2 := fun x y H Q => (∃ (c : Nat) (z : Str), x = .str ⟨#[c]⟩ ∧ y = .str z ∧ Q (.bl (!decide (c ∈ z.cps.toList))) H) ∨ (rIn K true x y H Q ∨ rNotInD K x y H Q)
theorem op_inA (hu : X.A.units + 65 < cLine) : OpR X (compareOp .In) (rInA X.K) := op_in_sign.or (op_in_seq.or (op_inD hu))
theorem op_notInA (hu : X.A.units + 65 < cLine) : OpR X (compareOp .NotIn) (rNotInA X.K) := op_notIn_sign.or (op_notIn_seq.or (op_notInD hu))
theorem flat_of {x : V} {a : D} (vx : VR g H μ x a) : flatV x = flatD a := by cases vx <;> rfl
theorem flats_of : ∀ {xs : List V} {ds : List D}, VRs g H μ xs ds → xs.all flatV = ds.all flatD
  | _, _, .nil => rfl
  | _, _, .cons a b => by rw [List.all_cons, List.all_cons, flat_of a, flats_of b]
theorem eqF_of {x y : V} {a b : D} (vx : VR g H μ x a) (vy : VR g H μ y b) : eqV x y = eqF a b := by cases vx <;> cases vy <;> rfl
theorem any_of {x : V} {a : D} (vx : VR g H μ x a) : ∀ {xs : List V} {ds : List D}, VRs g H μ xs ds → inV x xs = ds.any fun y => eqF y a
  | _, _, .nil => rfl
  | _, _, .cons c b => by
    show (eqV _ x || inV x _) = _
    rw [List.any_cons, eqF_of c vx, any_of vx b]
theorem HR.seq {p : Addr} {b : D} {l : List D} (hr : HR g H μ h) (vb : VR g H μ (.ref p) b) (e : seqOf h b = some l) : ∃ xs, (SqL g.K H p xs ∨ SqT g.K H p xs) ∧ VRs g H μ xs l := by
  cases vb with
  | ref hi => obtain ⟨xs, h1, h2⟩ := hr.list hi e; exact ⟨xs, .inl h1, h2⟩
  | tup hs vs => cases e; exact ⟨_, .inr hs.sq, vs⟩
  | xo _ _ _ _ => cases e
theorem in_of {x y : V} {a b : D} {k : Bool} (hr : HR g H μ h) (vx : VR g H μ x a) (vy : VR g H μ y b) (e : inD a b h = some k) :
    (∃ (c : Nat) (z : Str), x = .str ⟨#[c]⟩ ∧ y = .str z ∧ decide (c ∈ z.cps.toList) = k) ∨ (∃ p xs, y = .ref p ∧ (SqL g.K H p xs ∨ SqT g.K H p xs) ∧ flatV x = true ∧ xs.all flatV = true ∧ inV x xs = k) ∨
      ∃ d ds, Dp g.K H x d ∧ Dp g.K H y (.list ds) ∧ SeqAt.shaped d = true ∧ SeqAt.shaped (.list ds) = true ∧ (ds.any fun z => PyData.eqv z d) = k := by
  unfold inD at e
  split at e
  · rename_i x' z
    cases vx
    cases vy
    split at e
    · rename_i c q
      cases e
      refine .inl ⟨c, z, ?_, rfl, rfl⟩
      obtain ⟨⟨cs⟩⟩ := x'
      cases q
      rfl
    · cases e
  · split at e
    · rename_i l q
      have hy : ∃ p, y = .ref p := by cases vy <;> first | exact ⟨_, rfl⟩ | cases q
      obtain ⟨p, rfl⟩ := hy
      obtain ⟨xs, h1, h2⟩ := hr.seq vy q
      split at e
      · rename_i c
        cases e
        exact .inr (.inl ⟨p, xs, rfl, h1, by rw [flat_of vx]; exact c.1, by rw [flats_of h2]; exact c.2, any_of vx h2⟩)
      · split at e
        · rename_i d es q1 q2
          split at e
          · rename_i c
            cases e
            exact .inr (.inr ⟨d, es, dp_of hr _ _ _ _ vx q1, dp_of hr _ _ _ _ vy q2, c.1, c.2, rfl⟩)
          · cases e
        · cases e
    · cases e
theorem s2_in : S2 g (rInA g.K) dIn := by
  intro H μ h x y a b Q W hr vx vy bk
  unfold dIn at bk
  split at bk
  · rename_i k e
    rcases in_of hr vx vy e with ⟨c, z, h1, h2, h3⟩ | ⟨p, xs, h1, h2, h3, h4, h5⟩ | ⟨d, e, h1, h2, h3, h4, h5⟩
    · exact .inl ⟨c, z, h1, h2, by rw [h3]; exact bk.val hr (.bl _)⟩
    · exact .inr (.inl ⟨p, xs, h1, h2, h3, h4, by rw [if_neg Bool.false_ne_true, h5]; exact bk.val hr (.bl _)⟩)
    · exact .inr (.inr ⟨d, e, h1, h2, h3, h4, by rw [h5]; exact bk.val hr (.bl _)⟩)
  · exact bk.elim
theorem s2_notIn : S2 g (rNotInA g.K) dNotIn := by
  intro H μ h x y a b Q W hr vx vy bk
  unfold dNotIn at bk
  split at bk
  · rename_i k e
    rcases in_of hr vx vy e with ⟨c, z, h1, h2, h3⟩ | ⟨p, xs, h1, h2, h3, h4, h5⟩ | ⟨d, e, h1, h2, h3, h4, h5⟩
    · exact .inl ⟨c, z, h1, h2, by rw [h3]; exact bk.val hr (.bl _)⟩
    · exact .inr (.inl ⟨p, xs, h1, h2, h3, h4, by rw [if_pos rfl, h5]; exact bk.val hr (.bl _)⟩)
    · exact .inr (.inr ⟨d, e, h1, h2, h3, h4, by rw [h5]; exact bk.val hr (.bl _)⟩)
  · exact bk.elim
/-! ### places -/
def dIx (a b : D) (h : MH) : R D := match b with
  | .int i => match a with
    | .str z => if z.length ≤ 1000000 then match atI z.cps.toList i with
      | some c => .ok (.str ⟨#[c]⟩) h
      | none => .bad else .bad
    | a => match seqOf h a with
      | some l => match atI l i with
        | some d => .ok d h
        | none => .bad
      | none => .bad
  | _ => .bad
theorem atI_of {xs : List V} {ds : List D} {i : Int} {d : D} (vs : VRs g H μ xs ds) (e : atI ds i = some d) : ∃ v, atI xs i = some v ∧ VR g H μ v d := by
  unfold atI at e ⊢
  rw [vs.length]
  cases q : ixN ds.length i with
  | none => rw [q] at e; cases e
  | some j =>
    rw [q] at e
    exact vs.get e
theorem s2_ix : S2 g (rIx g.K) dIx := by
  intro H μ h x y a b Q W hr vx vy bk
  cases vy with
  | int i =>
    cases vx with
    | str z =>
      simp only [dIx] at bk
      split at bk
      · rename_i hz
        split at bk
        · rename_i c e
          exact .inr (.inr ⟨z, i, c, rfl, rfl, sz6 hz, e, bk.val hr (.str _)⟩)
        · exact bk.elim
      · exact bk.elim
    | @tup p xs ds hs vs =>
      simp only [dIx, seqOf] at bk
      split at bk
      · rename_i d e
        obtain ⟨v, h1, h2⟩ := atI_of vs e
        exact .inr (.inl ⟨p, xs, i, v, rfl, rfl, hs.sq, h1, bk.val hr h2⟩)
      · exact bk.elim
    | @ref p j hj =>
      simp only [dIx, seqOf] at bk
      split at bk
      · rename_i l q
        obtain ⟨xs, hs, vs⟩ := hr.list hj q
        split at bk
        · rename_i d e
          obtain ⟨v, h1, h2⟩ := atI_of vs e
          exact .inl ⟨p, xs, i, v, rfl, rfl, hs, h1, bk.val hr h2⟩
        · exact bk.elim
      · exact bk.elim
    | _ => simp only [dIx, seqOf] at bk; exact bk.elim
  | _ => simp only [dIx] at bk; exact bk.elim
end
end Mi

namespace Mi
open PySem L2

/-! ### slices -/
def mNo : MP := fun _ h => .ok none h
def mSome (a : ME) : MP := fun ρ h => (a ρ h).bind fun x h1 => match x with
  | .int i => .ok (some i) h1
  | _ => .bad
def cutD (xs : List D) (lo hi : Option Int) : List D := (xs.drop (HT.sIx xs.length 0 lo)).take (HT.sIx xs.length xs.length hi - HT.sIx xs.length 0 lo)
def dSl (a : D) (lo hi : Option Int) (h : MH) : R D := match a with
  | .str z => if z.length ≤ 1000000 then .ok (.str (cutS z lo hi)) h else .bad
  | .tup l => .ok (.tup (cutD l lo hi)) h
  | .ref i => match getL h i with
    | some l => .ok (.ref h.length) (h ++ [.lst (cutD l lo hi)])
    | none => .bad
  | _ => .bad
def mSl (a : ME) (lo hi : MP) : ME := fun ρ h => (a ρ h).bind fun x h1 => (lo ρ h1).bind fun l h2 => (hi ρ h2).bind fun u h3 => dSl x l u h3
section
variable {X : Cx} {g : G} {W : WX} {a b e : Expr} {ma mb : ME} {pos p2 : Pos} {es : List Expr} {mr : MA} {lo hi : Option Expr} {ml mh : MP}
theorem sp_none : PO X none (tP g W mNo) := ⟨fun pins s σ H Q I ⟨ρ, h, μ, sr, hr, bk⟩ => (po_none (X := X)).run pins s σ H Q I (bk none H μ Mon.refl hr rfl)⟩
theorem sp_some (he : PE X e (tE g W ma)) : PO X (some e) (tP g W (mSome ma)) := ⟨fun pins s σ H Q I ⟨ρ, h, μ, sr, hr, bk⟩ => (po_some he).run pins s σ H Q I (step (rel := VR) (rel' := fun _ => opR) (ma := ma) (Q' := Q) sr hr bk fun x d h1 H1 μ1 m1 sr1 hr1 vx bk1 => by
  cases vx with
  | int i => exact ⟨i, rfl, bk1 _ H1 μ1 Mon.refl hr1 rfl⟩
  | _ => exact bk1.elim)⟩
theorem slR_or {r r' : V → Option Int → Option Int → Hp → VK → Prop} (h : SlR X r) (h' : SlR X r') : SlR X (fun x l u H Q => r x l u H Q ∨ r' x l u H Q) := by
  intro pins s σ H x v vl vu lo hi sl Q I rx hs pl pu q
  rcases q with q | q
  · exact h pins s σ H x v vl vu lo hi sl Q I rx hs pl pu q
  · exact h' pins s σ H x v vl vu lo hi sl Q I rx hs pl pu q
theorem cut_of {H : Hp} {μ : List Addr} {xs : List V} {ds : List D} (vs : VRs g H μ xs ds) (l u : Option Int) : VRs g H μ (cutV xs l u) (cutD ds l u) := by
  unfold cutV cutD
  rw [vs.length]
  exact (vs.drop _).take _
theorem cut_whole {ds : List D} {l u : Option Int} (h : HT.sIx ds.length 0 l = 0 ∧ HT.sIx ds.length ds.length u = ds.length) : cutD ds l u = ds := by
  unfold cutD
  rw [h.1, h.2]
  simp
theorem se_slice (he : PE X a (tE g W ma)) (hl : PO X lo (tP g W ml)) (hu : PO X hi (tP g W mh)) (hK : X.K = g.K := by rfl) : PE X (.Subscript a (.Slice lo hi none p2) pos) (tE g W (mSl ma ml mh)) :=
  pe_mono (pe_slice (slR_or sl_str (slR_or sl_tupF sl_list)) he hl hu) fun σ H Q ⟨ρ, h, μ, sr, hr, bk⟩ =>
    step (rel := VR) (rel' := VR) (ma := ma) (Q' := Q) sr hr bk fun x d h1 H1 μ1 m1 sr1 hr1 vx bk1 =>
      step (rel := fun _ => opR) (rel' := VR) (ma := ml) (Q' := Q) sr1 hr1 bk1 fun l l' h2 H2 μ2 m2 sr2 hr2 vl bk2 =>
        step (rel := fun _ => opR) (rel' := VR) (ma := mh) (Q' := Q) sr2 hr2 bk2 fun u u' h3 H3 μ3 m3 sr3 hr3 vu bk3 => by
          cases vl
          cases vu
          have vx3 := (vx.mono m2).mono m3
          rw [hK]
          cases vx3 with
          | str z =>
            simp only [dSl] at bk3
            split at bk3
            · rename_i hz
              exact .inl ⟨z, rfl, sz6 hz, bk3.val hr3 (.str _)⟩
            · exact bk3.elim
          | @tup p xs ds hs vs =>
            refine .inr (.inl ⟨p, xs, rfl, hs.sq, fun w => ?_, fun _ p ob hp ho => bk3.newT hr3 (cut_of vs _ _) hp ho⟩)
            rw [vs.length] at w
            rw [dSl, cut_whole w] at bk3
            exact bk3.val hr3 (.tup hs vs)
          | @ref p i hi =>
            simp only [dSl] at bk3
            split at bk3
            · rename_i l q
              obtain ⟨xs, hs, vs⟩ := hr3.list hi q
              exact .inr (.inr ⟨p, xs, rfl, hs, fun p hp => bk3.newL hr3 (cut_of vs _ _) hp⟩)
            · exact bk3.elim
          | _ => exact bk3.elim
end

/-! ### built-ins by values -/
def dLen : List D → MH → R D
  | [.str z], h => if z.length ≤ 1000000 then .ok (.int z.length) h else .bad
  | [.tup l], h => .ok (.int l.length) h
  | [.ref i], h => match getL h i with
    | some l => .ok (.int l.length) h
    | none => .bad
  | _, _ => .bad
def dAbs : List D → MH → R D
  | [.int i], h => .ok (.int (if i < 0 then -i else i)) h
  | _, _ => .bad
def dMax : List D → MH → R D
  | [.int i, .int j], h => .ok (.int (if j > i then j else i)) h
  | _, _ => .bad
def dMin : List D → MH → R D
  | [.int i, .int j], h => .ok (.int (if j < i then j else i)) h
  | _, _ => .bad
def dInt : List D → MH → R D
  | [.int i], h => .ok (.int i) h
  | [.bl b], h => .ok (.int (if b then 1 else 0)) h
  | _, _ => .bad
def dStr : List D → MH → R D
  | [.int i], h => if i.natAbs.log2 < 1920 then .ok (.str (toString i : String)) h else .bad
  | _, _ => .bad
def dList : List D → MH → R D
  | [a], h => match seqOf h a with
    | some l => .ok (.ref h.length) (h ++ [.lst l])
    | none => .bad
  | _, _ => .bad
def dTuple : List D → MH → R D
  | [a], h => match seqOf h a with
    | some l => .ok (.tup l) h
    | none => .bad
  | _, _ => .bad
def allBl : List D → Option (List Bool)
  | [] => some []
  | .bl b :: r => (allBl r).map (b :: ·)
  | _ => none
def dAny : List D → MH → R D
  | [.ref i], h => match (getL h i).bind allBl with
    | some bs => .ok (.bl (bs.any id)) h
    | none => .bad
  | _, _ => .bad
def dAll : List D → MH → R D
  | [.ref i], h => match (getL h i).bind allBl with
    | some bs => .ok (.bl (bs.all id)) h
    | none => .bad
  | _, _ => .bad
section
variable {g : G} {X : Cx}
theorem sn1 {r : List V → Hp → VK → Prop} {f : List D → MH → R D} (h1 : ∀ H μ h x a Q W, HR g H μ h → VR g H μ x a → Bk (VR g) g H μ (f [a] h) Q W → r [x] H Q) (h0 : ∀ h, f [] h = .bad) (h2 : ∀ a b l h, f (a :: b :: l) h = .bad) : SN g r f := by
  intro H μ h xs ds Q W hr vs bk
  cases vs with
  | nil => rw [h0] at bk; exact bk.elim
  | cons va t =>
    cases t with
    | nil => exact h1 H μ h _ _ Q W hr va bk
    | cons vb t => rw [h2] at bk; exact bk.elim
theorem sn_len : SN g (fun xs H Q => ∃ x n, xs = [x] ∧ LenV g.K x H n ∧ Q (.int n) H) dLen := sn1 (fun H μ h x a Q W hr va bk => by
  cases va with
  | str z =>
    simp only [dLen] at bk
    split at bk
    · rename_i hz; exact ⟨_, _, rfl, ⟨sz6 hz, rfl⟩, bk.val hr (.int _)⟩
    · exact bk.elim
  | @tup p xs ds hs vs => exact ⟨_, _, rfl, .inr ⟨xs, hs.sq, rfl⟩, by rw [vs.length]; exact bk.val hr (.int _)⟩
  | @ref p i hi =>
    simp only [dLen] at bk
    split at bk
    · rename_i l q
      obtain ⟨xs, hs, vs⟩ := hr.list hi q
      exact ⟨_, _, rfl, .inl ⟨xs, hs, rfl⟩, by rw [vs.length]; exact bk.val hr (.int _)⟩
    · exact bk.elim
  | _ => exact bk.elim) (fun _ => rfl) (fun a b l h => by simp [dLen])
theorem sn_abs : SN g (fun xs H Q => ∃ i, xs = [.int i] ∧ Q (.int (if i < 0 then -i else i)) H) dAbs := sn1 (fun H μ h x a Q W hr va bk => by
  cases va with
  | int i => exact ⟨i, rfl, bk.val hr (.int _)⟩
  | _ => exact bk.elim) (fun _ => rfl) (fun a b l h => by simp [dAbs])
theorem sn_int : SN g (fun xs H Q => (∃ i, xs = [.int i] ∧ Q (.int i) H) ∨ ∃ k, xs = [.bl k] ∧ Q (.int (if k then 1 else 0)) H) dInt := sn1 (fun H μ h x a Q W hr va bk => by
  cases va with
  | int i => exact .inl ⟨i, rfl, bk.val hr (.int _)⟩
  | bl b => exact .inr ⟨b, rfl, bk.val hr (.int _)⟩
  | _ => exact bk.elim) (fun _ => rfl) (fun a b l h => by simp [dInt])
theorem sn_list : SN g (fun xs H Q => ∃ p ys, xs = [.ref p] ∧ (SqL g.K H p ys ∨ SqT g.K H p ys) ∧ ∀ l, H l = none → Q (.ref l) (upd H l (.lst ys))) dList := sn1 (fun H μ h x a Q W hr va bk => by
  simp only [dList] at bk
  split at bk
  · rename_i l q
    have hy : ∃ p, x = .ref p := by cases va <;> first | exact ⟨_, rfl⟩ | cases q
    obtain ⟨p, rfl⟩ := hy
    obtain ⟨xs, h1, h2⟩ := hr.seq va q
    exact ⟨p, xs, rfl, h1, fun l hl => bk.newL hr h2 hl⟩
  · exact bk.elim) (fun _ => rfl) (fun a b l h => by simp [dList])
theorem sn_tuple : SN g (rTupF g.K) dTuple := sn1 (fun H μ h x a Q W hr va bk => by
  cases va with
  | @tup p xs ds hs vs => exact ⟨p, xs, rfl, .inr ⟨hs.sq, bk.val hr (.tup hs vs)⟩⟩
  | @ref p i hi =>
    simp only [dTuple, seqOf] at bk
    split at bk
    · rename_i l q
      obtain ⟨xs, hs, vs⟩ := hr.list hi q
      exact ⟨p, xs, rfl, .inl ⟨hs, fun l ob hl ho => bk.newT hr vs hl ho⟩⟩
    · exact bk.elim
  | _ => simp only [dTuple, seqOf] at bk; exact bk.elim) (fun _ => rfl) (fun a b l h => by simp [dTuple])
theorem sn2i {r : List V → Hp → VK → Prop} {f : List D → MH → R D} (h1 : ∀ H μ h i j Q W, HR g H μ h → Bk (VR g) g H μ (f [.int i, .int j] h) Q W → r [.int i, .int j] H Q) (h2 : ∀ ds h, (∀ i j, ds ≠ [.int i, .int j]) → f ds h = .bad) : SN g r f := by
  intro H μ h xs ds Q W hr vs bk
  have no : (∀ i j, ds ≠ [.int i, .int j]) → r xs H Q := fun z => by rw [h2 ds h z] at bk; exact bk.elim
  cases vs with
  | nil => exact no fun _ _ z => nomatch z
  | cons va t =>
    cases va with
    | int i =>
      cases t with
      | nil => exact no fun _ _ z => nomatch z
      | cons vb t =>
        cases vb with
        | int j =>
          cases t with
          | nil => exact h1 H μ h i j Q W hr bk
          | cons _ _ => exact no fun _ _ z => nomatch z
        | _ => exact no fun _ _ z => nomatch z
    | _ => exact no fun _ _ z => nomatch z
theorem two_bad {f : List D → MH → R D} (hf : ∀ (ds : List D) (h : MH), match ds with | [D.int _, D.int _] => True | _ => f ds h = .bad) : ∀ ds h, (∀ i j, ds ≠ [.int i, .int j]) → f ds h = .bad := fun ds h z => by
  have := hf ds h
  split at this
  · exact absurd rfl (z _ _)
  · exact this
theorem sn_max : SN g (fun xs H Q => ∃ i j, xs = [.int i, .int j] ∧ Q (.int (if j > i then j else i)) H) dMax := sn2i (fun H μ h i j Q W hr bk => ⟨i, j, rfl, bk.val hr (.int _)⟩) (two_bad fun ds h => by split <;> first | trivial | (unfold dMax; split <;> first | rfl | simp_all))
theorem sn_min : SN g (fun xs H Q => ∃ i j, xs = [.int i, .int j] ∧ Q (.int (if j < i then j else i)) H) dMin := sn2i (fun H μ h i j Q W hr bk => ⟨i, j, rfl, bk.val hr (.int _)⟩) (two_bad fun ds h => by split <;> first | trivial | (unfold dMin; split <;> first | rfl | simp_all))
end

/-! ### isinstance against built-in types -/
def tyName (h : MH) : D → Option String
  | .non => some "NoneType" | .bl _ => some "bool" | .int _ => some "int" | .str _ => some "str" | .tup _ => some "tuple"
  | .ref i => match h[i]? with
    | some (.lst _) => some "list"
    | some (.rol _) => some "list"
    | some (.dK _) => some "dict"
    | _ => none
  | .xo _ _ _ => none
def mIsi (T : String) (a : ME) : ME := fun ρ h => (a ρ h).bind fun x h1 => match (tyName h1 x).bind fun n => kitB n T with
  | some b => .ok (.bl b) h1
  | none => .bad
section
variable {X : Cx} {g : G} {W : WX} {a : Expr} {ma : ME} {pos : Pos}
theorem HR.ty {H : Hp} {μ : List Addr} {h : MH} {x : V} {d : D} {n : String} (hr : HR g H μ h) (vx : VR g H μ x d) (e : tyName h d = some n) : TyX g.K H x (.type n) := by
  cases vx with
  | xo _ _ _ _ => cases e
  | non => cases e; exact .base .non
  | bl b => cases e; exact .base (.bl b)
  | int i => cases e; exact .base (.int i)
  | str z => cases e; exact .base (.str z)
  | tup hs vs =>
    cases e
    rcases hs with ⟨o, _, hs⟩ | ⟨o, its, k, h1, h2, h3⟩
    · exact .fTuple hs
    · exact .kTuple h1 h2
  | ref hi =>
    simp only [tyName] at e
    split at e
    · rename_i l q
      cases e
      obtain ⟨xs, h1, _⟩ := hr.ob _ _ _ hi q
      exact .base (.lst h1)
    · rename_i l q
      cases e
      obtain ⟨xs, h1, _⟩ := hr.ob _ _ _ hi q
      rcases h1 with ⟨o, h1⟩ | ⟨o, its, k, h1, h2, h3⟩
      · exact .base (.frz h1)
      · exact .kList h1 h2
    · rename_i l q
      cases e
      obtain ⟨xs, h1, _⟩ := hr.ob _ _ _ hi q
      exact .base (.dK h1)
    · cases e
theorem se_isi {T : Str} {n : String} {p p2 : Pos} (ha : PE X a (tE g W ma)) (hm : X.mg "isinstance" = none) (hmT : X.mg T = none) (hvT : bootBuiltins T = some (.type n)) (hnT : T ≠ "__name__" := by decide) (hdT : (T == ("__debug__" : Str)) = false := by decide) (hg : Gl X "isinstance" := by rfl) (hgT : Gl X T := by rfl)
    (hK : X.K = g.K := by rfl)
    (s1 : starEach [a, .Name T p2] X.env = (false, eval a X.env) :: starEach [.Name T p2] X.env := by rfl) (s2 : starEach [.Name T p2] X.env = (false, eval (.Name T p2) X.env) :: starEach [] X.env := by rfl)
    (hpl : (backTo pos (starEach [.Name T p2] X.env)).any (·.1) = false := by rfl) : PE X (.Call (.Name "isinstance" p) [a, .Name T p2] [] pos) (tE g W (mIsi n ma)) :=
  pe_mono (pe_callB call_isi hg hm (by decide +kernel) (pa_cons ha (pa_cons (pe_bltn (v := .ty n) hgT hmT hvT rfl hnT hdT) pa_nil s2) s1) (by decide) (by decide) s1 hpl) fun σ H Q ⟨ρ, h, μ, sr, hr, bk⟩ =>
    step (rel := VR) (rel' := VR) (ma := ma) (Q' := Q) sr hr bk fun x d h1 H1 μ1 m1 sr1 hr1 vx bk1 => by
      split at bk1
      · rename_i b q
        obtain ⟨t, q1, q2⟩ := Option.bind_eq_some_iff.mp q
        refine ⟨x, .ty n, .type t, .type n, b, rfl, .ty n, ?_, kit_ty q2, bk1.val hr1 (.bl b)⟩
        rw [hK]
        exact hr1.ty vx q1
      · exact bk1.elim
end

/-! ### methods of built-in types -/
section
variable {X : Cx} {g : G} {W : WX} {o e : Expr} {mo : ME} {es : List Expr} {mr : MA} {name : Str} {apos cpos : Pos} {T id : String} {r : V → List V → Hp → VK → Prop} {f : D → List D → MH → R D} {ty : D → MH → Bool}
/-- how the type is seen -/
def STy (g : G) (T : String) (ty : D → MH → Bool) : Prop := ∀ (H : Hp) (μ : List Addr) (h : MH) (x : V) (a : D), HR g H μ h → VR g H μ x a → ty a h = true → tyV g.K T x H
theorem sty_list : STy g "list" isListD := fun H μ h x a hr va e => by
  cases va with
  | ref hi =>
    obtain ⟨l, q⟩ := Option.isSome_iff_exists.mp e
    obtain ⟨xs, hs, _⟩ := hr.list hi q
    exact .inl ⟨rfl, xs, hs⟩
  | _ => cases e
theorem se_bm (pa : PlainAttrs T) (slot : Slot T name id) (hty : typeOf (.builtin id) = pure (.type "method_descriptor")) (hm : MtR X id r) (st : STy g T ty) (hs : SM g r f) (ho : PE X o (tE g W mo)) (ha : PA X (e :: es) (tA g W mr)) (hK : X.K = g.K := by rfl)
    (hbase : attributeBase o name X.env (eval o X.env) = eval o X.env := by rfl)
    (hfew : ((backTo cpos (starEach (e :: es) X.env)).all (fun x => !x.1) && (backToKw cpos (keywordEach [] X.env)).all (fun x => x.1.isSome)
      && decide ((e :: es).length + ([] : List Keyword).length + (if ([] : List Keyword).isEmpty then 0 else 1) < 30)) = true := by rfl)
    (hline : (apos.endLine == cpos.line) = true := by rfl) (hse : starEach (e :: es) X.env = (false, eval e X.env) :: starEach es X.env := by rfl) (hplain : (backTo cpos (starEach es X.env)).any (·.1) = false := by rfl) :
    PE X (.Call (.Attribute o name apos) (e :: es) [] cpos) (tE g W (mMeth ty f mo mr)) :=
  pe_mono (pe_bm pa slot hty hm ho ha hbase hfew hline hse hplain) fun σ H Q ⟨ρ, h, μ, sr, hr, bk⟩ =>
    step (rel := VR) (rel' := VR) (ma := mo) (Q' := Q) sr hr bk fun x d h1 H1 μ1 m1 sr1 hr1 vx bk1 => by
      split at bk1
      · rename_i ht
        refine ⟨by rw [hK]; exact st H1 μ1 h1 x d hr1 vx ht, ?_⟩
        exact step (rel := VRs) (rel' := VR) (ma := mr) (Q' := Q) sr1 hr1 bk1 fun xs ds h2 H2 μ2 m2 sr2 hr2 vs bk2 => hs H2 μ2 h2 x xs d ds Q _ hr2 (vx.mono m2) vs bk2
      · exact bk1.elim
def dAppend : D → List D → MH → R D
  | .ref i, [d], h => match h[i]? with
    | some (.lst l) => if l.length < 1000000 then .ok .non (h.set i (.lst (l ++ [d]))) else .bad
    | _ => .bad
  | _, _, _ => .bad
theorem sm_append : SM g rAppend dAppend := by
  intro H μ h x xs a ds Q W hr va vs bk
  unfold dAppend at bk
  split at bk
  · rename_i i d
    cases va with
    | @ref p _ hi =>
      cases vs with
      | cons vd t =>
        cases t
        split at bk
        · rename_i l q
          split at bk
          · rename_i hl
            obtain ⟨ys, h1, h2⟩ := hr.lst hi q
            exact ⟨p, ys, _, rfl, rfl, h1, by rw [h2.length]; exact sz6' hl, bk.setL hr hi q h1 (h2.append (.one vd)) .non⟩
          · exact bk.elim
        · exact bk.elim
  · exact bk.elim
def dExtend : D → List D → MH → R D
  | .ref i, [.ref j], h => match h[i]?, h[j]? with
    | some (.lst l), some (.lst m) => if l.length + m.length ≤ 1000000 then .ok .non (h.set i (.lst (l ++ m))) else .bad
    | _, _ => .bad
  | _, _, _ => .bad
theorem sm_extend : SM g rExtend dExtend := by
  intro H μ h x xs a ds Q W hr va vs bk
  unfold dExtend at bk
  split at bk
  · rename_i i j
    cases va with
    | @ref p _ hi =>
      cases vs with
      | cons vd t =>
        cases t
        cases vd with
        | @ref q _ hj =>
          split at bk
          · rename_i l m q1 q2
            split at bk
            · rename_i hl
              obtain ⟨ys, h1, h2⟩ := hr.lst hi q1
              obtain ⟨zs, h3, h4⟩ := hr.lst hj q2
              exact ⟨p, q, ys, zs, rfl, rfl, h1, h3, by rw [h2.length, h4.length]; exact sz6 hl, bk.setL hr hi q1 h1 (h2.append h4) .non⟩
            · exact bk.elim
          · exact bk.elim
  · exact bk.elim
def dPop : D → List D → MH → R D
  | .ref i, [], h => match h[i]? with
    | some (.lst l) => match l[l.length - 1]? with
      | some d => .ok d (h.set i (.lst l.dropLast))
      | none => .bad
    | _ => .bad
  | _, _, _ => .bad
def allStr : List D → Option (List Str)
  | [] => some []
  | .str b :: r => (allStr r).map (b :: ·)
  | _ => none
theorem strs_of {H : Hp} {μ : List Addr} : ∀ {xs : List V} {ds : List D} {bs : List Str}, VRs g H μ xs ds → allStr ds = some bs → xs = bs.map V.str
  | _, _, _, .nil, e => by cases e; rfl
  | _, _, _, .cons (d := d) a b, e => by
    cases a with
    | str k =>
      simp only [allStr, Option.map_eq_some_iff] at e
      obtain ⟨r, e, rfl⟩ := e
      rw [strs_of b e]; rfl
    | _ => cases e
def dJoin : D → List D → MH → R D
  | .str a, [b], h => match (seqOf h b).bind allStr with
    | some ys => if (ys.map (·.length)).sum + ys.length * a.length ≤ 1000000 then .ok (.str (Txt.join a ys)) h else .bad
    | none => .bad
  | _, _, _ => .bad
end
end Mi

namespace Mi
open PySem L2

/-! ### targets -/
abbrev MG := D → Slots → Option Slots
abbrev Rl := G → Hp → List Addr → V → D → Prop
/-- a pair that a walk has just laid: its items alone are known -/
def SV : Rl := fun g H μ v d => ∃ p xs ds, v = .ref p ∧ d = .tup ds ∧ SqT g.K H p xs ∧ VRs g H μ xs ds
def tGr (rl : Rl) (g : G) (m : MG) : TG := fun v σ H Q => ∃ ρ h μ d, SR g H μ σ ρ ∧ HR g H μ h ∧ rl g H μ v d ∧ match m d ρ with
  | some ρ' => ∀ σ', SR g H μ σ' ρ' → Q σ' H
  | none => False
abbrev tG (g : G) (m : MG) : TG := tGr VR g m
abbrev MGs := List D → Slots → Option Slots
def tGs (g : G) (m : MGs) : TGs := fun vs σ H Q => ∃ ρ h μ ds, SR g H μ σ ρ ∧ HR g H μ h ∧ VRs g H μ vs ds ∧ match m ds ρ with
  | some ρ' => ∀ σ', SR g H μ σ' ρ' → Q σ' H
  | none => False
def mgName (i : Nat) : MG := fun d ρ => some (ρ.set i (some d))
def mgNil : MGs := fun ds ρ => match ds with
  | [] => some ρ
  | _ => none
def mgCons (a : MG) (r : MGs) : MGs := fun ds ρ => match ds with
  | d :: ds => (a d ρ).bind fun ρ' => r ds ρ'
  | [] => none
def mgTup (r : MGs) : MG := fun d ρ => match d with
  | .tup ds => r ds ρ
  | _ => none
section
variable {X : Cx} {g : G} {pos : Pos}
theorem pg_mono {tg : Expr} {t t' : TG} (h : PG X tg t) (hm : ∀ v σ H Q, t' v σ H Q → t v σ H Q) : PG X tg t' := ⟨fun pins s σ H v u Q I r q => h.run pins s σ H v u Q I r (hm v σ H Q q)⟩
theorem pgs_mono {tg : List Expr} {t t' : TGs} (h : PGs X tg t) (hm : ∀ v σ H Q, t' v σ H Q → t v σ H Q) : PGs X tg t' := ⟨fun pins s σ H v u Q I r q => h.run pins s σ H v u Q I r (hm v σ H Q q)⟩
theorem sg_name {i : Nat} {x : Str} (hN : X.N.Nodup) (hi : X.N[i]? = some x := by rfl) (hx : Loc X.env.scope x := by first | exact Or.inl rfl | exact Or.inr rfl) (hf : X.fn x = true ∨ X.env.scope.names.lookup x = some .local := by first | exact .inl rfl | exact .inr rfl | assumption) : PG X (.Name x pos) (tG g (mgName i)) :=
  pg_mono (pg_name hN hi hx hf) fun v σ H Q ⟨ρ, h, μ, d, sr, hr, vd, q⟩ => q _ (sr.set i vd)
theorem sgs_nil : PGs X [] (tGs g mgNil) := pgs_mono pgs_nil fun vs σ H Q ⟨ρ, h, μ, ds, sr, hr, vd, q⟩ => by
  cases vd with
  | nil => exact ⟨rfl, q σ sr⟩
  | cons a b => exact q.elim
theorem sgs_cons {e : Expr} {es : List Expr} {t : MG} {u : MGs} (h1 : PG X e (tG g t)) (h2 : PGs X es (tGs g u))
    (hs : (assignEach (e :: es) X.env).map (·.2) = assign e X.env :: (assignEach es X.env).map (·.2) := by rfl) : PGs X (e :: es) (tGs g (mgCons t u)) :=
  pgs_mono (pgs_cons h1 h2 hs) fun vs σ H Q ⟨ρ, h, μ, ds, sr, hr, vd, q⟩ => by
    cases vd with
    | nil => exact q.elim
    | @cons v d vs ds a b =>
      refine ⟨v, vs, rfl, ρ, h, μ, d, sr, hr, a, ?_⟩
      simp only [mgCons] at q
      cases e : t d ρ with
      | none => rw [e] at q; exact q
      | some ρ' =>
        rw [e] at q
        exact fun σ' sr' => ⟨ρ', h, μ, ds, sr', hr, b, q⟩
/-- how many places a target has -/
def MGs.many (n : Nat) (m : MGs) : Prop := ∀ ds ρ ρ', m ds ρ = some ρ' → ds.length = n
theorem many_nil : MGs.many 0 mgNil := fun ds ρ ρ' e => by
  cases ds with
  | nil => rfl
  | cons _ _ => cases e
theorem many_cons {n : Nat} {a : MG} {r : MGs} (h : r.many n) : MGs.many (n + 1) (mgCons a r) := fun ds ρ ρ' e => by
  cases ds with
  | nil => cases e
  | cons d ds =>
    simp only [mgCons] at e
    obtain ⟨ρ1, _, e⟩ := Option.bind_eq_some_iff.mp e
    rw [List.length_cons, h ds _ _ e]
theorem sg_tup {es : List Expr} {k : Nat} {m : MGs} {n : Nat} (h : PGs X es (tGs g m)) (hm : m.many n) (hc : X.calm = true := by rfl) (hK : X.K = g.K := by rfl)
    (hn : (assignEach es X.env).length = n := by rfl) (hst : (assignEach es X.env).findIdx? (·.1) = none := by rfl) : PG X (.Tuple es k pos) (tG g (mgTup m)) :=
  pg_mono (pg_tup hc h hn hst) fun v σ H Q ⟨ρ, h, μ, d, sr, hr, vd, q⟩ => by
    cases vd with
    | @tup p xs ds hs vs =>
      simp only [mgTup] at q
      refine ⟨p, xs, rfl, by rw [hK]; exact hs.sq, ?_, ρ, h, μ, ds, sr, hr, vs, q⟩
      cases e : m ds ρ with
      | none => rw [e] at q; exact q.elim
      | some ρ' => rw [vs.length]; exact hm _ _ _ e
    | _ => exact q.elim
end

/-! ### what is walked -/
def JRr (rl : Rl) (g : G) (H0 : Hp) (μ0 : List Addr) (J : It) (a : List D × (MH → Bool)) : Prop := ∀ (i : Nat) (H : Hp) (μ : List Addr) (h : MH), Mon g H0 H μ0 μ → HR g H μ h → a.2 h = true →
  (i < a.1.length → J.go i H ∧ ∀ x H', J.yld i H x H' → ∃ d, a.1[i]? = some d ∧ Mon g H H' μ μ ∧ HR g H' μ h ∧ rl g H' μ x d) ∧ (a.1.length ≤ i → J.stop i H)
abbrev JR := JRr VR
abbrev MI := Slots → MH → R (List D × (MH → Bool))
abbrev tIr (rl : Rl) (g : G) (W : WX) (m : MI) : TI := tX (JRr rl) g W m
abbrev tI (g : G) (W : WX) (m : MI) : TI := tIr VR g W m
def yes : MH → Bool := fun _ => true
/-- the items of a list (as it stands), a tuple, a text -/
def itemsOf (a : D) (h : MH) : Option (List D × (MH → Bool)) := match a with
  | .tup l => some (l, yes)
  | .ref i => (getL h i).map fun l => (l, fun h' => decide (getL h' i = some l))
  | .str z => some (z.cps.toList.map fun c => .str ⟨#[c]⟩, yes)
  | _ => none
def mIter (a : ME) : MI := fun ρ h => (a ρ h).bind fun x h1 => match itemsOf x h1 with
  | some r => .ok r h1
  | none => .bad
def rangeD (i : Int) (n : Nat) : List D := (List.range n).map fun (k : Nat) => D.int (i + (k : Int))
def revRangeD (i : Int) (n : Nat) : List D := (List.range n).map fun (k : Nat) => D.int (i + (n : Int) - 1 - (k : Int))
def lim62 (i : Int) : Bool := decide (-(2 ^ 62) ≤ i) && decide (i < 2 ^ 62)
def dR1 (f : Int → Nat → List D) (x : D) (h : MH) : R (List D × (MH → Bool)) := match x with
  | .int j => if lim62 j = true then .ok (f 0 j.toNat, yes) h else .bad
  | _ => .bad
def dR2 (f : Int → Nat → List D) (x y : D) (h : MH) : R (List D × (MH → Bool)) := match x, y with
  | .int i, .int j => if lim62 i = true ∧ lim62 j = true then .ok (f i (j - i).toNat, yes) h else .bad
  | _, _ => .bad
def mRange1 (a : ME) : MI := fun ρ h => (a ρ h).bind fun x h1 => dR1 rangeD x h1
def mRange2 (a b : ME) : MI := fun ρ h => (a ρ h).bind fun x h1 => (b ρ h1).bind fun y h2 => dR2 rangeD x y h2
def mRev1 (a : ME) : MI := fun ρ h => (a ρ h).bind fun x h1 => dR1 revRangeD x h1
def mRev2 (a b : ME) : MI := fun ρ h => (a ρ h).bind fun x h1 => (b ρ h1).bind fun y h2 => dR2 revRangeD x y h2
section
variable {X : Cx} {g : G} {W : WX} {a b e : Expr} {ma mb : ME} {pos : Pos} {tg : Expr}
theorem pi_mono {t t' : TI} (h : PI X tg e t) (hm : ∀ σ H R, t' σ H R → t σ H R) : PI X tg e t' := ⟨fun pins s σ H R I q => h.run pins s σ H R I (hm σ H R q)⟩
theorem pi_or2 {t u : TI} (h : PI X tg e t) (h' : PI X tg e u) : PI X tg e (fun σ H R => t σ H R ∨ u σ H R) := ⟨fun pins s σ H R I q => by
  rcases q with q | q
  · exact h.run pins s σ H R I q
  · exact h'.run pins s σ H R I q⟩
theorem jr_list {H0 : Hp} {μ0 : List Addr} {p : Addr} {i : Nat} {l : List D} (hi : μ0[i]? = some p) : JR g H0 μ0 (Itl g.K p) (l, fun h' => decide (getL h' i = some l)) := fun k H μ h m hr gd => by
  have q : getL h i = some l := of_decide_eq_true gd
  obtain ⟨xs, hs, vs⟩ := hr.list (m.ix hi) q
  refine ⟨fun lt => ?_, fun le => ⟨xs, hs, by rw [vs.length]; exact le⟩⟩
  have hx : l[k]? = some l[k] := List.getElem?_eq_getElem lt
  obtain ⟨v, h1, h2⟩ := vs.get hx
  refine ⟨⟨xs, v, hs, h1⟩, fun x H' y => ?_⟩
  obtain ⟨e, y⟩ := y
  subst e
  have := y xs hs
  rw [h1] at this
  cases this
  exact ⟨_, hx, Mon.refl, hr, h2⟩
theorem jr_tup {H0 : Hp} {μ0 : List Addr} {p : Addr} {xs : List V} {l : List D} (hs : Tk g.K H0 p xs) (vs : VRs g H0 μ0 xs l) : JR g H0 μ0 (Itt g.K p) (l, yes) := fun k H μ h m hr _ => by
  have hs := (m.tups _ _ hs).sq
  have vs := vs.mono m
  refine ⟨fun lt => ?_, fun le => ⟨xs, hs, by rw [vs.length]; exact le⟩⟩
  have hx : l[k]? = some l[k] := List.getElem?_eq_getElem lt
  obtain ⟨v, h1, h2⟩ := vs.get hx
  refine ⟨⟨xs, v, hs, h1⟩, fun x H' y => ?_⟩
  obtain ⟨e, y⟩ := y
  subst e
  have := y xs hs
  rw [h1] at this
  cases this
  exact ⟨_, hx, Mon.refl, hr, h2⟩
theorem jr_str {H0 : Hp} {μ0 : List Addr} {z : Str} : JR g H0 μ0 (Its z) (z.cps.toList.map fun c => .str ⟨#[c]⟩, yes) := fun k H μ h m hr _ => by
  refine ⟨fun lt => ?_, fun le => ?_⟩
  · have lt' : k < z.cps.size := by simpa using lt
    refine ⟨lt', fun x H' y => ?_⟩
    obtain ⟨e, c, hc, ex⟩ := y
    subst e ex
    refine ⟨.str ⟨#[c]⟩, ?_, Mon.refl, hr, .str _⟩
    rw [List.getElem?_map, Array.getElem?_toList, hc]
    rfl
  · have : z.cps.size ≤ k := by simpa using le
    exact this
theorem jr_range {H0 : Hp} {μ0 : List Addr} {lo : Int} {n : Nat} : JR g H0 μ0 (Itr lo n) (rangeD lo n, yes) := fun k H μ h m hr _ => by
  refine ⟨fun lt => ?_, fun le => ?_⟩
  · have lt' : k < n := by simpa [rangeD] using lt
    refine ⟨lt', fun x H' y => ?_⟩
    obtain ⟨e, ex⟩ := y
    subst e ex
    refine ⟨.int (lo + (k : Int)), ?_, Mon.refl, hr, .int _⟩
    simp [rangeD, lt']
  · have : n ≤ k := by simpa [rangeD] using le
    exact this
theorem jr_rev {H0 : Hp} {μ0 : List Addr} {lo : Int} {n : Nat} : JR g H0 μ0 (Itc (lo + (n : Int) - 1) (-1) n) (revRangeD lo n, yes) := fun k H μ h m hr _ => by
  refine ⟨fun lt => ?_, fun le => ?_⟩
  · have lt' : k < n := by simpa [revRangeD] using lt
    refine ⟨lt', fun x H' y => ?_⟩
    obtain ⟨e, ex⟩ := y
    subst e ex
    refine ⟨.int (lo + (n : Int) - 1 - (k : Int)), ?_, Mon.refl, hr, ?_⟩
    · simp [revRangeD, lt']
    · have e : lo + (n : Int) - 1 + ((k : Nat) : Int) * (-1) = lo + (n : Int) - 1 - (k : Int) := by omega
      rw [e]
      exact .int _
  · have : n ≤ k := by simpa [revRangeD] using le
    exact this
theorem si_iter (he : PE X e (tE g W ma)) (hK : X.K = g.K := by rfl) : PI X tg e (tI g W (mIter ma)) :=
  pi_mono (pi_or2 (pi_list he) (pi_or2 (pi_tup he) (pi_str he))) fun σ H R ⟨ρ, h, μ, sr, hr, bk⟩ => by
    have use : ∀ (Q : VK), (∀ x d h1 H1 μ1, ma ρ h = .ok d h1 → Mon g H H1 μ μ1 → HR g H1 μ1 h1 → VR g H1 μ1 x d → Bk (JR g) g H1 μ1 (match itemsOf d h1 with | some r => Mi.R.ok r h1 | none => .bad) R (fun c d H' => W c d σ H') → Q x H1) → tE g W ma σ H Q := fun Q k =>
      ⟨ρ, h, μ, sr, hr, Bk.bind bk fun a h1 b H1 μ1 e m hr1 hv bk1 => k b a h1 H1 μ1 e m hr1 hv bk1⟩
    rw [hK]
    unfold mIter at bk
    cases e : ma ρ h with
    | bad => rw [e] at bk; exact bk.elim
    | exc x fs h' => exact .inl (use _ fun x d h1 H1 μ1 e' => by rw [e] at e'; cases e')
    | ok d h1 =>
      cases d with
      | tup l =>
        refine .inr (.inl (use _ fun x d h1 H1 μ1 e' m hr1 vx bk1 => ?_))
        rw [e] at e'
        cases e'
        cases vx with
        | @tup p xs ds hs vs => exact ⟨p, rfl, ⟨xs, hs.sq⟩, bk1 _ H1 μ1 Mon.refl hr1 (jr_tup hs vs)⟩
      | str z =>
        refine .inr (.inr (use _ fun x d h1 H1 μ1 e' m hr1 vx bk1 => ?_))
        rw [e] at e'
        cases e'
        cases vx
        exact ⟨z, rfl, bk1 _ H1 μ1 Mon.refl hr1 jr_str⟩
      | ref i =>
        refine .inl (use _ fun x d h1 H1 μ1 e' m hr1 vx bk1 => ?_)
        rw [e] at e'
        cases e'
        cases vx with
        | @ref p _ hi =>
          simp only [itemsOf] at bk1
          cases q : getL h1 i with
          | none => rw [q] at bk1; exact bk1.elim
          | some l =>
            rw [q] at bk1
            obtain ⟨xs, hs, vs⟩ := hr1.list hi q
            exact ⟨p, rfl, ⟨xs, hs⟩, bk1 _ H1 μ1 Mon.refl hr1 (jr_list hi)⟩
      | _ => rw [e] at bk; exact bk.elim
theorem lim_of {i : Int} (h : lim62 i = true) : -(2 ^ 62) ≤ i ∧ i < 2 ^ 62 := by
  unfold lim62 at h
  rw [Bool.and_eq_true] at h
  exact ⟨of_decide_eq_true h.1, of_decide_eq_true h.2⟩
theorem si_range1 {p : Pos} (hm : X.mg "range" = none) (ha : PE X a (tE g W ma)) (hg : Gl X "range" := by rfl) (hs : starEach [a] X.env = [(false, eval a X.env)] := by rfl) : PI X tg (.Call (.Name "range" p) [a] [] pos) (tI g W (mRange1 ma)) :=
  pi_mono (pi_range1 hg hm (pa_cons ha pa_nil hs) hs) fun σ H R ⟨ρ, h, μ, sr, hr, bk⟩ => step (rel := VR) (rel' := JR) (ma := ma) (Q' := R) sr hr bk fun x d h1 H1 μ1 m1 sr1 hr1 vx bk1 => by
    cases vx with
    | int j =>
      simp only [dR1] at bk1
      split at bk1
      · rename_i l
        exact ⟨j, rfl, (lim_of l).1, (lim_of l).2, bk1 _ H1 μ1 Mon.refl hr1 jr_range⟩
      · exact bk1.elim
    | _ => exact bk1.elim
theorem si_range2 {p : Pos} (hm : X.mg "range" = none) (ha : PE X a (tE g W ma)) (hb : PE X b (tE g W mb)) (hg : Gl X "range" := by rfl) (hs : starEach [a, b] X.env = [(false, eval a X.env), (false, eval b X.env)] := by rfl) (hs2 : starEach [b] X.env = [(false, eval b X.env)] := by rfl) : PI X tg (.Call (.Name "range" p) [a, b] [] pos) (tI g W (mRange2 ma mb)) :=
  pi_mono (pi_range2 hg hm (pa_cons ha (pa_cons hb pa_nil hs2) (by rw [hs, hs2])) hs hs2) fun σ H R ⟨ρ, h, μ, sr, hr, bk⟩ => step (rel := VR) (rel' := JR) (ma := ma) (Q' := R) sr hr bk fun x d h1 H1 μ1 m1 sr1 hr1 vx bk1 =>
    step (rel := VR) (rel' := JR) (ma := mb) (Q' := R) sr1 hr1 bk1 fun y d2 h2 H2 μ2 m2 sr2 hr2 vy bk2 => by
      cases vx with
      | int i =>
        cases vy with
        | int j =>
          simp only [dR2] at bk2
          split at bk2
          · rename_i l
            exact ⟨i, j, rfl, ⟨(lim_of l.1).1, (lim_of l.1).2, (lim_of l.2).1, (lim_of l.2).2⟩, bk2 _ H2 μ2 Mon.refl hr2 jr_range⟩
          · exact bk2.elim
        | _ => exact bk2.elim
      | _ => exact bk2.elim
theorem si_rev1 {p p2 pos2 : Pos} (hmr : X.mg "reversed" = none) (hm : X.mg "range" = none) (ha : PE X a (tE g W ma)) (hgr : Gl X "reversed" := by rfl) (hg : Gl X "range" := by rfl) (na : starEach [a] X.env = (false, eval a X.env) :: starEach [] X.env := by rfl)
    (hs : starEach [.Call (.Name "range" p2) [a] [] pos2] X.env = (false, eval (.Call (.Name "range" p2) [a] [] pos2) X.env) :: starEach [] X.env := by rfl) : PI X tg (.Call (.Name "reversed" p) [.Call (.Name "range" p2) [a] [] pos2] [] pos) (tI g W (mRev1 ma)) :=
  pi_mono (pi_revR hgr hmr (prg_1 hg hm ha na) hs) fun σ H R ⟨ρ, h, μ, sr, hr, bk⟩ => step (rel := VR) (rel' := JR) (ma := ma) (Q' := R) sr hr bk fun x d h1 H1 μ1 m1 sr1 hr1 vx bk1 => by
    cases vx with
    | int j =>
      simp only [dR1] at bk1
      split at bk1
      · rename_i l
        have e : (j - 0).toNat = j.toNat := by rw [Int.sub_zero]
        refine ⟨j, rfl, by decide, by decide, (lim_of l).1, (lim_of l).2, ?_⟩
        have q := jr_rev (g := g) (H0 := H1) (μ0 := μ1) (lo := 0) (n := j.toNat)
        rw [e]
        exact bk1 _ H1 μ1 Mon.refl hr1 q
      · exact bk1.elim
    | _ => exact bk1.elim
end

/-! ### for -/
def forGo (gd : MH → Bool) (tg : MG) (body : MS) : List D → Slots → MH → Out
  | [], ρ, h => if gd h = true then .nx ρ h else .bad
  | d :: ds, ρ, h => if gd h = true then match tg d ρ with
    | some ρ1 => match body ρ1 h with
      | .nx ρ' h' => forGo gd tg body ds ρ' h'
      | .ct ρ' h' => forGo gd tg body ds ρ' h'
      | .bk ρ' h' => .nx ρ' h'
      | .rt d h' => .rt d h'
      | .exc x fs ρ' h' => .exc x fs ρ' h'
      | .bad => .bad
    | none => .bad else .bad
def mFor (it : MI) (tg : MG) (body : MS) : MS := fun ρ h => (it ρ h).out ρ fun a h1 => forGo a.2 tg body a.1 ρ h1
def whGo (c : MT) (body : MS) : Nat → Slots → MH → Out
  | 0, _, _ => .bad
  | n + 1, ρ, h => (c ρ h).out ρ fun b h1 => if b = true then match body ρ h1 with
    | .nx ρ' h' => whGo c body n ρ' h'
    | .ct ρ' h' => whGo c body n ρ' h'
    | .bk ρ' h' => .nx ρ' h'
    | .rt d h' => .rt d h'
    | .exc x fs ρ' h' => .exc x fs ρ' h'
    | .bad => .bad else .nx ρ h1
def mWhile (n : Nat) (c : MT) (body : MS) : MS := fun ρ h => whGo c body n ρ h
section
variable {X : Cx} {g : G} {W : WX} {pos : Pos} {tg iter : Expr} {mi : MI} {mt : MG} {mb : MS} {body : List Stmt} {rl : Rl}
theorem sx_for (hp : PassesOwn (model X.prog X.w) X.A X.env X.xe) (hi : PI X tg iter (tIr rl g W mi)) (hg : PG X tg (tGr rl g mt)) (hb : PSs X body (tS g W mb)) (hc : X.calm = true := by rfl) (hs : ∀ x, foldedSetIterable iter X.env x = pure x := by intro _; rfl) :
    PS X (.For tg iter body [] pos) (tS g W (mFor mi mt mb)) :=
  ps_mono (ps_for hp hc hi hg hb hs) fun E σ H ⟨ρ, h, μ, sr, hr, bk⟩ => stepS (rel := JRr rl) (ma := mi) (E := E) sr hr bk fun J a h1 H1 μ1 m1 sr1 hr1 jr bk1 => by
    refine ⟨fun i m σ' H' => m = a.1.length - i ∧ i ≤ a.1.length ∧ ∃ ρ' h' μ', Mon g H1 H' μ1 μ' ∧ SR g H' μ' σ' ρ' ∧ HR g H' μ' h' ∧ BkS g H' μ' (forGo a.2 mt mb (a.1.drop i) ρ' h') E W, ⟨a.1.length, by simp, Nat.zero_le _, ρ, h1, μ1, Mon.refl, sr1, hr1, by simpa using bk1⟩, ?_⟩
    rintro i m σ' H' ⟨rfl, hi, ρ', h', μ', m', sr', hr', bk'⟩
    by_cases hlt : i < a.1.length
    · have ed : a.1.drop i = a.1[i] :: a.1.drop (i + 1) := List.drop_eq_getElem_cons hlt
      rw [ed] at bk'
      unfold forGo at bk'
      split at bk'
      · rename_i gd
        obtain ⟨jg, _⟩ := jr i H' μ' h' m' hr' gd
        obtain ⟨go, yl⟩ := jg hlt
        refine .inr ⟨go, fun σ2 H2 => i + 1 ≤ a.1.length ∧ ∃ ρ2 h2 μ2, Mon g H1 H2 μ1 μ2 ∧ SR g H2 μ2 σ2 ρ2 ∧ HR g H2 μ2 h2 ∧ BkS g H2 μ2 (forGo a.2 mt mb (a.1.drop (i + 1)) ρ2 h2) E W, fun σ2 H2 q => ⟨a.1.length - (i + 1), by omega, rfl, q.1, q.2⟩, fun x Hy y => ?_⟩
        obtain ⟨d, hd, my, hry, vy⟩ := yl x Hy y
        rw [List.getElem?_eq_getElem hlt] at hd
        cases hd
        refine ⟨ρ', h', μ', _, sr'.mono my, hry, vy, ?_⟩
        split at bk'
        · rename_i ρ1 e1
          intro σ3 sr3
          refine ⟨ρ1, h', μ', sr3, hry, ?_⟩
          have mm := m'.trans my
          cases e2 : mb ρ1 h' with
          | nx ρ4 h4 => rw [e2] at bk'; exact fun σ4 H4 μ4 m4 sr4 hr4 => ⟨hlt, ρ4, h4, μ4, mm.trans m4, sr4, hr4, BkS.mono (my.trans m4) bk'⟩
          | ct ρ4 h4 => rw [e2] at bk'; exact fun σ4 H4 μ4 m4 sr4 hr4 => ⟨hlt, ρ4, h4, μ4, mm.trans m4, sr4, hr4, BkS.mono (my.trans m4) bk'⟩
          | bk ρ4 h4 => rw [e2] at bk'; exact BkS.mono my bk'
          | rt d4 h4 => rw [e2] at bk'; exact BkS.mono my bk'
          | exc x4 fs4 ρ4 h4 => rw [e2] at bk'; exact BkS.mono my bk'
          | bad => rw [e2] at bk'; exact bk'
        · exact bk'.elim
      · exact bk'.elim
    · have e : i = a.1.length := by omega
      subst e
      rw [List.drop_length] at bk'
      unfold forGo at bk'
      split at bk'
      · rename_i gd
        exact .inl ⟨(jr _ H' μ' h' m' hr' gd).2 (Nat.le_refl _), bk' σ' H' μ' Mon.refl sr' hr'⟩
      · exact bk'.elim
theorem sx_while {c : Expr} {mc : MT} (n : Nat) (hp : PassesOwn (model X.prog X.w) X.A X.env X.xe) (hc : PT X c (tT g W mc)) (hb : PSs X body (tS g W mb)) : PS X (.While c body [] pos) (tS g W (mWhile n mc mb)) :=
  ps_mono (ps_while hp hc hb) fun E σ H ⟨ρ, h, μ, sr, hr, bk⟩ => by
    refine ⟨fun m σ' H' => ∃ ρ' h' μ', SR g H' μ' σ' ρ' ∧ HR g H' μ' h' ∧ BkS g H' μ' (whGo mc mb m ρ' h') E W, ⟨n, ρ, h, μ, sr, hr, bk⟩, ?_⟩
    rintro m σ' H' ⟨ρ', h', μ', sr', hr', bk'⟩
    cases m with
    | zero => exact bk'.elim
    | succ m =>
      unfold whGo at bk'
      refine stepS (rel := fun _ => eqR) (ma := mc) (E := E) sr' hr' bk' fun b b' h1 H1 μ1 m1 sr1 hr1 vb bk1 => ?_
      cases vb
      cases b with
      | false => exact bk1 σ' H1 μ1 Mon.refl sr1 hr1
      | true =>
        refine ⟨fun σ2 H2 => ∃ ρ2 h2 μ2, SR g H2 μ2 σ2 ρ2 ∧ HR g H2 μ2 h2 ∧ BkS g H2 μ2 (whGo mc mb m ρ2 h2) E W, fun σ2 H2 q => ⟨m, Nat.lt_succ_self m, q⟩, ρ', h1, μ1, sr1, hr1, ?_⟩
        simp only [if_true] at bk1
        cases e2 : mb ρ' h1 with
        | nx ρ4 h4 => rw [e2] at bk1; exact fun σ4 H4 μ4 m4 sr4 hr4 => ⟨ρ4, h4, μ4, sr4, hr4, BkS.mono m4 bk1⟩
        | ct ρ4 h4 => rw [e2] at bk1; exact fun σ4 H4 μ4 m4 sr4 hr4 => ⟨ρ4, h4, μ4, sr4, hr4, BkS.mono m4 bk1⟩
        | bk ρ4 h4 => rw [e2] at bk1; exact bk1
        | rt d4 h4 => rw [e2] at bk1; exact bk1
        | exc x4 fs4 ρ4 h4 => rw [e2] at bk1; exact bk1
        | bad => rw [e2] at bk1; exact bk1
end

/-! ### a def by its body -/
def startD (n N : Nat) (ds : List D) : Slots := ds.map some ++ List.replicate (N - n) none
def mFun (n N : Nat) (body : MS) : List D → MH → R D := fun ds h => if ds.length = n then match body (startD n N ds) h with
  | .nx _ h' => .ok .non h'
  | .rt d h' => .ok d h'
  | .exc x fs _ h' => .exc x fs h'
  | _ => .bad else .bad
theorem spM_len {g : G} {n N : Nat} {body : MS} {vs : List V} {H : Hp} {Q : VK} {E : XK} (h : spM g (mFun n N body) vs H Q E) : vs.length = n := by
  obtain ⟨ds, hh, μ, v, hr, bk⟩ := h
  unfold mFun at bk
  split at bk
  · rename_i e; rw [v.length]; exact e
  · exact bk.elim
theorem spM_run {g : G} {ps N : List Str} {body : MS} {vs : List V} {H : Hp} {Q : VK} {E : XK} (h : spM g (mFun ps.length N.length body) vs H Q E) : tS g (fun c d _ H' => E c d H') body { nx := fun _ H' => Q .non H', rt := Q } (L2.start N vs) H := by
  have hl := spM_len h
  obtain ⟨ds, hh, μ, v, hr, bk⟩ := h
  unfold mFun at bk
  split at bk
  · rename_i e
    refine ⟨startD ps.length N.length ds, hh, μ, ?_, hr, ?_⟩
    · unfold L2.start startD
      rw [hl]
      exact SR.start _ v
    · cases q : body (startD ps.length N.length ds) hh with
      | nx ρ h' => rw [q] at bk; exact fun σ' H' μ' m sr hr' => bk .non H' μ' m hr' .non
      | rt d h' => rw [q] at bk; exact fun v H' μ' m hr' vd => bk v H' μ' m hr' vd
      | bk ρ h' => rw [q] at bk; exact bk.elim
      | ct ρ h' => rw [q] at bk; exact bk.elim
      | exc x fs ρ h' => rw [q] at bk; exact fun cls d σ' H' μ' m sr hr' xr => bk cls d H' μ' m hr' xr
      | bad => rw [q] at bk; exact bk
  · exact bk.elim
section
variable {P : Program} {w : World} {K : PySem.W.Frag} {mg : Str → Option Value} {base : Heap} {g : G}
theorem fn_mk {x qual : Str} {st : Stmt} {f : Addr} {fd : FuncData} {N ps : List Str} {k : Nat} {body : MS} (F : Fun K x qual st f fd) (S : FnScope N ps (defScope st))
    (hb : ∀ (cdv : Value) (A : Around) (outer : List Env) (s : Shared) (H : Hp) (E : XK), Room k (A.deeper (PyProof.Rows.envOfC qual (defScope st) s.heap.objs.size f cdv)) →
      PSs (cxOf (L2.CX P w) P w K mg base N qual (defScope st) f cdv A outer s H E) (defBody st) (tS g (fun c d _ H' => E c d H') body)) :
    FnOk P w K mg base (L2.CX P w) (k + 1) f fd ps (spM g (mFun ps.length N.length body)) :=
  F.okX S (fun vs H Q E h => spM_len h) fun cdv A outer s H vs Q E hr h => ⟨_, hb cdv A outer s H E hr, spM_run h⟩
theorem fn_none {f : Addr} {fd : FuncData} {ps : List Str} {k : Nat} {F : List D → MH → R D} (hF : ∀ ds h, F ds h = .bad) : FnOk P w K mg base (L2.CX P w) k f fd ps (spM g F) := by
  have no : ∀ vs H Q E, ¬ spM g F vs H Q E := fun vs H Q E ⟨ds, h, μ, _, _, bk⟩ => by rw [hF] at bk; exact bk
  exact ⟨fun vs H Q E h => absurd h (no vs H Q E), fun A outer s H args us vs Q E _ _ _ _ h => absurd h (no vs H Q E)⟩
end
end Mi

namespace Mi
open PySem L2

/-! ### list comprehensions -/
abbrev W0 : WX := fun _ _ _ _ => False
def mYes : MT := fun _ h => .ok true h
def wipeD (ρ : Slots) : List Nat → Slots
  | [] => ρ
  | v :: vs => (wipeD ρ vs).set v none
theorem SR.wipe {g : G} {H : Hp} {μ : List Addr} {σ : St} {ρ : Slots} (h : SR g H μ σ ρ) : ∀ vs : List Nat, SR g H μ (L2.wipe σ vs) (wipeD ρ vs)
  | [] => h
  | v :: vs => (SR.wipe h vs).unset v none
def lcGo (gd : MH → Bool) (tg : MG) (tt : MT) (te : ME) (c : Nat) (ρ : Slots) : List D → MH → R D
  | [], h => if gd h = true then .ok (.ref c) h else .bad
  | d :: ds, h => if gd h = true then match tg d ρ with
    | some ρ1 => match tt ρ1 h with
      | .ok false h1 => lcGo gd tg tt te c ρ ds h1
      | .ok true h1 => match te ρ1 h1 with
        | .ok y h2 => match h2[c]? with
          | some (.lst acc) => if acc.length < 1000000 then lcGo gd tg tt te c ρ ds (h2.set c (.lst (acc ++ [y]))) else .bad
          | _ => .bad
        | _ => .bad
      | _ => .bad
    | none => .bad else .bad
def mLc (it : MI) (tg : MG) (tt : MT) (te : ME) (vs : List Nat) : ME := fun ρ h => (it ρ h).bind fun a h1 => lcGo a.2 tg tt te h1.length (wipeD ρ vs) a.1 (h1 ++ [.lst []])
/-- a target by its very slots -/
structure TgOk (rl : Rl) (g : G) (t : TG) (m : MG) (vs : List Nat) : Prop where
  run : ∀ (v : V) (d : D) (σ : St) (ρ : Slots) (H : Hp) (μ : List Addr) (h : MH) (Q : St → Hp → Prop), HR g H μ h → rl g H μ v d → SR g H μ (L2.wipe σ vs) ρ →
    match m d ρ with
    | some ρ' => (∀ σ', SR g H μ σ' ρ' → L2.wipe σ' vs = L2.wipe σ vs → Q σ' H) → t v (L2.wipe σ vs) H Q
    | none => True
theorem tg_name {g : G} (j : Nat) : TgOk VR g (gName j) (mgName j) [j] := ⟨fun v d σ ρ H μ h Q hr vd sr => by
  intro k
  refine k _ (sr.set j vd) ?_
  show ((σ.set j none).set j (some v)).set j none = σ.set j none
  rw [List.set_set, List.set_set]⟩
section
variable {g : G} {W : WX} {mi : MI} {mt : MG} {tt : MT} {te : ME} {t : TG} {vs : List Nat} {rl : Rl}
theorem lc_of (ht : TgOk rl g t mt vs) {σ : St} {H : Hp} {Q : VK} (q : tE g W (mLc mi mt tt te vs) σ H Q) : tLc (tIr rl g W mi) t (tT g W0 tt) (tE g W0 te) vs σ H Q := by
  obtain ⟨ρ, h, μ, sr, hr, bk⟩ := q
  refine step (rel := JRr rl) (rel' := VR) (ma := mi) (Q' := Q) sr hr bk fun J a h1 H1 μ1 m1 sr1 hr1 jr bk1 Dd hD => ?_
  have mD : Mon g H1 (upd H1 Dd (.lst [])) μ1 (μ1 ++ [Dd]) := mon_push hD
  refine ⟨fun i m H' => m = a.1.length - i ∧ i ≤ a.1.length ∧ ∃ h' μ', Mon g H1 H' μ1 μ' ∧ μ'[h1.length]? = some Dd ∧ HR g H' μ' h' ∧ Bk (VR g) g H' μ' (lcGo a.2 mt tt te h1.length (wipeD ρ vs) (a.1.drop i) h') Q (fun c d H' => W c d σ H'),
    ⟨a.1.length, by simp, Nat.zero_le _, h1 ++ [.lst []], μ1 ++ [Dd], mD, ix_push hr1.len, hr1.push (u := .lst []) hD ⟨[], upd_same, .nil⟩, Bk.mono mD (by simpa using bk1)⟩, ?_⟩
  rintro i m H' ⟨rfl, hi, h', μ', m', hc, hr', bk'⟩
  by_cases hlt : i < a.1.length
  · have ed : a.1.drop i = a.1[i] :: a.1.drop (i + 1) := List.drop_eq_getElem_cons hlt
    rw [ed] at bk'
    unfold lcGo at bk'
    split at bk'
    · rename_i gd
      obtain ⟨jg, _⟩ := jr i H' μ' h' m' hr' gd
      obtain ⟨go, yl⟩ := jg hlt
      refine .inr ⟨go, fun H2 => i + 1 ≤ a.1.length ∧ ∃ h2 μ2, Mon g H1 H2 μ1 μ2 ∧ μ2[h1.length]? = some Dd ∧ HR g H2 μ2 h2 ∧ Bk (VR g) g H2 μ2 (lcGo a.2 mt tt te h1.length (wipeD ρ vs) (a.1.drop (i + 1)) h2) Q (fun c d H' => W c d σ H'), fun H2 q => ⟨a.1.length - (i + 1), by omega, rfl, q.1, q.2⟩, fun x Hy y => ?_⟩
      obtain ⟨d, hd, my, hry, vy⟩ := yl x Hy y
      rw [List.getElem?_eq_getElem hlt] at hd
      cases hd
      have mm := m'.trans my
      have srw : SR g Hy μ' (L2.wipe σ vs) (wipeD ρ vs) := (sr1.mono mm).wipe vs
      have tr := ht.run x a.1[i] σ (wipeD ρ vs) Hy μ' h' (fun σ2 H2 => L2.wipe σ2 vs = L2.wipe σ vs ∧ tT g W0 tt σ2 H2 fun b H3 => if b = true then tE g W0 te σ2 H3 fun y H4 => ∃ acc, H4 Dd = some (.lst acc) ∧ acc.length < sizeLine ∧ (i + 1 ≤ a.1.length ∧ ∃ h2 μ2, Mon g H1 (upd H4 Dd (.lst (acc ++ [y]))) μ1 μ2 ∧ μ2[h1.length]? = some Dd ∧ HR g (upd H4 Dd (.lst (acc ++ [y]))) μ2 h2 ∧ Bk (VR g) g (upd H4 Dd (.lst (acc ++ [y]))) μ2 (lcGo a.2 mt tt te h1.length (wipeD ρ vs) (a.1.drop (i + 1)) h2) Q (fun c d H' => W c d σ H')) else (i + 1 ≤ a.1.length ∧ ∃ h2 μ2, Mon g H1 H3 μ1 μ2 ∧ μ2[h1.length]? = some Dd ∧ HR g H3 μ2 h2 ∧ Bk (VR g) g H3 μ2 (lcGo a.2 mt tt te h1.length (wipeD ρ vs) (a.1.drop (i + 1)) h2) Q (fun c d H' => W c d σ H'))) hry vy srw
      split at bk'
      · rename_i ρ1 e1
        rw [e1] at tr
        refine tr fun σ2 sr2 ew => ⟨ew, ρ1, h', μ', sr2, hry, ?_⟩
        cases e2 : tt ρ1 h' with
        | bad => rw [e2] at bk'; exact bk'.elim
        | exc x fs h3 => rw [e2] at bk'; exact bk'.elim
        | ok b h3 =>
          rw [e2] at bk'
          intro b' H3 μ3 m3 hr3 eb
          cases eb
          cases b with
          | false => exact ⟨hlt, h3, μ3, mm.trans m3, m3.ix hc, hr3, Bk.mono (my.trans m3) bk'⟩
          | true =>
            refine ⟨ρ1, h3, μ3, sr2.mono m3, hr3, ?_⟩
            simp only at bk'
            cases e3 : te ρ1 h3 with
            | bad => rw [e3] at bk'; exact bk'.elim
            | exc x fs h4 => rw [e3] at bk'; exact bk'.elim
            | ok y h4 =>
              rw [e3] at bk'
              intro yv H4 μ4 m4 hr4 vyv
              simp only at bk'
              split at bk'
              · rename_i acc ea
                split at bk'
                · rename_i hl
                  have hc4 : μ4[h1.length]? = some Dd := m4.ix (m3.ix hc)
                  obtain ⟨xs, hx, vx⟩ := hr4.lst hc4 ea
                  have m5 : Mon g H4 (upd H4 Dd (.lst (xs ++ [yv]))) μ4 μ4 := (Saf.lst hx).mon
                  exact ⟨xs, hx, by rw [vx.length]; exact sz6' hl, hlt, _, μ4, ((mm.trans m3).trans m4).trans m5, hc4,
                    hr4.write (u := .lst (acc ++ [y])) hc4 ea rfl (Saf.lst hx) rfl ⟨_, upd_same, (vx.append (.one vyv)).mono m5⟩, Bk.mono (((my.trans m3).trans m4).trans m5) bk'⟩
                · exact bk'.elim
              · exact bk'.elim
      · exact bk'.elim
    · exact bk'.elim
  · have e : i = a.1.length := by omega
    subst e
    rw [List.drop_length] at bk'
    unfold lcGo at bk'
    split at bk'
    · rename_i gd
      exact .inl ⟨(jr _ H' μ' h' m' hr' gd).2 (Nat.le_refl _), bk' _ H' μ' Mon.refl hr' (.ref hc)⟩
    · exact bk'.elim
end
section
variable {X : Cx} {g : G} {W : WX} {elt tg iter : Expr} {ifs : List Expr} {scope : Scope} {own : List (Str × Nat)} {pos spos py : Pos} {mi : MI} {mt : MG} {tt : MT} {te : ME} {t : TG} {rl : Rl}
theorem st_one {Y : Cx} {c : Expr} (h : PT Y c (tT g W0 tt)) : PTs Y [c] (tT g W0 tt) := pts_one h
theorem st_nil {Y : Cx} : PTs Y [] (tT g W0 mYes) := ⟨fun pins s σ H Q I ⟨ρ, h, μ, sr, hr, bk⟩ => (pts_nil (X := Y)).run pins s σ H Q I (bk true H μ Mon.refl hr rfl)⟩
theorem se_lc (hN : X.N.Nodup) (hi : PI X tg iter (tIr rl g W mi)) (ok : BlkOk X.N X.env.scope scope own) (ht : TgOk rl g t mt (own.map (·.2)))
    (hg : ∀ (s : Shared) (H : Hp) (C : Addr) (cl : List (Str × Addr)) (fp : List Addr), PG (X.blk s H scope (PySem.compEnvC scope cl C X.env) fp) tg t) (hts : ∀ (s : Shared) (H : Hp) (C : Addr) (cl : List (Str × Addr)) (fp : List Addr), PTs (X.blk s H scope (PySem.compEnvC scope cl C X.env) fp) ifs (tT g W0 tt))
    (he : ∀ (s : Shared) (H : Hp) (C : Addr) (cl : List (Str × Addr)) (fp : List Addr), PE (X.blk s H scope (PySem.compEnvC scope cl C X.env) fp) elt (tE g W0 te)) (hc : X.calm = true := by rfl) (hs : ∀ x, foldedSetIterable iter X.env x = pure x := by intro _; rfl) :
    PE X (.ListComp elt [⟨tg, iter, ifs, 0⟩] scope pos) (tE g W (mLc mi mt tt te (own.map (·.2)))) :=
  pe_mono (pe_lc hc hN hi ok hg hts he hs) fun σ H Q q => lc_of ht q
theorem sx_setLc {i : Nat} {y : Str} (hN : X.N.Nodup) (hi : PI X tg iter (tIr rl g W mi)) (ok : BlkOk X.N X.env.scope scope own) (ht : TgOk rl g t mt (own.map (·.2)))
    (hg : ∀ (s : Shared) (H : Hp) (C : Addr) (cl : List (Str × Addr)) (fp : List Addr), PG (X.blk s H scope (PySem.compEnvC scope cl C X.env) fp) tg t) (hts : ∀ (s : Shared) (H : Hp) (C : Addr) (cl : List (Str × Addr)) (fp : List Addr), PTs (X.blk s H scope (PySem.compEnvC scope cl C X.env) fp) ifs (tT g W0 tt))
    (he : ∀ (s : Shared) (H : Hp) (C : Addr) (cl : List (Str × Addr)) (fp : List Addr), PE (X.blk s H scope (PySem.compEnvC scope cl C X.env) fp) elt (tE g W0 te))
    (hy : X.N[i]? = some y := by rfl) (hyl : X.env.scope.names.lookup y = some .local := by rfl) (hsw : swapsWith (.ListComp elt [⟨tg, iter, ifs, 0⟩] scope pos) (some (.Name y py)) spos.line X.env = pure true := by exact sw_true rfl rfl rfl (by decide +kernel))
    (hc : X.calm = true := by rfl) (hs : ∀ x, foldedSetIterable iter X.env x = pure x := by intro _; rfl) :
    PS X (.Assign [.Name y py] (.ListComp elt [⟨tg, iter, ifs, 0⟩] scope pos) spos) (tS g W (mAsg i (mLc mi mt tt te (own.map (·.2))))) :=
  ps_mono (ps_setLc hc hN hy hyl hsw hi ok hg hts he hs) fun E σ H ⟨ρ, h, μ, sr, hr, bk⟩ => lc_of ht (W := W) (stepS (W := W) (rel := VR) (ma := mLc mi mt tt te (own.map (fun p : Str × Nat => p.2))) (f := fun d h1 => .nx (ρ.set i (some d)) h1) (E := E) sr hr bk fun v d h1 H1 μ1 m1 sr1 hr1 vx bk1 => bk1 _ H1 μ1 Mon.refl (sr1.set i vx) hr1)
end

/-! ### stores to places, to several names -/
def dSet (x y d : D) (h : MH) : R Unit := match x, y with
  | .ref i, .int k => match h[i]? with
    | some (.lst l) => match ixN l.length k with
      | some j => .ok () (h.set i (.lst (l.set j d)))
      | none => .bad
    | _ => .bad
  | _, _ => .bad
def mSetIx (o i e : ME) : MS := fun ρ h => (e ρ h).out ρ fun d h1 => (o ρ h1).out ρ fun x h2 => (i ρ h2).out ρ fun y h3 => (dSet x y d h3).out ρ fun _ h4 => .nx ρ h4
def mAsgT (m : MG) (e : ME) : MS := fun ρ h => (e ρ h).out ρ fun d h1 => match m d ρ with
  | some ρ' => .nx ρ' h1
  | none => .bad
section
variable {X : Cx} {g : G} {W : WX} {o i e tg : Expr} {mo mi me : ME} {pos p2 : Pos} {mt : MG}
theorem sx_setIx (ho : PE X o (tE g W mo)) (hi : PE X i (tE g W mi)) (he : PE X e (tE g W me))
    (ha : ∀ v, assign (.Subscript o i p2) X.env v = (do
      let ov ← holding [v] (eval o X.env)
      let iv ← holding [v, ov] (eval i X.env)
      standAt p2
      holding [v, ov, iv] (setItem ov iv v)
      release [v, ov, iv] []) := by intro _; rfl)
    (hs : swapsWithSole [.Subscript o i p2] e pos.line X.env = pure false := by rfl) (hw : swappedStores [.Subscript o i p2] e X.env = pure none := by rfl)
    (h1 : (assignEach [.Subscript o i p2] X.env).map (·.2) = [assign (.Subscript o i p2) X.env] := by rfl) : PS X (.Assign [.Subscript o i p2] e pos) (tS g W (mSetIx mo mi me)) :=
  ps_mono (ps_asg he (pg_sub ho hi set_list ha) hs hw h1) fun E σ H ⟨ρ, h, μ, sr, hr, bk⟩ =>
    stepS (rel := VR) (ma := me) (E := E) sr hr bk fun v d h1 H1 μ1 m1 sr1 hr1 vd bk1 => stepS (rel := VR) (ma := mo) (E := E) sr1 hr1 bk1 fun x a h2 H2 μ2 m2 sr2 hr2 vx bk2 => stepS (rel := VR) (ma := mi) (E := E) sr2 hr2 bk2 fun y b h3 H3 μ3 m3 sr3 hr3 vy bk3 => by
      have vx := vx.mono m3
      have vd := (vd.mono m2).mono m3
      cases vx with
      | @ref p c hi =>
        cases vy with
        | int k =>
          simp only [dSet] at bk3
          split at bk3
          · rename_i l q
            split at bk3
            · rename_i j ej
              obtain ⟨xs, hx, vxs⟩ := hr3.lst hi q
              refine ⟨p, xs, k, j, rfl, rfl, hx, by rw [vxs.length]; exact ej, ?_⟩
              have m5 : Mon g H3 (upd H3 p (.lst (xs.set j v))) μ3 μ3 := (Saf.lst hx).mon
              exact bk3 _ _ μ3 m5 (sr3.mono m5) (hr3.write (u := .lst (l.set j d)) hi q rfl (Saf.lst hx) rfl ⟨_, upd_same, (vxs.set j vd).mono m5⟩)
            · exact bk3.elim
          · exact bk3.elim
        | _ => exact bk3.elim
      | _ => exact bk3.elim
theorem sx_setT (he : PE X e (tE g W me)) (hg : PG X tg (tG g mt)) (hs : swapsWithSole [tg] e pos.line X.env = pure false := by rfl) (hw : swappedStores [tg] e X.env = pure none := by rfl)
    (h1 : (assignEach [tg] X.env).map (·.2) = [assign tg X.env] := by rfl) : PS X (.Assign [tg] e pos) (tS g W (mAsgT mt me)) :=
  ps_mono (ps_asg he hg hs hw h1) fun E σ H ⟨ρ, h, μ, sr, hr, bk⟩ => stepS (rel := VR) (ma := me) (E := E) sr hr bk fun v d h1 H1 μ1 m1 sr1 hr1 vd bk1 => by
    refine ⟨ρ, h1, μ1, d, sr1, hr1, vd, ?_⟩
    split at bk1
    · rename_i ρ' e'
      (try rw [e'])
      exact fun σ' sr' => bk1 σ' H1 μ1 Mon.refl sr' hr1
    · exact bk1.elim
end

/-! ### the end of a law -/
def cmOf (K : PySem.W.Frag) : Str → Option Addr := fun x => match PySem.W.nsIn K mainGlobals x with
  | some (some (.ref C)) => some C
  | _ => none
abbrev gOf (w : World) (K : PySem.W.Frag) : G := ⟨K, cmOf K, w⟩
theorem vrs_ints {g : G} {H : Hp} {μ : List Addr} : ∀ ns : List Int, VRs g H μ (ns.map V.int) (ns.map D.int)
  | [] => .nil
  | n :: ns => .cons (.int n) (vrs_ints ns)
theorem law_start {K : PySem.W.Frag} {F : List D → MH → R D} {H : Hp} {a : Addr} {ns : List Int} {h' : MH} (hO : Only H) (hS : SqL K H a (ns.map V.int)) (hF : F [.ref 0] [.rol (ns.map D.int)] = .ok (.bl true) h') :
    spM (gOf w K) F [.ref a] H (fun v _ => v = .bl true) fun _ _ _ => False := by
  refine ⟨[.ref 0], [.rol (ns.map D.int)], [a], .cons (.ref rfl) .nil, ⟨rfl, fun i p o hi ho => ?_, fun i j p o u hi hj ho hu m1 m2 => ?_⟩, ?_⟩
  · cases i with
    | succ i => simp at hi
    | zero =>
      simp at hi ho
      subst hi ho
      refine ⟨ns.map V.int, ?_, vrs_ints ns⟩
      rcases hS with (h | h) | h
      · rcases hO a with z | ⟨o, xs, z⟩
        · rw [h] at z; cases z
        · rw [h] at z; cases z
      · exact .inl h
      · exact .inr h
  · cases i with
    | succ i => simp at hi
    | zero => cases j with
      | succ j => simp at hj
      | zero => rfl
  · rw [hF]
    intro v H' μ' m hr hv
    cases hv
    rfl
theorem law_end {l : PySem.W.OpenLaw} {k : Nat} {q : Program} {loose : List Str} {XP : (Str → Option Value) → Heap → Prop} {YP : World → Heap → Prop} {d : DefRec} {K : Params → PySem.W.Frag} {x : Str} {F : List D → MH → R D}
    (hF : ∀ ns : List Int, ns.length ≤ 63 → (∀ z ∈ ns, Builtin.Int.intBits z ≤ 1048576) → ∃ h', F [.ref 0] [.rol (ns.map D.int)] = .ok (.bl true) h')
    (hn : l.most = some 63) (hdf : d.params.defaults = []) (hr : Room k PySem.callerA)
    (hY : ∀ (w : World) (h : Heap), YP w h → (K w.params).In h)
    (FF : ∀ (w : World) (mg : Str → Option Value) (fa : Addr) (h : Heap), (K w.params).In h → h.Ns mainGlobals mg → mg d.name = some (.ref fa) →
      ∃ fd : FuncData, (∀ (s : Shared) (u : Value), BindsTo s fd ⟨[u], []⟩ [(x, u)]) ∧
        ∀ base : Heap, (K w.params).In base → base.Ns mainGlobals mg → FnOk l.prog w (K w.params) mg base (L2.CX l.prog w) k fa fd [x] (spM (gOf w (K w.params)) F)) :
    PySem.W.WalkO q loose XP YP l.row.toRowW d [] (fun f vs => PySem.call f vs) :=
  walk_ofB (n := 63) (k := k) (x := x) (CX := fun w => L2.CX l.prog w) (sp := fun w => spM (gOf w (K w.params)) F) hn (by decide) hdf hr hY FF
    (fun w H a ns h1 h2 hO hS => let ⟨h', e⟩ := hF ns h1 h2; law_start hO hS e)
    fun w H s e s' c => by
      obtain ⟨_, _, _, _, _, _, _, _, _, _, _, _, z⟩ := c
      exact z
end Mi

namespace Mi
open PySem L2

/-! ### dict displays of no pair, of one -/
def keyD : D → Option Key
  | .int i => some (.inl i)
  | .str x => some (.inr x)
  | _ => none
def mDict0 : ME := fun _ h => .ok (.ref h.length) (h ++ [.dK []])
def mDict1 (k v : ME) : ME := fun ρ h => (k ρ (h ++ [.dK []])).bind fun x h1 => (v ρ h1).bind fun y h2 => if h2[h.length]? = some (.dK []) then match keyD x with
  | some kk => .ok (.ref h.length) (h2.set h.length (.dK [(kk, y)]))
  | none => .bad else .bad
section
variable {X : Cx} {g : G} {W : WX} {k v : Expr} {mk mv : ME} {pos : Pos}
theorem keyD_of {H : Hp} {μ : List Addr} {x : V} {d : D} {kk : Key} (vx : VR g H μ x d) (e : keyD d = some kk) : x = kV kk := by
  cases vx <;> cases e <;> rfl
end
/-! ### a < b < c -/
def mChain (f f' : D → D → MH → R D) (a b c : ME) : ME := fun ρ h => (a ρ h).bind fun x h1 => (b ρ h1).bind fun y h2 => (f x y h2).bind fun z h3 => match z with
  | .bl true => (c ρ h3).bind fun w h4 => f' y w h4
  | .bl false => .ok (.bl false) h3
  | _ => .bad
section
variable {X : Cx} {g : G} {W : WX} {a b c : Expr} {ma mb mc : ME} {pos : Pos} {r r' : R2} {f f' : D → D → MH → R D} {op op' : CmpOp}
end

/-! ### defs by their names -/
/-- a def of the top, as it stands: its text, its parameters -/
def Df (K : PySem.W.Frag) (mg : Str → Option Value) (x : Str) (st : Stmt) (ps : List Str) : Prop := ∃ f fd, Fun K x x st f fd ∧ mg x = some (.ref f) ∧ Binds K fd ps []
/-- a def that does what F says, by at most k calls deep -/
def Cal (P : Program) (w : World) (K : PySem.W.Frag) (mg : Str → Option Value) (base : Heap) (x : Str) (k : Nat) (F : List D → MH → R D) : Prop :=
  ∃ f fd ps, FnOk P w K mg base (L2.CX P w) k f fd ps (spM (gOf w K) F) ∧ mg x = some (.ref f) ∧ PySem.W.keepIn K (.ref f) = true ∧ Binds K fd ps []
section
variable {P : Program} {w : World} {K : PySem.W.Frag} {mg : Str → Option Value} {base : Heap}
theorem df_mk {h : Heap} {x : Str} {st : Stmt} {ps : List Str} {f : Addr} {oc : Value} {od an : Option Addr} {osl : Array (Option Value)} {kV doc pm cdv ct : Value} (X : K.In h) (G : h.Ns mainGlobals mg)
    (a : PySem.W.nsIn K mainGlobals x = some (some (.ref f))) (l : K.lookup f = some ⟨oc, od, .func (PySem.W.fnOf x x (defArgs st) (defBody st) (defScope st) .none kV doc pm an cdv ct), osl⟩)
    (c : PySem.W.codeIn K cdv x = true) (k : PySem.W.keepIn K (.ref f) = true)
    (hb : ∀ (kV doc pm : Value) (an : Option Addr) (cdv ct : Value) (us : List Value), us.length = ps.length → bindArgs (PySem.W.fnOf x x (defArgs st) (defBody st) (defScope st) .none kV doc pm an cdv ct) ⟨us, []⟩ = pure (ps.zip us)) : Df K mg x st ps := by
  have F := fun_mk (st := st) l c k
  exact ⟨f, _, F, PySem.W.mg_of X G a, F.binds hb⟩
theorem Cal.mono {x : Str} {j k : Nat} {F : List D → MH → R D} (c : Cal P w K mg base x j F) (h : j ≤ k) : Cal P w K mg base x k F := by
  obtain ⟨f, fd, ps, F1, m, kp, b⟩ := c
  exact ⟨f, fd, ps, F1.mono h, m, kp, b⟩
theorem cal_mk {x : Str} {st : Stmt} {N ps : List Str} {k : Nat} {body : MS} (d : Df K mg x st ps) (S : FnScope N ps (defScope st))
    (hb : ∀ (f : Addr) (cdv : Value) (A : Around) (outer : List Env) (s : Shared) (H : Hp) (E : XK), Room k (A.deeper (PyProof.Rows.envOfC x (defScope st) s.heap.objs.size f cdv)) →
      PSs (cxOf (L2.CX P w) P w K mg base N x (defScope st) f cdv A outer s H E) (defBody st) (tS (gOf w K) (fun c d _ H' => E c d H') body)) : Cal P w K mg base x (k + 1) (mFun ps.length N.length body) := by
  obtain ⟨f, fd, F, m, b⟩ := d
  exact ⟨f, fd, ps, fn_mk F S (hb f), m, F.kp, b⟩
theorem cal_none {x : Str} {st : Stmt} {ps : List Str} {k : Nat} {F : List D → MH → R D} (d : Df K mg x st ps) (hF : ∀ ds h, F ds h = .bad) : Cal P w K mg base x k F := by
  obtain ⟨f, fd, F, m, b⟩ := d
  exact ⟨f, fd, ps, fn_none hF, m, F.kp, b⟩
end
section
variable {X : Cx} {W : WX} {e : Expr} {es : List Expr} {mr : MA} {p pos : Pos}
theorem se_callC {x : Str} {k : Nat} {F : List D → MH → R D} (c : Cal X.prog X.w X.K X.mg X.base x k F) (hr : Room k X.A) (tk : Takes X W) (ha : PA X (e :: es) (tA (gOf X.w X.K) W mr)) (hg : Gl X x := by rfl) (hdb : (x == ("__debug__" : Str)) = false := by decide)
    (he : starEach (e :: es) X.env = (false, eval e X.env) :: starEach es X.env := by rfl) (hpl : (backTo pos (starEach es X.env)).any (·.1) = false := by rfl) : PE X (.Call (.Name x p) (e :: es) [] pos) (tE (gOf X.w X.K) W (mCall F mr)) := by
  obtain ⟨f, fd, ps, F1, m, kp, b⟩ := c
  exact se_call F1 hr tk m kp b ha hg hdb he hpl
end
end Mi

/-! How the mirror's parts are reckoned, step by step: each rule speaks of a part that stands applied to its slots and heap, and leaves what follows unapplied. -/
namespace Mi
open PySem L2

/-- not by rfl, so that simp writes each step out (the kernel then needs no unfolding of the rest) -/
theorem nr {α : Sort _} {a b : α} (h : a = b) : a = b := h
@[simp] theorem mVar_zero (d : D) (r : Slots) (h : MH) : mVar 0 (some d :: r) h = .ok d h := nr rfl
@[simp] theorem mVar_succ (n : Nat) (o : Option D) (r : Slots) (h : MH) : mVar (n + 1) (o :: r) h = mVar n r h := nr rfl
@[simp] theorem mC_ev (d : D) (ρ : Slots) (h : MH) : mC d ρ h = .ok d h := nr rfl
def bin2 (f : D → D → MH → R D) (b : ME) (ρ : Slots) (r : R D) : R D := r.bind fun x h1 => (b ρ h1).bind fun y h2 => f x y h2
def bin1 (f : D → D → MH → R D) (x : D) (r : R D) : R D := r.bind fun y h2 => f x y h2
@[simp] theorem mBin_ev (f : D → D → MH → R D) (a b : ME) (ρ : Slots) (h : MH) : mBin f a b ρ h = bin2 f b ρ (a ρ h) := nr rfl
@[simp] theorem bin2_ok (f : D → D → MH → R D) (b : ME) (ρ : Slots) (x : D) (h : MH) : bin2 f b ρ (.ok x h) = bin1 f x (b ρ h) := nr rfl
@[simp] theorem bin1_ok (f : D → D → MH → R D) (x y : D) (h : MH) : bin1 f x (.ok y h) = f x y h := nr rfl
def un1 (f : D → MH → R D) : R D → R D
  | .ok y h2 => f y h2
  | .exc x fs h => .exc x fs h
  | .bad => .bad
@[simp] theorem mUn_ev (f : D → MH → R D) (a : ME) (ρ : Slots) (h : MH) : mUn f a ρ h = un1 f (a ρ h) := by
  unfold mUn un1
  cases a ρ h <;> rfl
@[simp] theorem un1_ok (f : D → MH → R D) (x : D) (h : MH) : un1 f (.ok x h) = f x h := nr rfl
@[simp] theorem mNil_ev (ρ : Slots) (h : MH) : mNil ρ h = .ok [] h := nr rfl
def cons1 (t : MA) (ρ : Slots) (r : R D) : R (List D) := r.bind fun x h1 => (t ρ h1).bind fun xs h2 => .ok (x :: xs) h2
def cons2 (x : D) (r : R (List D)) : R (List D) := r.bind fun xs h2 => .ok (x :: xs) h2
@[simp] theorem mCons_ev (a : ME) (r : MA) (ρ : Slots) (h : MH) : mCons a r ρ h = cons1 r ρ (a ρ h) := nr rfl
@[simp] theorem cons1_ok (r : MA) (ρ : Slots) (x : D) (h : MH) : cons1 r ρ (.ok x h) = cons2 x (r ρ h) := nr rfl
@[simp] theorem cons2_ok (x : D) (xs : List D) (h : MH) : cons2 x (.ok xs h) = .ok (x :: xs) h := nr rfl
def call1 (F : List D → MH → R D) : R (List D) → R D
  | .ok xs h1 => F xs h1
  | .exc x fs h => .exc x fs h
  | .bad => .bad
@[simp] theorem mCall_ev (F : List D → MH → R D) (a : MA) (ρ : Slots) (h : MH) : mCall F a ρ h = call1 F (a ρ h) := by
  unfold mCall call1
  cases a ρ h <;> rfl
@[simp] theorem call1_ok (F : List D → MH → R D) (xs : List D) (h : MH) : call1 F (.ok xs h) = F xs h := nr rfl
def tup1 : R (List D) → R D
  | .ok xs h1 => if xs.length ≤ 1000000 then .ok (.tup xs) h1 else .bad
  | .exc x fs h => .exc x fs h
  | .bad => .bad
@[simp] theorem mTup_ev (a : MA) (ρ : Slots) (h : MH) : mTup a ρ h = tup1 (a ρ h) := by
  unfold mTup tup1
  cases a ρ h <;> rfl
@[simp] theorem tup1_ok (xs : List D) (h : MH) : tup1 (.ok xs h) = if xs.length ≤ 1000000 then .ok (.tup xs) h else .bad := nr rfl
def lst1 : R (List D) → R D
  | .ok xs h1 => if xs.length ≤ 1000000 then .ok (.ref h1.length) (h1 ++ [.lst xs]) else .bad
  | .exc x fs h => .exc x fs h
  | .bad => .bad
@[simp] theorem mLst_ev (a : MA) (ρ : Slots) (h : MH) : mLst a ρ h = lst1 (a ρ h) := by
  unfold mLst lst1
  cases a ρ h <;> rfl
@[simp] theorem lst1_ok (xs : List D) (h : MH) : lst1 (.ok xs h) = if xs.length ≤ 1000000 then .ok (.ref h.length) (h ++ [.lst xs]) else .bad := nr rfl
/-! tests -/
def b1 : R D → R Bool
  | .ok (.bl b) h => .ok b h
  | .ok _ _ => .bad
  | .exc x fs h => .exc x fs h
  | .bad => .bad
@[simp] theorem mB_ev (a : ME) (ρ : Slots) (h : MH) : mB a ρ h = b1 (a ρ h) := by
  unfold mB b1
  cases a ρ h with
  | ok x h1 => cases x <;> rfl
  | _ => rfl
@[simp] theorem b1_ok (b : Bool) (h : MH) : b1 (.ok (.bl b) h) = .ok b h := nr rfl
def and1 (b : MT) (ρ : Slots) : R Bool → R Bool
  | .ok true h => b ρ h
  | .ok false h => .ok false h
  | .exc x fs h => .exc x fs h
  | .bad => .bad
def or1 (b : MT) (ρ : Slots) : R Bool → R Bool
  | .ok true h => .ok true h
  | .ok false h => b ρ h
  | .exc x fs h => .exc x fs h
  | .bad => .bad
def not1 : R Bool → R Bool
  | .ok b h => .ok (!b) h
  | .exc x fs h => .exc x fs h
  | .bad => .bad
@[simp] theorem mAnd_ev (a b : MT) (ρ : Slots) (h : MH) : mAnd a b ρ h = and1 b ρ (a ρ h) := by
  unfold mAnd and1
  cases a ρ h with
  | ok x h1 => cases x <;> rfl
  | _ => rfl
@[simp] theorem mOr_ev (a b : MT) (ρ : Slots) (h : MH) : mOr a b ρ h = or1 b ρ (a ρ h) := by
  unfold mOr or1
  cases a ρ h with
  | ok x h1 => cases x <;> rfl
  | _ => rfl
@[simp] theorem mNot_ev (a : MT) (ρ : Slots) (h : MH) : mNot a ρ h = not1 (a ρ h) := by
  unfold mNot not1
  cases a ρ h <;> rfl
@[simp] theorem and1_t (b : MT) (ρ : Slots) (h : MH) : and1 b ρ (.ok true h) = b ρ h := nr rfl
@[simp] theorem and1_f (b : MT) (ρ : Slots) (h : MH) : and1 b ρ (.ok false h) = .ok false h := nr rfl
@[simp] theorem or1_t (b : MT) (ρ : Slots) (h : MH) : or1 b ρ (.ok true h) = .ok true h := nr rfl
@[simp] theorem or1_f (b : MT) (ρ : Slots) (h : MH) : or1 b ρ (.ok false h) = b ρ h := nr rfl
@[simp] theorem not1_ok (b : Bool) (h : MH) : not1 (.ok b h) = .ok (!b) h := nr rfl
def andV1 (b : ME) (ρ : Slots) : R D → R D
  | .ok (.bl true) h => b ρ h
  | .ok (.bl false) h => .ok (.bl false) h
  | .ok _ _ => .bad
  | .exc x fs h => .exc x fs h
  | .bad => .bad
def orV1 (b : ME) (ρ : Slots) : R D → R D
  | .ok (.bl true) h => .ok (.bl true) h
  | .ok (.bl false) h => b ρ h
  | .ok _ _ => .bad
  | .exc x fs h => .exc x fs h
  | .bad => .bad
def notV1 : R D → R D
  | .ok (.bl b) h => .ok (.bl (!b)) h
  | .ok _ _ => .bad
  | .exc x fs h => .exc x fs h
  | .bad => .bad
@[simp] theorem mAndV_ev (a b : ME) (ρ : Slots) (h : MH) : mAndV a b ρ h = andV1 b ρ (a ρ h) := by
  unfold mAndV andV1
  cases a ρ h with
  | ok x h1 => cases x with
    | bl b => cases b <;> rfl
    | _ => rfl
  | _ => rfl
@[simp] theorem mOrV_ev (a b : ME) (ρ : Slots) (h : MH) : mOrV a b ρ h = orV1 b ρ (a ρ h) := by
  unfold mOrV orV1
  cases a ρ h with
  | ok x h1 => cases x with
    | bl b => cases b <;> rfl
    | _ => rfl
  | _ => rfl
@[simp] theorem mNotV_ev (a : ME) (ρ : Slots) (h : MH) : mNotV a ρ h = notV1 (a ρ h) := by
  unfold mNotV notV1
  cases a ρ h with
  | ok x h1 => cases x <;> rfl
  | _ => rfl
@[simp] theorem andV1_t (b : ME) (ρ : Slots) (h : MH) : andV1 b ρ (.ok (.bl true) h) = b ρ h := nr rfl
@[simp] theorem andV1_f (b : ME) (ρ : Slots) (h : MH) : andV1 b ρ (.ok (.bl false) h) = .ok (.bl false) h := nr rfl
@[simp] theorem orV1_t (b : ME) (ρ : Slots) (h : MH) : orV1 b ρ (.ok (.bl true) h) = .ok (.bl true) h := nr rfl
@[simp] theorem orV1_f (b : ME) (ρ : Slots) (h : MH) : orV1 b ρ (.ok (.bl false) h) = b ρ h := nr rfl
@[simp] theorem notV1_ok (b : Bool) (h : MH) : notV1 (.ok (.bl b) h) = .ok (.bl (!b)) h := nr rfl
def ifE1 (a b : ME) (ρ : Slots) : R Bool → R D
  | .ok true h => a ρ h
  | .ok false h => b ρ h
  | .exc x fs h => .exc x fs h
  | .bad => .bad
@[simp] theorem mIfE_ev (c : MT) (a b : ME) (ρ : Slots) (h : MH) : mIfE c a b ρ h = ifE1 a b ρ (c ρ h) := by
  unfold mIfE ifE1
  cases c ρ h with
  | ok x h1 => cases x <;> rfl
  | _ => rfl
@[simp] theorem ifE1_t (a b : ME) (ρ : Slots) (h : MH) : ifE1 a b ρ (.ok true h) = a ρ h := nr rfl
@[simp] theorem ifE1_f (a b : ME) (ρ : Slots) (h : MH) : ifE1 a b ρ (.ok false h) = b ρ h := nr rfl
/-! isinstance, slices, methods -/
def isi1 (T : String) : R D → R D
  | .ok x h => match (tyName h x).bind fun n => kitB n T with
    | some b => .ok (.bl b) h
    | none => .bad
  | .exc x fs h => .exc x fs h
  | .bad => .bad
@[simp] theorem mIsi_ev (T : String) (a : ME) (ρ : Slots) (h : MH) : mIsi T a ρ h = isi1 T (a ρ h) := by
  unfold mIsi isi1
  cases a ρ h <;> rfl
theorem isi1_ok (T : String) (x : D) (h : MH) {n : String} {b : Bool} (hn : tyName h x = some n) (hb : kitB n T = some b) : isi1 T (.ok x h) = .ok (.bl b) h := by
  unfold isi1
  simp only [hn, Option.bind_some, hb]
@[simp] theorem isi_str_str (x : Str) (h : MH) : isi1 "str" (.ok (.str x) h) = .ok (.bl true) h := isi1_ok _ _ _ rfl (by decide +kernel)
@[simp] theorem isi_str_int (x : Int) (h : MH) : isi1 "str" (.ok (.int x) h) = .ok (.bl false) h := isi1_ok _ _ _ rfl (by decide +kernel)
@[simp] theorem isi_str_non (h : MH) : isi1 "str" (.ok .non h) = .ok (.bl false) h := isi1_ok _ _ _ rfl (by decide +kernel)
@[simp] theorem isi_str_bl (b : Bool) (h : MH) : isi1 "str" (.ok (.bl b) h) = .ok (.bl false) h := isi1_ok _ _ _ rfl (by decide +kernel)
@[simp] theorem isi_str_tup (l : List D) (h : MH) : isi1 "str" (.ok (.tup l) h) = .ok (.bl false) h := isi1_ok _ _ _ rfl (by decide +kernel)
@[simp] theorem isi_bool_bl (b : Bool) (h : MH) : isi1 "bool" (.ok (.bl b) h) = .ok (.bl true) h := isi1_ok _ _ _ rfl (by decide +kernel)
@[simp] theorem isi_bool_int (b : Int) (h : MH) : isi1 "bool" (.ok (.int b) h) = .ok (.bl false) h := isi1_ok _ _ _ rfl (by decide +kernel)
@[simp] theorem isi_int_int (b : Int) (h : MH) : isi1 "int" (.ok (.int b) h) = .ok (.bl true) h := isi1_ok _ _ _ rfl (by decide +kernel)
@[simp] theorem isi_tup_tup (l : List D) (h : MH) : isi1 "tuple" (.ok (.tup l) h) = .ok (.bl true) h := isi1_ok _ _ _ rfl (by decide +kernel)
@[simp] theorem isi_tup_str (x : Str) (h : MH) : isi1 "tuple" (.ok (.str x) h) = .ok (.bl false) h := isi1_ok _ _ _ rfl (by decide +kernel)
@[simp] theorem isi_tup_int (x : Int) (h : MH) : isi1 "tuple" (.ok (.int x) h) = .ok (.bl false) h := isi1_ok _ _ _ rfl (by decide +kernel)
@[simp] theorem isi_tup_non (h : MH) : isi1 "tuple" (.ok .non h) = .ok (.bl false) h := isi1_ok _ _ _ rfl (by decide +kernel)
theorem isi_ref (T : String) (i : Nat) (h : MH) (l : List D) (hl : getL h i = some l) {b : Bool} (hb : kitB "list" T = some b) : isi1 T (.ok (.ref i) h) = .ok (.bl b) h := by
  refine isi1_ok _ _ _ (n := "list") ?_ hb
  unfold getL at hl
  unfold tyName
  split at hl <;> simp_all
@[simp] theorem mNo_ev (ρ : Slots) (h : MH) : mNo ρ h = .ok none h := nr rfl
def some1 : R D → R (Option Int)
  | .ok (.int i) h => .ok (some i) h
  | .ok _ _ => .bad
  | .exc x fs h => .exc x fs h
  | .bad => .bad
@[simp] theorem mSome_ev (a : ME) (ρ : Slots) (h : MH) : mSome a ρ h = some1 (a ρ h) := by
  unfold mSome some1
  cases a ρ h with
  | ok x h1 => cases x <;> rfl
  | _ => rfl
@[simp] theorem some1_ok (i : Int) (h : MH) : some1 (.ok (.int i) h) = .ok (some i) h := nr rfl
def sl1 (lo hi : MP) (ρ : Slots) (r : R D) : R D := r.bind fun x h1 => (lo ρ h1).bind fun l h2 => (hi ρ h2).bind fun u h3 => dSl x l u h3
def sl2 (x : D) (hi : MP) (ρ : Slots) (r : R (Option Int)) : R D := r.bind fun l h2 => (hi ρ h2).bind fun u h3 => dSl x l u h3
def sl3 (x : D) (l : Option Int) (r : R (Option Int)) : R D := r.bind fun u h3 => dSl x l u h3
@[simp] theorem mSl_ev (a : ME) (lo hi : MP) (ρ : Slots) (h : MH) : mSl a lo hi ρ h = sl1 lo hi ρ (a ρ h) := nr rfl
@[simp] theorem sl1_ok (lo hi : MP) (ρ : Slots) (x : D) (h : MH) : sl1 lo hi ρ (.ok x h) = sl2 x hi ρ (lo ρ h) := nr rfl
@[simp] theorem sl2_ok (x : D) (hi : MP) (ρ : Slots) (l : Option Int) (h : MH) : sl2 x hi ρ (.ok l h) = sl3 x l (hi ρ h) := nr rfl
@[simp] theorem sl3_ok (x : D) (l u : Option Int) (h : MH) : sl3 x l (.ok u h) = dSl x l u h := nr rfl
def meth1 (T : D → MH → Bool) (f : D → List D → MH → R D) (t : MA) (ρ : Slots) (r : R D) : R D := r.bind fun x h1 => if T x h1 = true then (t ρ h1).bind fun xs h2 => f x xs h2 else .bad
def meth2 (f : D → List D → MH → R D) (x : D) (r : R (List D)) : R D := r.bind fun xs h2 => f x xs h2
@[simp] theorem mMeth_ev (T : D → MH → Bool) (f : D → List D → MH → R D) (a : ME) (r : MA) (ρ : Slots) (h : MH) : mMeth T f a r ρ h = meth1 T f r ρ (a ρ h) := nr rfl
@[simp] theorem meth1_ok (T : D → MH → Bool) (f : D → List D → MH → R D) (r : MA) (ρ : Slots) (x : D) (h : MH) : meth1 T f r ρ (.ok x h) = if T x h = true then meth2 f x (r ρ h) else .bad := nr rfl
@[simp] theorem meth2_ok (f : D → List D → MH → R D) (x : D) (xs : List D) (h : MH) : meth2 f x (.ok xs h) = f x xs h := nr rfl
@[simp] theorem isListD_ref (i : Nat) (h : MH) : isListD (.ref i) h = (getL h i).isSome := nr rfl
@[simp] theorem isStrD_str (x : Str) (h : MH) : isStrD (.str x) h = true := nr rfl
/-! statements -/
def Out.then (b : MS) : Out → Out
  | .nx ρ h => b ρ h
  | o => o
@[simp] theorem mSeq_ev (a b : MS) (ρ : Slots) (h : MH) : mSeq a b ρ h = (a ρ h).then b := by
  unfold mSeq Out.then
  cases a ρ h <;> rfl
@[simp] theorem then_nx (b : MS) (ρ : Slots) (h : MH) : Out.then b (.nx ρ h) = b ρ h := nr rfl
@[simp] theorem then_rt (b : MS) (d : D) (h : MH) : Out.then b (.rt d h) = .rt d h := nr rfl
@[simp] theorem then_bk (b : MS) (ρ : Slots) (h : MH) : Out.then b (.bk ρ h) = .bk ρ h := nr rfl
@[simp] theorem then_ct (b : MS) (ρ : Slots) (h : MH) : Out.then b (.ct ρ h) = .ct ρ h := nr rfl
@[simp] theorem then_exc (b : MS) (x : Str) (fs : List (Str × D)) (ρ : Slots) (h : MH) : Out.then b (.exc x fs ρ h) = .exc x fs ρ h := nr rfl
@[simp] theorem mSkip_ev (ρ : Slots) (h : MH) : mSkip ρ h = .nx ρ h := nr rfl
@[simp] theorem mBreak_ev (ρ : Slots) (h : MH) : mBreak ρ h = .bk ρ h := nr rfl
@[simp] theorem mCont_ev (ρ : Slots) (h : MH) : mCont ρ h = .ct ρ h := nr rfl
@[simp] theorem mRetN_ev (ρ : Slots) (h : MH) : mRetN ρ h = .rt .non h := nr rfl
def asg1 (i : Nat) (ρ : Slots) : R D → Out
  | .ok d h => .nx (ρ.set i (some d)) h
  | .exc x fs h => .exc x fs ρ h
  | .bad => .bad
def ret1 (ρ : Slots) : R D → Out
  | .ok d h => .rt d h
  | .exc x fs h => .exc x fs ρ h
  | .bad => .bad
def drop1 (ρ : Slots) : R D → Out
  | .ok d h => .nx ρ h
  | .exc x fs h => .exc x fs ρ h
  | .bad => .bad
def if1 (a b : MS) (ρ : Slots) : R Bool → Out
  | .ok true h => a ρ h
  | .ok false h => b ρ h
  | .exc x fs h => .exc x fs ρ h
  | .bad => .bad
@[simp] theorem mAsg_ev (i : Nat) (e : ME) (ρ : Slots) (h : MH) : mAsg i e ρ h = asg1 i ρ (e ρ h) := by
  unfold mAsg asg1
  cases e ρ h <;> rfl
@[simp] theorem asg1_ok (i : Nat) (ρ : Slots) (d : D) (h : MH) : asg1 i ρ (.ok d h) = .nx (ρ.set i (some d)) h := nr rfl
@[simp] theorem mRet_ev (e : ME) (ρ : Slots) (h : MH) : mRet e ρ h = ret1 ρ (e ρ h) := by
  unfold mRet ret1
  cases e ρ h <;> rfl
@[simp] theorem ret1_ok (ρ : Slots) (d : D) (h : MH) : ret1 ρ (.ok d h) = .rt d h := nr rfl
@[simp] theorem mDrop_ev (e : ME) (ρ : Slots) (h : MH) : mDrop e ρ h = drop1 ρ (e ρ h) := by
  unfold mDrop drop1
  cases e ρ h <;> rfl
@[simp] theorem drop1_ok (ρ : Slots) (d : D) (h : MH) : drop1 ρ (.ok d h) = .nx ρ h := nr rfl
@[simp] theorem mIf_ev (c : MT) (a b : MS) (ρ : Slots) (h : MH) : mIf c a b ρ h = if1 a b ρ (c ρ h) := by
  unfold mIf if1
  cases c ρ h with
  | ok x h1 => cases x <;> rfl
  | _ => rfl
@[simp] theorem if1_t (a b : MS) (ρ : Slots) (h : MH) : if1 a b ρ (.ok true h) = a ρ h := nr rfl
@[simp] theorem if1_f (a b : MS) (ρ : Slots) (h : MH) : if1 a b ρ (.ok false h) = b ρ h := nr rfl
def for1 (tg : MG) (body : MS) (ρ : Slots) : R (List D × (MH → Bool)) → Out
  | .ok a h => forGo a.2 tg body a.1 ρ h
  | .exc x fs h => .exc x fs ρ h
  | .bad => .bad
@[simp] theorem mFor_ev (it : MI) (tg : MG) (body : MS) (ρ : Slots) (h : MH) : mFor it tg body ρ h = for1 tg body ρ (it ρ h) := by
  unfold mFor for1
  cases it ρ h <;> rfl
@[simp] theorem for1_ok (tg : MG) (body : MS) (ρ : Slots) (l : List D) (gd : MH → Bool) (h : MH) : for1 tg body ρ (.ok (l, gd) h) = forGo gd tg body l ρ h := nr rfl
def rg1 (f : Int → Nat → List D) : R D → R (List D × (MH → Bool))
  | .ok x h => dR1 f x h
  | .exc x fs h => .exc x fs h
  | .bad => .bad
@[simp] theorem mRange1_ev (a : ME) (ρ : Slots) (h : MH) : mRange1 a ρ h = rg1 rangeD (a ρ h) := by
  unfold mRange1 rg1
  cases a ρ h <;> rfl
@[simp] theorem mRev1_ev (a : ME) (ρ : Slots) (h : MH) : mRev1 a ρ h = rg1 revRangeD (a ρ h) := by
  unfold mRev1 rg1
  cases a ρ h <;> rfl
@[simp] theorem rg1_ok (f : Int → Nat → List D) (j : Int) (h : MH) : rg1 f (.ok (.int j) h) = if lim62 j = true then .ok (f 0 j.toNat, yes) h else .bad := nr rfl
def rg2 (f : Int → Nat → List D) (b : ME) (ρ : Slots) (r : R D) : R (List D × (MH → Bool)) := r.bind fun x h => (b ρ h).bind fun y h2 => dR2 f x y h2
def rg3 (f : Int → Nat → List D) (x : D) (r : R D) : R (List D × (MH → Bool)) := r.bind fun y h => dR2 f x y h
@[simp] theorem mRange2_ev (a b : ME) (ρ : Slots) (h : MH) : mRange2 a b ρ h = rg2 rangeD b ρ (a ρ h) := nr rfl
@[simp] theorem mRev2_ev (a b : ME) (ρ : Slots) (h : MH) : mRev2 a b ρ h = rg2 revRangeD b ρ (a ρ h) := nr rfl
@[simp] theorem rg2_ok (f : Int → Nat → List D) (b : ME) (ρ : Slots) (x : D) (h : MH) : rg2 f b ρ (.ok x h) = rg3 f x (b ρ h) := nr rfl
@[simp] theorem rg3_ok (f : Int → Nat → List D) (i j : Int) (h : MH) : rg3 f (.int i) (.ok (.int j) h) = if lim62 i = true ∧ lim62 j = true then .ok (f i (j - i).toNat, yes) h else .bad := nr rfl
def iter1 : R D → R (List D × (MH → Bool))
  | .ok x h => match itemsOf x h with
    | some r => .ok r h
    | none => .bad
  | .exc x fs h => .exc x fs h
  | .bad => .bad
@[simp] theorem mIter_ev (a : ME) (ρ : Slots) (h : MH) : mIter a ρ h = iter1 (a ρ h) := by
  unfold mIter iter1
  cases a ρ h <;> rfl
@[simp] theorem iter1_tup (l : List D) (h : MH) : iter1 (.ok (.tup l) h) = .ok (l, yes) h := nr rfl
@[simp] theorem iter1_str (z : Str) (h : MH) : iter1 (.ok (.str z) h) = .ok (z.cps.toList.map fun c => .str ⟨#[c]⟩, yes) h := nr rfl
theorem iter1_ref (i : Nat) (h : MH) (l : List D) (hl : getL h i = some l) : iter1 (.ok (.ref i) h) = .ok (l, fun h' => decide (getL h' i = some l)) h := by
  simp [iter1, itemsOf, hl]
@[simp] theorem yes_ev (h : MH) : yes h = true := nr rfl
@[simp] theorem mgName_ev (i : Nat) (d : D) (ρ : Slots) : mgName i d ρ = some (ρ.set i (some d)) := nr rfl
/-- a def's end -/
def fin1 : Out → R D
  | .nx _ h => .ok .non h
  | .rt d h => .ok d h
  | .exc x fs _ h => .exc x fs h
  | _ => .bad
@[simp] theorem fin1_nx (ρ : Slots) (h : MH) : fin1 (.nx ρ h) = .ok .non h := nr rfl
@[simp] theorem fin1_rt (d : D) (h : MH) : fin1 (.rt d h) = .ok d h := nr rfl
@[simp] theorem fin1_exc (x : Str) (fs : List (Str × D)) (ρ : Slots) (h : MH) : fin1 (.exc x fs ρ h) = .exc x fs h := nr rfl
@[simp] theorem rep0 : List.replicate 0 (none : Option D) = [] := nr rfl
/-! ### loops -/
theorem rangeD_get {i : Int} {n k : Nat} {d : D} (h : (rangeD i n)[k]? = some d) : k < n ∧ d = .int (i + (k : Int)) := by
  simp only [rangeD, List.getElem?_map, Option.map_eq_some_iff] at h
  obtain ⟨a, h1, h2⟩ := h
  have := List.getElem?_eq_some_iff.mp h1
  obtain ⟨lt, e⟩ := this
  simp at lt e
  subst e
  exact ⟨lt, h2.symm⟩
theorem revRangeD_get {i : Int} {n k : Nat} {d : D} (h : (revRangeD i n)[k]? = some d) : k < n ∧ d = .int (i + (n : Int) - 1 - (k : Int)) := by
  simp only [revRangeD, List.getElem?_map, Option.map_eq_some_iff] at h
  obtain ⟨a, h1, h2⟩ := h
  have := List.getElem?_eq_some_iff.mp h1
  obtain ⟨lt, e⟩ := this
  simp at lt e
  subst e
  exact ⟨lt, h2.symm⟩
@[simp] theorem rangeD_length (i : Int) (n : Nat) : (rangeD i n).length = n := by simp [rangeD]
@[simp] theorem revRangeD_length (i : Int) (n : Nat) : (revRangeD i n).length = n := by simp [revRangeD]
/-! ### numbers of bits, places -/
theorem bits_lt {i : Int} {n : Nat} (h : i.natAbs < 2 ^ n) : Builtin.Int.intBits i ≤ n := by
  unfold Builtin.Int.intBits
  split
  · omega
  · rename_i hz
    have : i.natAbs.log2 < n := (Nat.log2_lt (by simpa using hz)).mpr h
    omega
theorem bits_mono {i j : Int} (h : i.natAbs ≤ j.natAbs) : Builtin.Int.intBits i ≤ Builtin.Int.intBits j := by
  unfold Builtin.Int.intBits
  split
  · omega
  · rename_i hz
    have hz' : i.natAbs ≠ 0 := by simpa using hz
    have hj : j.natAbs ≠ 0 := by omega
    rw [if_neg (by simpa using hj)]
    have : i.natAbs.log2 ≤ j.natAbs.log2 := by
      have h1 : 2 ^ i.natAbs.log2 ≤ i.natAbs := Nat.log2_self_le hz'
      have := (Nat.le_log2 hj).mpr (Nat.le_trans h1 h)
      exact this
    omega
theorem atI_in {α : Type} {l : List α} {i : Int} (h0 : 0 ≤ i) (h1 : i < (l.length : Int)) : ∃ c, atI l i = some c ∧ l[i.toNat]? = some c := by
  have lt : i.toNat < l.length := by omega
  refine ⟨l[i.toNat], ?_, List.getElem?_eq_getElem lt⟩
  unfold atI ixN
  rw [if_pos h0, if_pos h1]
  simp [lt]
theorem atI_at {α : Type} {l : List α} {k : Nat} {c : α} (h : l[k]? = some c) : atI l (k : Int) = some c := by
  have lt := (List.getElem?_eq_some_iff.mp h).1
  unfold atI ixN
  rw [if_pos (by omega), if_pos (by omega)]
  simpa using h
/-! ### operators at plain values -/
section
variable (i j : Int) (x y : Str) (a b : Bool) (l m : List D) (h : MH)
@[simp] theorem dAdd_int : dAdd (.int i) (.int j) h = .ok (.int (i + j)) h := nr rfl
@[simp] theorem dAdd_str : dAdd (.str x) (.str y) h = if x.length + y.length ≤ 1000000 then .ok (.str (x ++ y)) h else .bad := nr rfl
@[simp] theorem dAdd_tup : dAdd (.tup l) (.tup m) h = if l.length + m.length ≤ 1000000 then .ok (.tup (l ++ m)) h else .bad := nr rfl
@[simp] theorem dSub_int : dSub (.int i) (.int j) h = .ok (.int (i - j)) h := nr rfl
theorem dMul_int : dMul (.int i) (.int j) h = if (Builtin.Int.intBits i : Int) + (Builtin.Int.intBits j : Int) ≤ 134217728 then .ok (.int (i * j)) h else .bad := rfl
@[simp] theorem dMul_str : dMul (.str x) (.int j) h = if j ≤ 1000000 ∧ -1000000 ≤ j ∧ x.length * j.toNat ≤ 1000000 then .ok (.str (Txt.mul x j)) h else .bad := nr rfl
theorem dFdiv_int : dFdiv (.int i) (.int j) h = if 0 < j ∧ j.natAbs.log2 < 9000 then .ok (.int (i / j)) h else .bad := rfl
@[simp] theorem dMod_int : dMod (.int i) (.int j) h = if 0 < j then .ok (.int (i % j)) h else .bad := nr rfl
@[simp] theorem dFdiv_small (h0 : 0 < j) (h1 : j < 18446744073709551616) : dFdiv (.int i) (.int j) h = .ok (.int (i / j)) h := by
  rw [dFdiv_int, if_pos ⟨h0, Nat.lt_trans (PySem.Flt.log2_lt_of (k := 64) (by decide) (by omega)) (by decide)⟩]
theorem dMul_bits {a b : Nat} (ha : Builtin.Int.intBits i ≤ a) (hb : Builtin.Int.intBits j ≤ b) (hab : a + b ≤ 134217728) : dMul (.int i) (.int j) h = .ok (.int (i * j)) h := by
  rw [dMul_int, if_pos (by omega)]
theorem bits_small {i : Int} (h0 : -18446744073709551616 < i) (h1 : i < 18446744073709551616) : Builtin.Int.intBits i ≤ 64 := bits_lt (by omega)
theorem dMul_s (h0 : -18446744073709551616 < i) (h1 : i < 18446744073709551616) (h2 : -18446744073709551616 < j) (h3 : j < 18446744073709551616) : dMul (.int i) (.int j) h = .ok (.int (i * j)) h := dMul_bits i j h (bits_small h0 h1) (bits_small h2 h3) (by decide)
@[simp] theorem dPow_int : dPow (.int i) (.int j) h = if 0 ≤ j ∧ j ≤ 1000000 ∧ i.natAbs < 2 ^ 64 then .ok (.int (i ^ j.toNat)) h else .bad := nr rfl
@[simp] theorem dShl_int : dShl (.int i) (.int j) h = if 0 ≤ j ∧ j ≤ 1000000 ∧ i.natAbs < 2 ^ 64 then .ok (.int (i * 2 ^ j.toNat)) h else .bad := nr rfl
@[simp] theorem dLt_int : dLt (.int i) (.int j) h = .ok (.bl (decide (i < j))) h := nr rfl
@[simp] theorem dLe_int : dLe (.int i) (.int j) h = .ok (.bl (decide (i ≤ j))) h := nr rfl
@[simp] theorem dGt_int : dGt (.int i) (.int j) h = .ok (.bl (decide (j < i))) h := nr rfl
@[simp] theorem dGe_int : dGe (.int i) (.int j) h = .ok (.bl (decide (j ≤ i))) h := nr rfl
@[simp] theorem dNeg_int : dNeg (.int i) h = .ok (.int (-i)) h := nr rfl
@[simp] theorem eqD_int : eqD (.int i) (.int j) h = some (decide (i = j)) := by
  simp [eqD, scalD]
@[simp] theorem eqD_str : eqD (.str x) (.str y) h = some (decide (x = y)) := by
  simp [eqD, scalD]
@[simp] theorem eqD_bl : eqD (.bl a) (.bl b) h = some (decide (a = b)) := by
  simp [eqD, scalD]
@[simp] theorem eqD_non : eqD .non .non h = some true := by
  simp [eqD, scalD]
@[simp] theorem eqD_int_non : eqD (.int i) .non h = some false := by
  simp [eqD, scalD]
@[simp] theorem eqD_non_int : eqD .non (.int i) h = some false := by
  simp [eqD, scalD]
theorem dEq_of {a b : D} {k : Bool} {h : MH} (e : eqD a b h = some k) : dEq a b h = .ok (.bl k) h := by unfold dEq; rw [e]
theorem dNe_of {a b : D} {k : Bool} {h : MH} (e : eqD a b h = some k) : dNe a b h = .ok (.bl (!k)) h := by unfold dNe; rw [e]
@[simp] theorem dEq_int : dEq (.int i) (.int j) h = .ok (.bl (decide (i = j))) h := dEq_of (eqD_int i j h)
@[simp] theorem dNe_int : dNe (.int i) (.int j) h = .ok (.bl (!decide (i = j))) h := dNe_of (eqD_int i j h)
@[simp] theorem dEq_str : dEq (.str x) (.str y) h = .ok (.bl (decide (x = y))) h := dEq_of (eqD_str x y h)
@[simp] theorem dNe_str : dNe (.str x) (.str y) h = .ok (.bl (!decide (x = y))) h := dNe_of (eqD_str x y h)
@[simp] theorem dEq_bl : dEq (.bl a) (.bl b) h = .ok (.bl (decide (a = b))) h := dEq_of (eqD_bl a b h)
@[simp] theorem dIsN_ev (d : D) : dIsN d .non h = .ok (.bl (decide (d = .non))) h := nr rfl
@[simp] theorem dNotN_ev (d : D) : dNotN d .non h = .ok (.bl (!decide (d = .non))) h := nr rfl
@[simp] theorem dLen_str : dLen [.str x] h = if x.length ≤ 1000000 then .ok (.int x.length) h else .bad := nr rfl
@[simp] theorem dLen_tup : dLen [.tup l] h = .ok (.int l.length) h := nr rfl
theorem dLen_ref {i : Nat} {h : MH} {l : List D} (e : getL h i = some l) : dLen [.ref i] h = .ok (.int l.length) h := by simp [dLen, e]
@[simp] theorem dAbs_ev : dAbs [.int i] h = .ok (.int (if i < 0 then -i else i)) h := nr rfl
@[simp] theorem dMax_ev : dMax [.int i, .int j] h = .ok (.int (if j > i then j else i)) h := nr rfl
@[simp] theorem dMin_ev : dMin [.int i, .int j] h = .ok (.int (if j < i then j else i)) h := nr rfl
@[simp] theorem dInt_int : dInt [.int i] h = .ok (.int i) h := nr rfl
@[simp] theorem dInt_bl : dInt [.bl a] h = .ok (.int (if a then 1 else 0)) h := nr rfl
@[simp] theorem dSl_str (lo hi : Option Int) : dSl (.str x) lo hi h = if x.length ≤ 1000000 then .ok (.str (cutS x lo hi)) h else .bad := nr rfl
@[simp] theorem dSl_tup (lo hi : Option Int) : dSl (.tup l) lo hi h = .ok (.tup (cutD l lo hi)) h := nr rfl
theorem dSl_ref {i : Nat} {h : MH} {l : List D} (e : getL h i = some l) (lo hi : Option Int) : dSl (.ref i) lo hi h = .ok (.ref h.length) (h ++ [.lst (cutD l lo hi)]) := by simp [dSl, e]
theorem dIx_str {c : Nat} {x : Str} {i : Int} (hz : x.length ≤ 1000000) (e : atI x.cps.toList i = some c) : dIx (.str x) (.int i) h = .ok (.str ⟨#[c]⟩) h := by
  simp [dIx, hz, e]
theorem dIx_tup {d : D} {l : List D} {i : Int} (e : atI l i = some d) : dIx (.tup l) (.int i) h = .ok d h := by simp [dIx, seqOf, e]
theorem dIx_ref {d : D} {l : List D} {k : Nat} {i : Int} {h : MH} (hl : getL h k = some l) (e : atI l i = some d) : dIx (.ref k) (.int i) h = .ok d h := by simp [dIx, seqOf, hl, e]
theorem dNotIn_sign {c : Nat} {z : Str} : dNotIn (.str ⟨#[c]⟩) (.str z) h = .ok (.bl (!decide (c ∈ z.cps.toList))) h := rfl
end
end Mi

namespace Mi
open PySem L2

/-! ### zip of two lists -/
def zipD (l m : List D) : List D := (l.zip m).map fun p => .tup [p.1, p.2]
def mZip (a b : ME) : MI := fun ρ h => (a ρ h).bind fun x h1 => (b ρ h1).bind fun y h2 => match x, y with
  | .ref i, .ref j => match getL h2 i, getL h2 j with
    | some l, some m => .ok (zipD l m, fun h' => decide (getL h' i = some l) && decide (getL h' j = some m)) h2
    | _, _ => .bad
  | _, _ => .bad
section
variable {X : Cx} {g : G} {W : WX} {a b : Expr} {ma mb : ME} {pos : Pos}
/-! ### xs[::-1], list(range(..)) -/
def dRevL (x : D) (h : MH) : R D := match x with
  | .ref i => match getL h i with
    | some l => .ok (.ref h.length) (h ++ [.lst l.reverse])
    | none => .bad
  | _ => .bad
def mRevL (a : ME) : ME := mUn dRevL a
def lstRg (i j : Int) (h : MH) : R D := if 0 ≤ i ∧ j ≤ 1000000 ∧ i ≤ 1000000 ∧ 0 ≤ j then .ok (.ref h.length) (h ++ [.lst (rangeD i (j - i).toNat)]) else .bad
def mListRg1 (a : ME) : ME := mUn (fun x h => match x with
  | .int j => lstRg 0 j h
  | _ => .bad) a
def mListRg2 (a b : ME) : ME := mBin (fun x y h => match x, y with
  | .int i, .int j => lstRg i j h
  | _, _ => .bad) a b
/-! ### t.index(x) -/
def fidx (z : Str) : List Str → Option Nat
  | [] => none
  | y :: r => if y = z then some 0 else (fidx z r).map (· + 1)
theorem fidx_some {z : Str} : ∀ {l : List Str} {j : Nat}, fidx z l = some j → l[j]? = some z ∧ ∀ m, m < j → l[m]? ≠ some z
  | [], _, h => by cases h
  | y :: r, j, h => by
    unfold fidx at h
    split at h
    · rename_i e
      cases h
      subst e
      exact ⟨rfl, fun m hm => absurd hm (Nat.not_lt_zero m)⟩
    · rename_i e
      obtain ⟨k, hk, rfl⟩ := Option.map_eq_some_iff.mp h
      obtain ⟨h1, h2⟩ := fidx_some hk
      refine ⟨by simpa using h1, fun m hm => ?_⟩
      cases m with
      | zero => simp only [List.getElem?_cons_zero]; intro q; exact e (Option.some.inj q)
      | succ m => simpa using h2 m (by omega)
def dTIdx (x y : D) (h : MH) : R D := match x, y with
  | .tup l, .str z => match allStr l with
    | some ys => match fidx z ys with
      | some j => .ok (.int j) h
      | none => .bad
    | none => .bad
  | _, _ => .bad
def mTIndex (a b : ME) : ME := fun ρ h => (a ρ h).bind fun x h1 => match x with
  | .tup l => (b ρ h1).bind fun y h2 => dTIdx (.tup l) y h2
  | _ => .bad
theorem Tk.obj {pins : List (Addr × Obj)} {σ : St} {H : Hp} {s : Shared} {p : Addr} {xs : List V} (I : Inv X pins σ H s) (h : Tk X.K H p xs) : s.TypeIs (.ref p) "tuple" ∧ ∃ ob, s.heap.get? p = some ob ∧ ob.dict = none := by
  rcases h with ⟨ob, hd, h⟩ | ⟨ob, ws, n, h1, h2, h3, _⟩
  · obtain ⟨e, _, ws, _, ob', e', c, _⟩ := (show ObjOk X.prog X.w H s.heap p (.frz ob (.tup xs)) from I.hok p _ h)
    rw [e] at e'
    cases e'
    exact ⟨⟨ob, e, c⟩, ob, e, hd⟩
  · exact ⟨⟨ob, I.kIn p ob h1, h2⟩, ob, I.kIn p ob h1, h3⟩
theorem pe_tidx {o e : Expr} {to : TE} {t : TA} {apos : Pos} {r : V → List V → Hp → VK → Prop} (hm : MtR X "tuple.index" r) (ho : PE X o to) (ha : PA X [e] t)
    (hbase : attributeBase o "index" X.env (eval o X.env) = eval o X.env := by rfl)
    (hfew : ((backTo pos (starEach [e] X.env)).all (fun x => !x.1) && (backToKw pos (keywordEach [] X.env)).all (fun x => x.1.isSome)
      && decide (([e] : List Expr).length + ([] : List Keyword).length + (if ([] : List Keyword).isEmpty then 0 else 1) < 30)) = true := by rfl)
    (hline : (apos.endLine == pos.line) = true := by rfl) (hs : starEach [e] X.env = (false, eval e X.env) :: starEach [] X.env := by rfl) (hplain : (backTo pos (starEach [] X.env)).any (·.1) = false := by rfl) :
    PE X (.Call (.Attribute o "index" apos) [e] [] pos) (fun σ H Q => to σ H fun x H1 => (∃ p xs, x = .ref p ∧ Tk X.K H1 p xs) ∧ t σ H1 fun xs H2 => r x xs H2 Q) := by
  refine ⟨fun pins s σ H Q I hh => ?_⟩
  refine wpAny_Call_method_late hbase hfew hline rfl (thn (ho.run pins s σ H _ I hh) fun v s1 ⟨x, H1, I1, r1, ⟨p, xs, ex, tk⟩, q1⟩ => ?_)
  subst ex
  cases r1
  obtain ⟨ty, ob, e1, e2⟩ := Tk.obj I1 tk
  refine ⟨"tuple", "tuple.index", PySem.F.plainAttrs_tuple, PySem.F.slot_tuple_index, PySem.F.type_tuple_index, ty, fun a ea => by cases ea; exact ⟨ob, e1, e2⟩, ?_⟩
  have hA := ha.run pos pins s1 σ H1 _ I1 q1
  rw [hs] at hA ⊢
  refine Calls.callWith_builtin (by show (false || (backTo pos (starEach [] X.env)).any (·.1)) = false; rw [hplain] <;> rfl) (Calls.evalArgs_plain ?_)
  exact thn hA fun us s2 ⟨vs, H2, I2, r2, q2⟩ => hm pins s2 σ H2 (.ref p) vs _ us Q I2 rfl r2 q2
theorem se_tindex {apos : Pos} (ha : PE X a (tE g W ma)) (hb : PE X b (tE g W mb)) (hK : X.K = g.K := by rfl)
    (hbase : attributeBase a "index" X.env (eval a X.env) = eval a X.env := by rfl)
    (hfew : ((backTo pos (starEach [b] X.env)).all (fun x => !x.1) && (backToKw pos (keywordEach [] X.env)).all (fun x => x.1.isSome)
      && decide (([b] : List Expr).length + ([] : List Keyword).length + (if ([] : List Keyword).isEmpty then 0 else 1) < 30)) = true := by rfl)
    (hline : (apos.endLine == pos.line) = true := by rfl) (hs : starEach [b] X.env = (false, eval b X.env) :: starEach [] X.env := by rfl) (hplain : (backTo pos (starEach [] X.env)).any (·.1) = false := by rfl) :
    PE X (.Call (.Attribute a "index" apos) [b] [] pos) (tE g W (mTIndex ma mb)) :=
  pe_mono (pe_tidx mt_tup_index ha (pa_cons hb pa_nil hs) hbase hfew hline hs hplain) fun σ H Q ⟨ρ, h, μ, sr, hr, bk⟩ => step (rel := VR) (rel' := VR) (ma := ma) (Q' := Q) sr hr bk fun x d h1 H1 μ1 m1 sr1 hr1 vx bk1 => by
    cases vx with
    | @tup p xs l hs vs =>
      refine ⟨⟨p, xs, rfl, by rw [hK]; exact hs⟩, ?_⟩
      refine step (rel := VR) (rel' := VR) (ma := mb) (Q' := Q) sr1 hr1 bk1 fun y d2 h2 H2 μ2 m2 sr2 hr2 vy bk2 => ?_
      cases vy with
      | str z =>
        simp only [dTIdx] at bk2
        split at bk2
        · rename_i ys e1
          split at bk2
          · rename_i j e2
            obtain ⟨h3, h4⟩ := fidx_some e2
            refine ⟨p, ys, z, j, rfl, rfl, ?_, h3, h4, bk2.val hr2 (.int _)⟩
            rw [← strs_of vs e1, hK]
            exact (m2.tups _ _ hs).sq
          · exact bk2.elim
        · exact bk2.elim
      | _ => exact bk2.elim
    | _ => exact bk1.elim
end
/-! ### sorted: ints, texts (fewer than 64) -/
abbrev ltC : List Nat → List Nat → Bool := PySem.Spec.ltCps
theorem ltC_asym : ∀ l m : List Nat, ltC l m = false → ltC m l = false → l = m
  | [], [], _, _ => rfl
  | [], _ :: _, h, _ => by simp [ltC, PySem.Spec.ltCps] at h
  | _ :: _, [], _, h => by simp [ltC, PySem.Spec.ltCps] at h
  | a :: r, b :: t, h1, h2 => by
    simp only [ltC, PySem.Spec.ltCps, Bool.or_eq_false_iff, decide_eq_false_iff_not, Bool.and_eq_false_iff, beq_eq_false_iff_ne] at h1 h2
    have e : a = b := by omega
    subst e
    have h3 : ltC r t = false := h1.2.resolve_left (fun z => z rfl)
    have h4 : ltC t r = false := h2.2.resolve_left (fun z => z rfl)
    rw [ltC_asym r t h3 h4]
theorem ltC_trans : ∀ l m n : List Nat, ltC m l = false → ltC n m = false → ltC n l = false
  | [], [], [], _, _ => rfl
  | [], [], _ :: _, _, h => h
  | [], b :: t, [], _, h => by simp [ltC, PySem.Spec.ltCps] at h
  | [], b :: t, c :: u, h, _ => by simp [ltC, PySem.Spec.ltCps]
  | a :: r, [], _, h, _ => by simp [ltC, PySem.Spec.ltCps] at h
  | a :: r, b :: t, [], _, h => by simp [ltC, PySem.Spec.ltCps] at h
  | a :: r, b :: t, c :: u, h1, h2 => by
    simp only [ltC, PySem.Spec.ltCps, Bool.or_eq_false_iff, decide_eq_false_iff_not, Bool.and_eq_false_iff, beq_eq_false_iff_ne] at h1 h2 ⊢
    refine ⟨by omega, ?_⟩
    by_cases e : c = a
    · right
      have e1 : b = a := by omega
      have e2 : c = b := by omega
      exact ltC_trans r t u (h1.2.resolve_left (fun z => z e1)) (h2.2.resolve_left (fun z => z e2))
    · exact .inl e
theorem ltC_total : ∀ l m : List Nat, ltC l m = false ∨ ltC m l = false
  | [], [] => .inl rfl
  | [], _ :: _ => .inr rfl
  | _ :: _, [] => .inl rfl
  | a :: r, b :: t => by
    simp only [ltC, PySem.Spec.ltCps, Bool.or_eq_false_iff, decide_eq_false_iff_not, Bool.and_eq_false_iff, beq_eq_false_iff_ne]
    rcases Nat.lt_trichotomy a b with h | h | h
    · exact .inr ⟨by omega, .inl (by omega)⟩
    · subst h
      rcases ltC_total r t with q | q
      · exact .inl ⟨by omega, .inr q⟩
      · exact .inr ⟨by omega, .inr q⟩
    · exact .inl ⟨by omega, .inl (by omega)⟩
def leS (a b : Str) : Bool := !ltC b.cps.toList a.cps.toList
theorem leS_trans (a b c : Str) (h1 : leS a b = true) (h2 : leS b c = true) : leS a c = true := by
  simp only [leS, Bool.not_eq_true'] at h1 h2 ⊢
  exact ltC_trans _ _ _ h1 h2
theorem leS_total (a b : Str) : (leS a b || leS b a) = true := by
  rw [Bool.or_eq_true]
  simp only [leS, Bool.not_eq_true']
  rcases ltC_total b.cps.toList a.cps.toList with h | h
  · exact .inl h
  · exact .inr h
theorem leS_asym (a b : Str) (h1 : leS a b = true) (h2 : leS b a = true) : a = b := by
  simp only [leS, Bool.not_eq_true'] at h1 h2
  have e := ltC_asym _ _ h2 h1
  obtain ⟨⟨a⟩⟩ := a
  obtain ⟨⟨b⟩⟩ := b
  have : a = b := e
  rw [this]
def sortS (l : List Str) : List Str := l.mergeSort leS
def sortI (l : List Int) : List Int := l.mergeSort fun a b => decide (a ≤ b)
theorem rising_pair : ∀ (l : List Str) (p : Str), PyProof.Rows.risingS p l = true → (p :: l).Pairwise fun a b => leS a b = true
  | [], p, _ => List.pairwise_singleton _ _
  | x :: r, p, h => by
    simp only [PyProof.Rows.risingS, Bool.and_eq_true] at h
    have ih := rising_pair r x h.2
    have hx : leS p x = true := h.1
    refine List.pairwise_cons.mpr ⟨fun y hy => ?_, ih⟩
    rcases List.mem_cons.mp hy with rfl | hy
    · exact hx
    · exact leS_trans p x y hx ((List.pairwise_cons.mp ih).1 y hy)
theorem sortedS_pair : ∀ {l : List Str}, PyProof.Rows.sortedS l = true → l.Pairwise fun a b => leS a b = true
  | [], _ => List.Pairwise.nil
  | x :: r, h => rising_pair r x h
theorem sortS_is {ys xs : List Str} (hp : ys.Perm xs) (hs : PyProof.Rows.sortedS ys = true) : ys = sortS xs :=
  List.Perm.eq_of_pairwise (le := fun a b => leS a b = true) (fun a b _ _ h1 h2 => leS_asym a b h1 h2) (sortedS_pair hs) (List.pairwise_mergeSort leS_trans leS_total xs) (hp.trans (List.mergeSort_perm xs leS).symm)
theorem sortI_is {ys xs : List Int} (hp : ys.Perm xs) (hs : ys.Pairwise (· ≤ ·)) : ys = sortI xs :=
  List.Perm.eq_of_pairwise (le := (· ≤ ·)) (fun a b _ _ h1 h2 => Int.le_antisymm h1 h2) hs
    ((List.pairwise_mergeSort (le := fun a b => decide (a ≤ b)) (fun a b c h1 h2 => by simp only [decide_eq_true_eq] at *; omega) (fun a b => by simp only [Bool.or_eq_true, decide_eq_true_eq]; omega) xs).imp fun h => by simpa using h) (hp.trans (List.mergeSort_perm xs _).symm)
def allInt : List D → Option (List Int)
  | [] => some []
  | .int b :: r => (allInt r).map (b :: ·)
  | _ => none
theorem ints_of {g : G} {H : Hp} {μ : List Addr} : ∀ {xs : List V} {ds : List D} {bs : List Int}, VRs g H μ xs ds → allInt ds = some bs → xs = bs.map V.int
  | _, _, _, .nil, e => by cases e; rfl
  | _, _, _, .cons (d := d) a b, e => by
    cases a with
    | int k =>
      simp only [allInt, Option.map_eq_some_iff] at e
      obtain ⟨r, e, rfl⟩ := e
      rw [ints_of b e]; rfl
    | _ => cases e
theorem vrs_strs {g : G} {H : Hp} {μ : List Addr} : ∀ ns : List Str, VRs g H μ (ns.map V.str) (ns.map D.str)
  | [] => .nil
  | n :: ns => .cons (.str n) (vrs_strs ns)
def dSorted : List D → MH → R D
  | [.ref i], h => match getL h i with
    | some l => if l.length < 64 then match allStr l with
      | some ys => .ok (.ref h.length) (h ++ [.lst ((sortS ys).map .str)])
      | none => match allInt l with
        | some ys => .ok (.ref h.length) (h ++ [.lst ((sortI ys).map .int)])
        | none => .bad else .bad
    | none => .bad
  | _, _ => .bad
section
variable {X : Cx} {g : G}
theorem callR_or {f : Value} {r r' : List V → Hp → VK → Prop} (h : CallR X f r) (h' : CallR X f r') : CallR X f (fun xs H Q => r xs H Q ∨ r' xs H Q) := by
  intro pins s σ H xs us Q I rv q
  rcases q with q | q
  · exact h pins s σ H xs us Q I rv q
  · exact h' pins s σ H xs us Q I rv q
theorem allStr_len : ∀ {ds : List D} {bs : List Str}, allStr ds = some bs → ds.length = bs.length
  | [], _, e => by cases e; rfl
  | .str b :: r, _, e => by
    simp only [allStr, Option.map_eq_some_iff] at e
    obtain ⟨t, e, rfl⟩ := e
    rw [List.length_cons, List.length_cons, allStr_len e]
  | .non :: _, _, e => by cases e
  | .bl _ :: _, _, e => by cases e
  | .int _ :: _, _, e => by cases e
  | .tup _ :: _, _, e => by cases e
  | .ref _ :: _, _, e => by cases e
theorem allInt_len : ∀ {ds : List D} {bs : List Int}, allInt ds = some bs → ds.length = bs.length
  | [], _, e => by cases e; rfl
  | .int b :: r, _, e => by
    simp only [allInt, Option.map_eq_some_iff] at e
    obtain ⟨t, e, rfl⟩ := e
    rw [List.length_cons, List.length_cons, allInt_len e]
  | .non :: _, _, e => by cases e
  | .bl _ :: _, _, e => by cases e
  | .str _ :: _, _, e => by cases e
  | .tup _ :: _, _, e => by cases e
  | .ref _ :: _, _, e => by cases e
theorem op_sorted : CallR X (.builtin "sorted") (fun xs H Q => rSortedS X.K xs H Q ∨ rSorted X.K xs H Q) := callR_or cr_sortedS cr_sorted
theorem sn_sorted : SN g (fun xs H Q => rSortedS g.K xs H Q ∨ rSorted g.K xs H Q) dSorted := sn1 (fun H μ h x a Q W hr va bk => by
  cases va with
  | @ref p i hi =>
    simp only [dSorted] at bk
    split at bk
    · rename_i l q
      obtain ⟨xs, hs, vs⟩ := hr.list hi q
      split at bk
      · rename_i h64
        split at bk
        · rename_i ys e
          have ex := strs_of vs e
          subst ex
          refine .inl ⟨p, ys, rfl, hs, by rw [← allStr_len e]; exact h64, fun zs r h1 h2 h3 => ?_⟩
          rw [sortS_is h1 h2]
          exact bk.newL hr (vrs_strs _) h3
        · split at bk
          · rename_i ys e
            have ex := ints_of vs e
            subst ex
            refine .inr ⟨p, ys, rfl, hs, by rw [← allInt_len e]; exact h64, fun zs r h1 h2 h3 => ?_⟩
            rw [sortI_is h1 h2]
            exact bk.newL hr (vrs_ints _) h3
          · exact bk.elim
      · exact bk.elim
    · exact bk.elim
  | _ => exact bk.elim) (fun _ => rfl) (fun a b l h => by simp [dSorted])
end
end Mi

/-! A calculus for the mirror: what must hold ahead of a part so that a thing holds behind it. -/
namespace Mi
open PySem L2
abbrev XE := Str → List (Str × D) → MH → Prop
@[irreducible] def Sat {α : Type} (r : R α) (Q : α → MH → Prop) (E : XE) : Prop := match r with
  | .ok d h => Q d h
  | .exc x fs h => E x fs h
  | .bad => False
abbrev SP := Slots → MH → Prop
abbrev SX := Str → List (Str × D) → Slots → MH → Prop
@[irreducible] def OS (o : Out) (N : SP) (T : D → MH → Prop) (B C : SP) (E : SX) : Prop := match o with
  | .nx ρ h => N ρ h
  | .rt d h => T d h
  | .bk ρ h => B ρ h
  | .ct ρ h => C ρ h
  | .exc x fs ρ h => E x fs ρ h
  | .bad => False
abbrev noX : XE := fun _ _ _ => False
abbrev noS : SP := fun _ _ => False
section
variable {α : Type} {Q : α → MH → Prop} {E : XE}
theorem Sat_ok (d : α) (h : MH) : Sat (.ok d h) Q E = Q d h := by unfold Sat; rfl
theorem Sat_exc (x : Str) (fs : List (Str × D)) (h : MH) : Sat (.exc x fs h : R α) Q E = E x fs h := by unfold Sat; rfl
theorem Sat_bad : Sat (.bad : R α) Q E = False := by unfold Sat; rfl
variable {N : SP} {T : D → MH → Prop} {B C : SP} {Es : SX}
theorem OS_nx (ρ : Slots) (h : MH) : OS (.nx ρ h) N T B C Es = N ρ h := by unfold OS; rfl
theorem OS_rt (d : D) (h : MH) : OS (.rt d h) N T B C Es = T d h := by unfold OS; rfl
theorem OS_bk (ρ : Slots) (h : MH) : OS (.bk ρ h) N T B C Es = B ρ h := by unfold OS; rfl
theorem OS_ct (ρ : Slots) (h : MH) : OS (.ct ρ h) N T B C Es = C ρ h := by unfold OS; rfl
theorem OS_exc (x : Str) (fs : List (Str × D)) (ρ : Slots) (h : MH) : OS (.exc x fs ρ h) N T B C Es = Es x fs ρ h := by unfold OS; rfl
theorem OS_bad : OS .bad N T B C Es = False := by unfold OS; rfl
end
theorem Sat.monoE {α : Type} {r : R α} {Q Q' : α → MH → Prop} {E E' : XE} (s : Sat r Q E) (k : ∀ d h, Q d h → Q' d h) (k' : ∀ x fs h, E x fs h → E' x fs h) : Sat r Q' E' := by
  cases r with
  | ok d h => rw [Sat_ok] at s ⊢; exact k d h s
  | exc x fs h => rw [Sat_exc] at s ⊢; exact k' x fs h s
  | _ => rw [Sat_bad] at s; exact s.elim
theorem Sat.mono {α : Type} {r : R α} {Q Q' : α → MH → Prop} {E : XE} (s : Sat r Q noX) (k : ∀ d h, Q d h → Q' d h) : Sat r Q' E := s.monoE k fun _ _ _ z => z.elim
theorem Sat.get {α : Type} {r : R α} {Q : α → MH → Prop} (s : Sat r Q noX) : ∃ d h, r = .ok d h ∧ Q d h := by
  cases r with
  | ok d h => rw [Sat_ok] at s; exact ⟨d, h, rfl, s⟩
  | exc x fs h => rw [Sat_exc] at s; exact s.elim
  | _ => rw [Sat_bad] at s; exact s.elim
theorem Sat.bnd {α β : Type} {r : R α} {f : α → MH → R β} {Q : β → MH → Prop} {E : XE} (s : Sat r (fun x h => Sat (f x h) Q E) E) : Sat (r.bind f) Q E := by
  cases r with
  | ok d h => rw [Sat_ok] at s; exact s
  | exc x fs h => rw [Sat_exc] at s; show Sat (.exc x fs h) Q E; rw [Sat_exc]; exact s
  | _ => rw [Sat_bad] at s; exact s.elim
theorem Sat.ot {α : Type} {r : R α} {ρ : Slots} {f : α → MH → Out} {N : SP} {T : D → MH → Prop} {B C : SP} {E : SX} (s : Sat r (fun x h => OS (f x h) N T B C E) (fun x fs h => E x fs ρ h)) : OS (r.out ρ f) N T B C E := by
  cases r with
  | ok d h => rw [Sat_ok] at s; exact s
  | exc x fs h => rw [Sat_exc] at s; show OS (.exc x fs ρ h) N T B C E; rw [OS_exc]; exact s
  | _ => rw [Sat_bad] at s; exact s.elim
theorem OS.mono {o : Out} {N N' : SP} {T T' : D → MH → Prop} {B B' C C' : SP} {E E' : SX} (s : OS o N T B C E) (kn : ∀ ρ h, N ρ h → N' ρ h) (kt : ∀ d h, T d h → T' d h) (kb : ∀ ρ h, B ρ h → B' ρ h) (kc : ∀ ρ h, C ρ h → C' ρ h) (ke : ∀ x fs ρ h, E x fs ρ h → E' x fs ρ h) : OS o N' T' B' C' E' := by
  cases o with
  | nx ρ h => rw [OS_nx] at s ⊢; exact kn ρ h s
  | rt d h => rw [OS_rt] at s ⊢; exact kt d h s
  | bk ρ h => rw [OS_bk] at s ⊢; exact kb ρ h s
  | ct ρ h => rw [OS_ct] at s ⊢; exact kc ρ h s
  | exc x fs ρ h => rw [OS_exc] at s ⊢; exact ke x fs ρ h s
  | bad => rw [OS_bad] at s; exact s.elim
theorem w_ok {α : Type} {Q : α → MH → Prop} {E : XE} {h : MH} {d : α} (q : Q d h) : Sat (.ok d h) Q E := by rw [Sat_ok]; exact q
theorem w_eq {α : Type} {Q : α → MH → Prop} {E : XE} {x : R α} {d : α} {h' : MH} (e : x = .ok d h') (q : Q d h') : Sat x Q E := by rw [e]; exact w_ok q
theorem w_nx {N : SP} {T : D → MH → Prop} {B C : SP} {E : SX} {ρ : Slots} {h : MH} (q : N ρ h) : OS (.nx ρ h) N T B C E := by rw [OS_nx]; exact q
theorem w_rt {N : SP} {T : D → MH → Prop} {B C : SP} {E : SX} {d : D} {h : MH} (q : T d h) : OS (.rt d h) N T B C E := by rw [OS_rt]; exact q
theorem w_bk {N : SP} {T : D → MH → Prop} {B C : SP} {E : SX} {ρ : Slots} {h : MH} (q : B ρ h) : OS (.bk ρ h) N T B C E := by rw [OS_bk]; exact q
theorem w_ct {N : SP} {T : D → MH → Prop} {B C : SP} {E : SX} {ρ : Slots} {h : MH} (q : C ρ h) : OS (.ct ρ h) N T B C E := by rw [OS_ct]; exact q
def Br (p A B : Prop) : Prop := (p → A) ∧ (¬p → B)
theorem br_t {p A B : Prop} (hp : p) (a : A) : Br p A B := ⟨fun _ => a, fun n => absurd hp n⟩
theorem br_f {p A B : Prop} (hp : ¬p) (b : B) : Br p A B := ⟨fun n => absurd n hp, fun _ => b⟩
theorem br_d {p : Prop} [Decidable p] {A B : Prop} (a : p → A) (b : ¬p → B) : Br (decide p = true) A B := ⟨fun n => a (of_decide_eq_true n), fun n => b (of_decide_eq_false (by simpa using n))⟩
theorem br_n {b : Bool} {A B : Prop} (a : Br (b = true) B A) : Br ((!b) = true) A B := ⟨fun n => a.2 (by simp at n; simp [n]), fun n => a.1 (by simpa using n)⟩
theorem br_dt {p : Prop} [Decidable p] {A B : Prop} (hp : p) (a : A) : Br (decide p = true) A B := br_t (decide_eq_true hp) a
theorem br_df {p : Prop} [Decidable p] {A B : Prop} (hp : ¬p) (a : B) : Br (decide p = true) A B := br_f (by simp [hp]) a
theorem br_tt {A B : Prop} (a : A) : Br (true = true) A B := br_t rfl a
theorem br_ff {A B : Prop} (b : B) : Br (false = true) A B := br_f (by decide) b
section
variable {α : Type} {Q : D → MH → Prop} {QA : List D → MH → Prop} {QB : Bool → MH → Prop} {QP : Option Int → MH → Prop} {QI : List D × (MH → Bool) → MH → Prop} {E : XE} {ρ : Slots} {h : MH} {a b c e : ME} {r : MA} {ta tb : MT} {lo hi : MP}
theorem w_var {i : Nat} {d : D} (e : ρ[i]? = some (some d)) (q : Q d h) : Sat (mVar i ρ h) Q E := by
  unfold mVar
  rw [e]
  exact w_ok q
theorem w_c {d : D} (q : Q d h) : Sat (mC d ρ h) Q E := w_ok q
theorem w_bin {f : D → D → MH → R D} (q : Sat (a ρ h) (fun x h1 => Sat (b ρ h1) (fun y h2 => Sat (f x y h2) Q E) E) E) : Sat (mBin f a b ρ h) Q E := Sat.bnd (q.monoE (fun _ _ z => Sat.bnd z) fun _ _ _ z => z)
theorem w_un {f : D → MH → R D} (q : Sat (a ρ h) (fun x h1 => Sat (f x h1) Q E) E) : Sat (mUn f a ρ h) Q E := Sat.bnd q
theorem w_nil (q : QA [] h) : Sat (mNil ρ h) QA E := w_ok q
theorem w_cons (q : Sat (a ρ h) (fun x h1 => Sat (r ρ h1) (fun xs h2 => QA (x :: xs) h2) E) E) : Sat (mCons a r ρ h) QA E := Sat.bnd (q.monoE (fun _ _ z => Sat.bnd (z.monoE (fun _ _ z => w_ok z) fun _ _ _ z => z)) fun _ _ _ z => z)
def toTup (xs : List D) (h1 : MH) : R D := if xs.length ≤ 1000000 then .ok (.tup xs) h1 else .bad
def toLst (xs : List D) (h1 : MH) : R D := if xs.length ≤ 1000000 then .ok (.ref h1.length) (h1 ++ [.lst xs]) else .bad
theorem w_tup (q : Sat (r ρ h) (fun xs h1 => Sat (toTup xs h1) Q E) E) : Sat (mTup r ρ h) Q E := Sat.bnd q
theorem w_lst (q : Sat (r ρ h) (fun xs h1 => Sat (toLst xs h1) Q E) E) : Sat (mLst r ρ h) Q E := Sat.bnd q
theorem w_toTup {xs : List D} (l : xs.length ≤ 1000000) (q : Q (.tup xs) h) : Sat (toTup xs h) Q E := by unfold toTup; rw [if_pos l]; exact w_ok q
theorem w_toLst {xs : List D} (l : xs.length ≤ 1000000) (q : Q (.ref h.length) (h ++ [.lst xs])) : Sat (toLst xs h) Q E := by unfold toLst; rw [if_pos l]; exact w_ok q
theorem w_call {F : List D → MH → R D} (q : Sat (r ρ h) (fun xs h1 => Sat (F xs h1) Q E) E) : Sat (mCall F r ρ h) Q E := Sat.bnd q
def unB (x : D) (h1 : MH) : R Bool := match x with
  | .bl b => .ok b h1
  | _ => .bad
theorem w_B (q : Sat (a ρ h) (fun x h1 => Sat (unB x h1) QB E) E) : Sat (mB a ρ h) QB E := by
  refine Sat.bnd (q.monoE (fun x _ z => ?_) fun _ _ _ z => z)
  cases x <;> exact z
theorem w_unB {b : Bool} (q : QB b h) : Sat (unB (.bl b) h) QB E := w_ok q
theorem br_if {p : Prop} [Decidable p] {α : Type} {x y : R α} {Q : α → MH → Prop} (q : Br p (Sat x Q E) (Sat y Q E)) : Sat (if p then x else y) Q E := by
  split
  · rename_i hp; exact q.1 hp
  · rename_i hp; exact q.2 hp
theorem w_and (q : Sat (ta ρ h) (fun x h1 => Br (x = true) (Sat (tb ρ h1) QB E) (QB false h1)) E) : Sat (mAnd ta tb ρ h) QB E := Sat.bnd (q.monoE (fun _ _ z => br_if ⟨z.1, fun n => w_ok (z.2 n)⟩) fun _ _ _ z => z)
theorem w_or (q : Sat (ta ρ h) (fun x h1 => Br (x = true) (QB true h1) (Sat (tb ρ h1) QB E)) E) : Sat (mOr ta tb ρ h) QB E := Sat.bnd (q.monoE (fun _ _ z => br_if ⟨fun n => w_ok (z.1 n), z.2⟩) fun _ _ _ z => z)
theorem w_not (q : Sat (ta ρ h) (fun x h1 => QB (!x) h1) E) : Sat (mNot ta ρ h) QB E := Sat.bnd (q.monoE (fun _ _ z => w_ok z) fun _ _ _ z => z)
def andK (b : ME) (ρ : Slots) (x : D) (h1 : MH) : R D := match x with
  | .bl true => b ρ h1
  | .bl false => .ok (.bl false) h1
  | _ => .bad
def orK (b : ME) (ρ : Slots) (x : D) (h1 : MH) : R D := match x with
  | .bl false => b ρ h1
  | .bl true => .ok (.bl true) h1
  | _ => .bad
def notK (x : D) (h1 : MH) : R D := match x with
  | .bl b => .ok (.bl (!b)) h1
  | _ => .bad
theorem w_andV (q : Sat (a ρ h) (fun x h1 => Sat (andK b ρ x h1) Q E) E) : Sat (mAndV a b ρ h) Q E := Sat.bnd q
theorem w_orV (q : Sat (a ρ h) (fun x h1 => Sat (orK b ρ x h1) Q E) E) : Sat (mOrV a b ρ h) Q E := Sat.bnd q
theorem w_notV (q : Sat (a ρ h) (fun x h1 => Sat (notK x h1) Q E) E) : Sat (mNotV a ρ h) Q E := Sat.bnd q
theorem w_andK {k : Bool} (q : Br (k = true) (Sat (b ρ h) Q E) (Q (.bl false) h)) : Sat (andK b ρ (.bl k) h) Q E := by
  cases k
  · exact w_ok (q.2 (by decide))
  · exact q.1 rfl
theorem w_orK {k : Bool} (q : Br (k = true) (Q (.bl true) h) (Sat (b ρ h) Q E)) : Sat (orK b ρ (.bl k) h) Q E := by
  cases k
  · exact q.2 (by decide)
  · exact w_ok (q.1 rfl)
theorem w_notK {k : Bool} (q : Q (.bl (!k)) h) : Sat (notK (.bl k) h) Q E := w_ok q
theorem w_ifE (q : Sat (ta ρ h) (fun x h1 => Br (x = true) (Sat (a ρ h1) Q E) (Sat (b ρ h1) Q E)) E) : Sat (mIfE ta a b ρ h) Q E := Sat.bnd (q.monoE (fun _ _ z => br_if z) fun _ _ _ z => z)
theorem w_sl (q : Sat (a ρ h) (fun x h1 => Sat (lo ρ h1) (fun l h2 => Sat (hi ρ h2) (fun u h3 => Sat (dSl x l u h3) Q E) E) E) E) : Sat (mSl a lo hi ρ h) Q E :=
  Sat.bnd (q.monoE (fun _ _ z => Sat.bnd (z.monoE (fun _ _ z => Sat.bnd z) fun _ _ _ z => z)) fun _ _ _ z => z)
theorem w_no (q : QP none h) : Sat (mNo ρ h) QP E := w_ok q
def unI (x : D) (h1 : MH) : R (Option Int) := match x with
  | .int i => .ok (some i) h1
  | _ => .bad
theorem w_some (q : Sat (a ρ h) (fun x h1 => Sat (unI x h1) QP E) E) : Sat (mSome a ρ h) QP E := by
  refine Sat.bnd (q.monoE (fun x _ z => ?_) fun _ _ _ z => z)
  cases x <;> exact z
theorem w_unI {i : Int} (q : QP (some i) h) : Sat (unI (.int i) h) QP E := w_ok q
theorem w_meth {T : D → MH → Bool} {f : D → List D → MH → R D} (q : Sat (a ρ h) (fun x h1 => T x h1 = true ∧ Sat (r ρ h1) (fun xs h2 => Sat (f x xs h2) Q E) E) E) : Sat (mMeth T f a r ρ h) Q E :=
  Sat.bnd (q.monoE (fun _ _ z => by
    rw [if_pos z.1]
    exact Sat.bnd z.2) fun _ _ _ z => z)
theorem w_isi {T : String} (q : Sat (a ρ h) (fun x h1 => Sat (isi1 T (.ok x h1)) Q E) E) : Sat (mIsi T a ρ h) Q E := Sat.bnd q
def iterK (x : D) (h1 : MH) : R (List D × (MH → Bool)) := iter1 (.ok x h1)
theorem w_iter (q : Sat (a ρ h) (fun x h1 => Sat (iter1 (.ok x h1)) QI E) E) : Sat (mIter a ρ h) QI E := Sat.bnd q
theorem w_range1 (q : Sat (a ρ h) (fun x h1 => Sat (dR1 rangeD x h1) QI E) E) : Sat (mRange1 a ρ h) QI E := Sat.bnd q
theorem w_rev1 (q : Sat (a ρ h) (fun x h1 => Sat (dR1 revRangeD x h1) QI E) E) : Sat (mRev1 a ρ h) QI E := Sat.bnd q
theorem w_range2 (q : Sat (a ρ h) (fun x h1 => Sat (b ρ h1) (fun y h2 => Sat (dR2 rangeD x y h2) QI E) E) E) : Sat (mRange2 a b ρ h) QI E := Sat.bnd (q.monoE (fun _ _ z => Sat.bnd z) fun _ _ _ z => z)
theorem w_rev2 (q : Sat (a ρ h) (fun x h1 => Sat (b ρ h1) (fun y h2 => Sat (dR2 revRangeD x y h2) QI E) E) E) : Sat (mRev2 a b ρ h) QI E := Sat.bnd (q.monoE (fun _ _ z => Sat.bnd z) fun _ _ _ z => z)
theorem lim_in {j : Int} (h0 : -1000000000000000000 ≤ j) (h1 : j ≤ 1000000000000000000) : lim62 j = true := by unfold lim62; simp; omega
theorem w_dR1 {f : Int → Nat → List D} {j : Int} (l : -1000000000000000000 ≤ j ∧ j ≤ 1000000000000000000) (q : QI (f 0 j.toNat, yes) h) : Sat (dR1 f (.int j) h) QI E := by
  unfold dR1; simp only [lim_in l.1 l.2, if_true]; exact w_ok q
theorem w_dR2 {f : Int → Nat → List D} {i j : Int} (l : (-1000000000000000000 ≤ i ∧ i ≤ 1000000000000000000) ∧ -1000000000000000000 ≤ j ∧ j ≤ 1000000000000000000) (q : QI (f i (j - i).toNat, yes) h) : Sat (dR2 f (.int i) (.int j) h) QI E := by
  unfold dR2; simp only [lim_in l.1.1 l.1.2, lim_in l.2.1 l.2.2, true_and, if_true]; exact w_ok q
def zipK (x y : D) (h2 : MH) : R (List D × (MH → Bool)) := match x, y with
  | .ref i, .ref j => match getL h2 i, getL h2 j with
    | some l, some m => .ok (zipD l m, fun h' => decide (getL h' i = some l) && decide (getL h' j = some m)) h2
    | _, _ => .bad
  | _, _ => .bad
theorem w_zip (q : Sat (a ρ h) (fun x h1 => Sat (b ρ h1) (fun y h2 => Sat (zipK x y h2) QI E) E) E) : Sat (mZip a b ρ h) QI E := Sat.bnd (q.monoE (fun _ _ z => Sat.bnd z) fun _ _ _ z => z)
theorem w_lc {it : MI} {tg : MG} {vs : List Nat} (q : Sat (it ρ h) (fun a h1 => Sat (lcGo a.2 tg ta e h1.length (wipeD ρ vs) a.1 (h1 ++ [.lst []])) Q E) E) : Sat (mLc it tg ta e vs ρ h) Q E := Sat.bnd q
theorem w_revL (q : Sat (a ρ h) (fun x h1 => Sat (dRevL x h1) Q E) E) : Sat (mRevL a ρ h) Q E := Sat.bnd q
def lrK (x : D) (h : MH) : R D := match x with
  | .int j => lstRg 0 j h
  | _ => .bad
theorem w_listRg1 (q : Sat (a ρ h) (fun x h1 => Sat (lrK x h1) Q E) E) : Sat (mListRg1 a ρ h) Q E := Sat.bnd q
theorem w_tindex (q : Sat (a ρ h) (fun x h1 => ∃ l, x = .tup l ∧ Sat (b ρ h1) (fun y h2 => Sat (dTIdx x y h2) Q E) E) E) : Sat (mTIndex a b ρ h) Q E := Sat.bnd (q.monoE (fun _ _ z => by
  obtain ⟨l, rfl, z⟩ := z
  exact Sat.bnd z) fun _ _ _ z => z)
def chK (f' : D → D → MH → R D) (c : ME) (ρ : Slots) (y z : D) (h3 : MH) : R D := match z with
  | .bl true => (c ρ h3).bind fun w h4 => f' y w h4
  | .bl false => .ok (.bl false) h3
  | _ => .bad
theorem w_chain {f f' : D → D → MH → R D} (q : Sat (a ρ h) (fun x h1 => Sat (b ρ h1) (fun y h2 => Sat (f x y h2) (fun z h3 => Sat (chK f' c ρ y z h3) Q E) E) E) E) : Sat (mChain f f' a b c ρ h) Q E :=
  Sat.bnd (q.monoE (fun _ _ z => Sat.bnd (z.monoE (fun _ _ z => Sat.bnd z) fun _ _ _ z => z)) fun _ _ _ z => z)
theorem w_chK {f' : D → D → MH → R D} {y : D} {k : Bool} (q : Br (k = true) (Sat (c ρ h) (fun w h4 => Sat (f' y w h4) Q E) E) (Q (.bl false) h)) : Sat (chK f' c ρ y (.bl k) h) Q E := by
  cases k
  · exact w_ok (q.2 (by decide))
  · exact Sat.bnd (q.1 rfl)
end
section
variable {N : SP} {T : D → MH → Prop} {B C : SP} {E : SX} {ρ : Slots} {h : MH} {a b c e : ME} {r : MA} {ta tb : MT} {sa sb : MS}
theorem w_seq (q : OS (sa ρ h) (fun ρ' h' => OS (sb ρ' h') N T B C E) T B C E) : OS (mSeq sa sb ρ h) N T B C E := by
  unfold mSeq
  cases e : sa ρ h with
  | nx ρ' h' => rw [e, OS_nx] at q; exact q
  | rt d h' => rw [e, OS_rt] at q; exact w_rt q
  | bk ρ' h' => rw [e, OS_bk] at q; exact w_bk q
  | ct ρ' h' => rw [e, OS_ct] at q; exact w_ct q
  | exc x fs ρ' h' => rw [e, OS_exc] at q; simp only [OS_exc]; exact q
  | bad => rw [e, OS_bad] at q; exact q.elim
theorem w_skip (q : N ρ h) : OS (mSkip ρ h) N T B C E := w_nx q
theorem w_brk (q : B ρ h) : OS (mBreak ρ h) N T B C E := w_bk q
theorem w_cont (q : C ρ h) : OS (mCont ρ h) N T B C E := w_ct q
theorem w_retN (q : T .non h) : OS (mRetN ρ h) N T B C E := w_rt q
theorem w_drop (q : Sat (e ρ h) (fun _ h' => N ρ h') fun x fs h => E x fs ρ h) : OS (mDrop e ρ h) N T B C E := Sat.ot (q.monoE (fun _ _ z => w_nx z) fun _ _ _ z => z)
theorem w_ret (q : Sat (e ρ h) T fun x fs h => E x fs ρ h) : OS (mRet e ρ h) N T B C E := Sat.ot (q.monoE (fun _ _ z => w_rt z) fun _ _ _ z => z)
theorem w_if (q : Sat (ta ρ h) (fun x h1 => Br (x = true) (OS (sa ρ h1) N T B C E) (OS (sb ρ h1) N T B C E)) fun x fs h => E x fs ρ h) : OS (mIf ta sa sb ρ h) N T B C E := Sat.ot (q.monoE (fun _ _ z => by
  split
  · rename_i hp; exact z.1 hp
  · rename_i hp; exact z.2 hp) fun _ _ _ z => z)
theorem w_asg {i : Nat} (q : Sat (e ρ h) (fun d h' => N (ρ.set i (some d)) h') fun x fs h => E x fs ρ h) : OS (mAsg i e ρ h) N T B C E := Sat.ot (q.monoE (fun _ _ z => w_nx z) fun _ _ _ z => z)
theorem w_asgT {m : MG} (q : Sat (e ρ h) (fun d h' => ∃ ρ', m d ρ = some ρ' ∧ N ρ' h') fun x fs h => E x fs ρ h) : OS (mAsgT m e ρ h) N T B C E := Sat.ot (q.monoE (fun _ _ z => by
  obtain ⟨ρ', e1, z⟩ := z
  rw [e1]
  exact w_nx z) fun _ _ _ z => z)
theorem w_setIx (q : Sat (e ρ h) (fun d h1 => Sat (a ρ h1) (fun x h2 => Sat (b ρ h2) (fun y h3 => Sat (dSet x y d h3) (fun _ h4 => N ρ h4) fun x fs h => E x fs ρ h) fun x fs h => E x fs ρ h) fun x fs h => E x fs ρ h) fun x fs h => E x fs ρ h) : OS (mSetIx a b e ρ h) N T B C E :=
  Sat.ot (q.monoE (fun _ _ z => Sat.ot (z.monoE (fun _ _ z => Sat.ot (z.monoE (fun _ _ z => Sat.ot (z.monoE (fun _ _ z => w_nx z) fun _ _ _ z => z)) fun _ _ _ z => z)) fun _ _ _ z => z)) fun _ _ _ z => z)
theorem w_for {it : MI} {tg : MG} (q : Sat (it ρ h) (fun x h1 => OS (forGo x.2 tg sa x.1 ρ h1) N T B C E) fun x fs h => E x fs ρ h) : OS (mFor it tg sa ρ h) N T B C E := Sat.ot q
theorem w_fun {n M : Nat} {ds : List D} {Q : D → MH → Prop} {E : XE} (q : OS (sa (startD n M ds) h) (fun _ h' => Q .non h') Q noS noS fun x fs _ h => E x fs h) (hl : ds.length = n := by rfl) : Sat (mFun n M sa ds h) Q E := by
  unfold mFun
  rw [if_pos hl]
  cases e : sa (startD n M ds) h with
  | nx ρ' h' => rw [e, OS_nx] at q; exact w_ok q
  | rt d h' => rw [e, OS_rt] at q; exact w_ok q
  | bk ρ' h' => rw [e, OS_bk] at q; exact q.elim
  | ct ρ' h' => rw [e, OS_ct] at q; exact q.elim
  | exc x fs ρ' h' => rw [e, OS_exc] at q; simp only [Sat_exc]; exact q
  | bad => rw [e, OS_bad] at q; exact q.elim
/-- a loop: what holds between two turns -/
theorem w_loop {gd : MH → Bool} {tg : MG} {body : MS} (I : Nat → SP) : ∀ {items : List D} {k : Nat} {ρ : Slots} {h : MH}, I k ρ h →
    (∀ i ρ h, I i ρ h → gd h = true) →
    (∀ i d ρ h, items[i]? = some d → I (k + i) ρ h → ∃ ρ1, tg d ρ = some ρ1 ∧ OS (body ρ1 h) (I (k + i + 1)) T N (I (k + i + 1)) E) →
    (∀ ρ h, I (k + items.length) ρ h → N ρ h) → OS (forGo gd tg body items ρ h) N T B C E
  | [], k, ρ, h, h0, hg, hs, hn => by
    rw [forGo, if_pos (hg k ρ h h0)]
    exact w_nx (hn _ _ h0)
  | d :: ds, k, ρ, h, h0, hg, hs, hn => by
    obtain ⟨ρ1, e1, q⟩ := hs 0 d ρ h rfl h0
    have go : ∀ ρ' h', I (k + 0 + 1) ρ' h' → OS (forGo gd tg body ds ρ' h') N T B C E := fun ρ' h' i => w_loop I (k := k + 1) (ρ := ρ') (h := h') i hg (fun i d' ρ h hd hi => by
      have e3 : k + (i + 1) = k + 1 + i := by omega
      have := hs (i + 1) d' ρ h (by simpa using hd) (by rw [e3]; exact hi)
      rw [e3] at this
      exact this) (fun ρ h hi => hn ρ h (by rw [List.length_cons]; have e3 : k + (ds.length + 1) = k + 1 + ds.length := by omega
                                            rw [e3]; exact hi))
    rw [forGo, if_pos (hg k ρ h h0), e1]
    cases e2 : body ρ1 h with
    | nx ρ' h' => rw [e2, OS_nx] at q; simp only [e2]; exact go ρ' h' q
    | ct ρ' h' => rw [e2, OS_ct] at q; simp only [e2]; exact go ρ' h' q
    | bk ρ' h' => rw [e2, OS_bk] at q; simp only [e2]; exact w_nx q
    | rt d h' => rw [e2, OS_rt] at q; simp only [e2]; exact w_rt q
    | exc x fs ρ' h' => rw [e2, OS_exc] at q; simp only [e2, OS_exc]; exact q
    | bad => rw [e2, OS_bad] at q; exact q.elim
theorem w_loop0 {gd : MH → Bool} {tg : MG} {body : MS} (I : Nat → SP) {items : List D} {ρ : Slots} {h : MH} (h0 : I 0 ρ h)
    (hg : ∀ i ρ h, I i ρ h → gd h = true)
    (hs : ∀ i d ρ h, items[i]? = some d → I i ρ h → ∃ ρ1, tg d ρ = some ρ1 ∧ OS (body ρ1 h) (I (i + 1)) T N (I (i + 1)) E)
    (hn : ∀ ρ h, I items.length ρ h → N ρ h) : OS (forGo gd tg body items ρ h) N T B C E :=
  w_loop I (k := 0) h0 hg (fun i d ρ h hd hi => by rw [Nat.zero_add] at hi ⊢; exact hs i d ρ h hd hi) (fun ρ h hi => hn ρ h (by rw [Nat.zero_add] at hi; exact hi))
/-- a comprehension: what holds between two turns, of the list so far -/
theorem w_comp {gd : MH → Bool} {tg : MG} {tt : MT} {te : ME} {c : Nat} {ρ : Slots} {Q : D → MH → Prop} {E : XE} (I : Nat → List D → MH → Prop) : ∀ {items : List D} {k : Nat} {acc : List D} {h : MH}, I k acc h → h[c]? = some (.lst acc) → acc.length + items.length ≤ 1000000 →
    (∀ i acc h, I i acc h → gd h = true) →
    (∀ i d acc h, items[i]? = some d → I (k + i) acc h → h[c]? = some (.lst acc) → ∃ ρ1, tg d ρ = some ρ1 ∧ ∃ b h1, tt ρ1 h = .ok b h1 ∧ (b = false → h1[c]? = some (.lst acc) ∧ I (k + i + 1) acc h1) ∧ (b = true → Sat (te ρ1 h1) (fun y h2 => h2[c]? = some (.lst acc) ∧ I (k + i + 1) (acc ++ [y]) (h2.set c (.lst (acc ++ [y])))) noX)) →
    (∀ acc h, I (k + items.length) acc h → h[c]? = some (.lst acc) → Q (.ref c) h) → Sat (lcGo gd tg tt te c ρ items h) Q E
  | [], k, acc, h, h0, hc, hl, hg, hs, hn => by
    rw [lcGo, if_pos (hg k acc h h0)]
    exact w_ok (hn _ _ h0 hc)
  | d :: ds, k, acc, h, h0, hc, hl, hg, hs, hn => by
    obtain ⟨ρ1, e1, b, h1, e2, q1, q2⟩ := hs 0 d acc h rfl h0 hc
    rw [List.length_cons] at hl
    have go : ∀ acc' h', acc'.length ≤ acc.length + 1 → I (k + 0 + 1) acc' h' → h'[c]? = some (.lst acc') → Sat (lcGo gd tg tt te c ρ ds h') Q E := fun acc' h' l i hc' => w_comp I (k := k + 1) (acc := acc') (h := h') i hc' (by omega) hg (fun i d' acc h hd hi hc => by
      have e3 : k + (i + 1) = k + 1 + i := by omega
      have := hs (i + 1) d' acc h (by simpa using hd) (by rw [e3]; exact hi) hc
      rw [e3] at this
      exact this) (fun acc h hi => hn acc h (by rw [List.length_cons]; have e3 : k + (ds.length + 1) = k + 1 + ds.length := by omega
                                                rw [e3]; exact hi))
    rw [lcGo, if_pos (hg k acc h h0), e1]
    cases b with
    | false =>
      simp only [e2]
      obtain ⟨q3, q4⟩ := q1 rfl
      exact go _ _ (by omega) q4 q3
    | true =>
      simp only [e2]
      obtain ⟨y, h2, e3, q3, q4⟩ := (q2 rfl).get
      simp only [e3, q3]
      rw [if_pos (by omega)]
      refine go _ _ (by simp) q4 ?_
      have : c < h2.length := (List.getElem?_eq_some_iff.mp q3).1
      simp [this]
/-- a comprehension whose parts change nothing -/
theorem w_compP {gd : MH → Bool} {tg : MG} {te : ME} {ρ : Slots} {Q : D → MH → Prop} {E : XE} {h0 : MH} (P : Nat → D → Prop) {items : List D} (hl : items.length ≤ 1000000)
    (hg : ∀ t, gd (h0 ++ t) = true)
    (hs : ∀ i d t, items[i]? = some d → ∃ ρ1, tg d ρ = some ρ1 ∧ Sat (te ρ1 (h0 ++ t)) (fun y h2 => h2 = h0 ++ t ∧ P i y) noX)
    (hn : ∀ ys : List D, ys.length = items.length → (∀ i y, ys[i]? = some y → P i y) → Q (.ref h0.length) (h0 ++ [.lst ys])) : Sat (lcGo gd tg mYes te h0.length ρ items (h0 ++ [.lst []])) Q E := by
  refine w_comp (fun k acc h => acc.length = k ∧ h = h0 ++ [.lst acc] ∧ ∀ i y, acc[i]? = some y → P i y) ⟨rfl, rfl, fun i y e => by simp at e⟩ (by simp) (by simpa using hl) (fun i acc h hi => by rw [hi.2.1]; exact hg _) ?_ ?_
  · rintro i d acc h hd ⟨ha, rfl, hp⟩ hc
    obtain ⟨ρ1, e1, s⟩ := hs i d [.lst acc] hd
    refine ⟨ρ1, e1, true, _, rfl, (fun z => Bool.noConfusion z), fun _ => s.mono ?_⟩
    rintro y h2 ⟨rfl, hy⟩
    refine ⟨hc, by simp [ha], by simp, fun j z hz => ?_⟩
    rcases Nat.lt_or_ge j acc.length with q | q
    · rw [List.getElem?_append_left q] at hz
      exact hp j z hz
    · rw [List.getElem?_append_right q] at hz
      have : j - acc.length = 0 := by
        have := (List.getElem?_eq_some_iff.mp hz).1
        simp at this; omega
      rw [this] at hz
      simp at hz
      subst hz
      have : j = i := by simp at ha; omega
      subst this
      exact hy
  · rintro acc h ⟨ha, rfl, hp⟩ hc
    exact hn acc (by simpa using ha) hp
end
/-! leaves -/
section
variable {Q : D → MH → Prop} {E : XE} {h : MH} {i j : Int} {x y : Str} {l m : List D}
theorem w_mod (c : 0 < j) (q : Q (.int (i % j)) h) : Sat (dMod (.int i) (.int j) h) Q E := w_eq (by rw [dMod_int, if_pos c]) q
theorem w_fdiv (c : 0 < j ∧ j < 18446744073709551616) (q : Q (.int (i / j)) h) : Sat (dFdiv (.int i) (.int j) h) Q E := w_eq (dFdiv_small i j h c.1 c.2) q
theorem w_mulS (c : (-18446744073709551616 < i ∧ i < 18446744073709551616) ∧ -18446744073709551616 < j ∧ j < 18446744073709551616) (q : Q (.int (i * j)) h) : Sat (dMul (.int i) (.int j) h) Q E := w_eq (dMul_s i j h c.1.1 c.1.2 c.2.1 c.2.2) q
theorem w_mulB {a b : Nat} (ha : Builtin.Int.intBits i ≤ a) (hb : Builtin.Int.intBits j ≤ b) (hab : a + b ≤ 134217728) (q : Q (.int (i * j)) h) : Sat (dMul (.int i) (.int j) h) Q E := w_eq (dMul_bits i j h ha hb hab) q
theorem w_addS (c : x.length + y.length ≤ 1000000) (q : Q (.str (x ++ y)) h) : Sat (dAdd (.str x) (.str y) h) Q E := w_eq (by rw [dAdd_str, if_pos c]) q
theorem w_addT (c : l.length + m.length ≤ 1000000) (q : Q (.tup (l ++ m)) h) : Sat (dAdd (.tup l) (.tup m) h) Q E := w_eq (by rw [dAdd_tup, if_pos c]) q
theorem w_addL {i j : Nat} (hi : h[i]? = some (.lst l)) (hj : h[j]? = some (.lst m)) (c : l.length + m.length ≤ 1000000) (q : Q (.ref h.length) (h ++ [.lst (l ++ m)])) : Sat (dAdd (.ref i) (.ref j) h) Q E := w_eq (by simp only [dAdd, hi, hj, if_pos c]) q
theorem w_pow {n : Nat} (c : n ≤ 1000000 ∧ i.natAbs < 2 ^ 64) (q : Q (.int (i ^ n)) h) : Sat (dPow (.int i) (.int (n : Int)) h) Q E := w_eq (by rw [dPow_int, if_pos (by omega), Int.toNat_natCast]) q
theorem w_shl {n : Nat} (c : n ≤ 1000000 ∧ i.natAbs < 2 ^ 64) (q : Q (.int (i * 2 ^ n)) h) : Sat (dShl (.int i) (.int (n : Int)) h) Q E := w_eq (by rw [dShl_int, if_pos (by omega), Int.toNat_natCast]) q
theorem w_lenS (c : x.length ≤ 1000000) (q : Q (.int x.length) h) : Sat (dLen [.str x] h) Q E := w_eq (by rw [dLen_str, if_pos c]) q
theorem w_lenL {i : Nat} (c : getL h i = some l) (q : Q (.int l.length) h) : Sat (dLen [.ref i] h) Q E := w_eq (dLen_ref c) q
theorem w_slS {lo hi : Option Int} (c : x.length ≤ 1000000) (q : Q (.str (cutS x lo hi)) h) : Sat (dSl (.str x) lo hi h) Q E := w_eq (by rw [dSl_str, if_pos c]) q
theorem w_slL {i : Nat} {lo hi : Option Int} (c : getL h i = some l) (q : Q (.ref h.length) (h ++ [.lst (cutD l lo hi)])) : Sat (dSl (.ref i) lo hi h) Q E := w_eq (dSl_ref c lo hi) q
theorem w_ixL {k : Nat} {d : D} (c : getL h k = some l) (e : atI l i = some d) (q : Q d h) : Sat (dIx (.ref k) (.int i) h) Q E := w_eq (dIx_ref c e) q
theorem w_ixT {d : D} (e : atI l i = some d) (q : Q d h) : Sat (dIx (.tup l) (.int i) h) Q E := w_eq (dIx_tup h e) q
theorem w_ixS {c : Nat} (hz : x.length ≤ 1000000) (e : atI x.cps.toList i = some c) (q : Q (.str ⟨#[c]⟩) h) : Sat (dIx (.str x) (.int i) h) Q E := w_eq (dIx_str h hz e) q
theorem getL_of {i : Nat} (e : h[i]? = some (.lst l)) : getL h i = some l := by unfold getL; rw [e]
theorem w_app {i : Nat} {d : D} (e : h[i]? = some (.lst l)) (c : l.length < 1000000) (q : Q .non (h.set i (.lst (l ++ [d])))) : Sat (dAppend (.ref i) [d] h) Q E := w_eq (by simp only [dAppend, e, if_pos c]) q
theorem w_listL {i : Nat} (c : getL h i = some l) (q : Q (.ref h.length) (h ++ [.lst l])) : Sat (dList [.ref i] h) Q E := w_eq (by simp [dList, seqOf, c]) q
theorem w_tupL {i : Nat} (c : getL h i = some l) (q : Q (.tup l) h) : Sat (dTuple [.ref i] h) Q E := w_eq (by simp [dTuple, seqOf, c]) q
theorem w_set {QU : Unit → MH → Prop} {i : Nat} {k : Int} {n : Nat} {d : D} (e : h[i]? = some (.lst l)) (c : ixN l.length k = some n) (q : QU () (h.set i (.lst (l.set n d)))) : Sat (dSet (.ref i) (.int k) d h) QU E := w_eq (by simp only [dSet, e, c]) q
theorem allStr_map (bs : List Str) : allStr (bs.map D.str) = some bs := by
  induction bs with
  | nil => rfl
  | cons b bs ih => simp [allStr, ih]
theorem w_sortS {i : Nat} {ys : List Str} (e : getL h i = some (ys.map .str)) (c : ys.length < 64) (q : Q (.ref h.length) (h ++ [.lst ((sortS ys).map .str)])) : Sat (dSorted [.ref i] h) Q E := w_eq (by simp only [dSorted, e, List.length_map, if_pos c, allStr_map]) q
end
end Mi

/-! Lists of one's own: h goes on from h0, and the listed cells behind it are known. -/
namespace Mi
open PySem L2
abbrev LL := List (Nat × List D)
structure Own (h0 h : MH) (L : LL) : Prop where
  pre : h0 <+: h
  cell : ∀ p ∈ L, h0.length ≤ p.1 ∧ h[p.1]? = some (.lst p.2)
  nd : (L.map (·.1)).Nodup
section
variable {h0 h h' h1 : MH} {L M : LL} {i : Nat} {l l' : List D}
theorem Own.nil (h : MH) : Own h h [] := ⟨List.prefix_rfl, fun p hp => by simp at hp, List.nodup_nil⟩
theorem pre_get (p : h <+: h') {o : MO} (e : h[i]? = some o) : h'[i]? = some o := by
  obtain ⟨t, rfl⟩ := p
  rw [List.getElem?_append_left (List.getElem?_eq_some_iff.mp e).1]
  exact e
theorem pre_getL (p : h <+: h') (e : getL h i = some l) : getL h' i = some l := by
  obtain ⟨t, rfl⟩ := p
  have hi : i < h.length := by
    cases q : h[i]? with
    | none => simp [getL, q] at e
    | some o => exact (List.getElem?_eq_some_iff.mp q).1
  unfold getL
  rw [List.getElem?_append_left hi]
  exact e
theorem Own.getL (o : Own h0 h L) (e : getL h0 i = some l) : getL h i = some l := pre_getL o.pre e
theorem Own.ext (o : Own h0 h L) (p : h <+: h') : Own h0 h' L := ⟨o.pre.trans p, fun q hq => ⟨(o.cell q hq).1, pre_get p (o.cell q hq).2⟩, o.nd⟩
theorem Own.lt (o : Own h0 h L) {p : Nat × List D} (hp : p ∈ L) : p.1 < h.length := (List.getElem?_eq_some_iff.mp (o.cell p hp).2).1
theorem Own.add (o : Own h0 h L) (hi : h0.length ≤ i) (e : h[i]? = some (.lst l)) (n : ∀ p ∈ L, p.1 ≠ i) : Own h0 h ((i, l) :: L) :=
  ⟨o.pre, fun q hq => by
    rcases List.mem_cons.mp hq with rfl | hq
    · exact ⟨hi, e⟩
    · exact o.cell q hq, List.nodup_cons.mpr ⟨fun hm => by
      obtain ⟨p, hp, rfl⟩ := List.mem_map.mp hm
      exact n p hp rfl, o.nd⟩⟩
theorem Own.alloc (o : Own h0 h L) (xs : List D) : Own h0 (h ++ [.lst xs]) ((h.length, xs) :: L) :=
  (o.ext (List.prefix_append _ _)).add (o.pre.length_le) (by simp) fun p hp => Nat.ne_of_lt (o.lt hp)
theorem Own.at (o : Own h0 h L) (n : Nat) (e : L[n]? = some (i, l)) : h[i]? = some (.lst l) := (o.cell _ (List.mem_of_getElem? e)).2
theorem Own.atL (o : Own h0 h L) (n : Nat) (e : L[n]? = some (i, l)) : Mi.getL h i = some l := getL_of (o.at n e)
theorem Own.isL (o : Own h0 h L) (n : Nat) (e : L[n]? = some (i, l)) : isListD (.ref i) h = true := by rw [isListD_ref, o.atL n e]; rfl
theorem Own.setAt (o : Own h0 h L) (n : Nat) (e : L[n]? = some (i, l)) (l' : List D) : Own h0 (h.set i (.lst l')) (L.set n (i, l')) := by
  have hn : n < L.length := (List.getElem?_eq_some_iff.mp e).1
  have en : L[n] = (i, l) := (List.getElem?_eq_some_iff.mp e).2
  have hi : i < h.length := o.lt (List.mem_of_getElem? e)
  have h0i : h0.length ≤ i := (o.cell _ (List.mem_of_getElem? e)).1
  have em : (L.set n (i, l')).map (·.1) = L.map (·.1) := by
    rw [List.map_set]
    refine List.ext_getElem (by simp) fun k h1 h2 => ?_
    rw [List.getElem_set]
    split
    · rename_i q
      subst q
      rw [List.getElem_map, en]
    · rfl
  refine ⟨?_, fun q hq => ?_, by rw [em]; exact o.nd⟩
  · obtain ⟨t, rfl⟩ := o.pre
    rw [List.set_append_right _ _ h0i]
    exact List.prefix_append _ _
  · obtain ⟨k, hk, e2⟩ := List.mem_iff_getElem.mp hq
    rw [List.getElem_set] at e2
    split at e2
    · subst e2
      exact ⟨h0i, by simp [hi]⟩
    · rename_i hne
      have hk' : k < L.length := by simpa using hk
      have hm : q ∈ L := e2 ▸ List.getElem_mem hk'
      refine ⟨(o.cell q hm).1, ?_⟩
      rw [List.getElem?_set_ne]
      · exact (o.cell q hm).2
      · intro z
        have h1 : (L.map (·.1))[n]'(by simpa using hn) = (L.map (·.1))[k]'(by simpa using hk') := by
          rw [List.getElem_map, List.getElem_map, en, e2]
          exact z
        exact hne ((List.getElem_inj o.nd).mp h1)
theorem Own.trans (o : Own h0 h L) (o' : Own h h' M) : Own h0 h' (M ++ L) := by
  have o2 := o.ext o'.pre
  refine ⟨o2.pre, fun q hq => ?_, ?_⟩
  · rcases List.mem_append.mp hq with hq | hq
    · exact ⟨Nat.le_trans o.pre.length_le (o'.cell q hq).1, (o'.cell q hq).2⟩
    · exact o2.cell q hq
  · rw [List.map_append, List.nodup_append]
    refine ⟨o'.nd, o.nd, fun a ha b hb => ?_⟩
    obtain ⟨p, hp, rfl⟩ := List.mem_map.mp ha
    obtain ⟨q, hq, rfl⟩ := List.mem_map.mp hb
    have h1 := (o'.cell p hp).1
    have h2 := o.lt hq
    omega
theorem Own.sub (o : Own h0 h L) (s : M.Sublist L) : Own h0 h M := ⟨o.pre, fun p hp => o.cell p (s.subset hp), (s.map _).nodup o.nd⟩
theorem Own.tail {p : Nat × List D} (o : Own h0 h (p :: L)) : Own h0 h L := o.sub (List.sublist_cons_self _ _)
theorem Own.none (o : Own h0 h L) : Own h0 h [] := o.sub (List.nil_sublist _)
theorem Own.head {p : Nat × List D} (o : Own h0 h (p :: L)) : Own h0 h [p] := o.sub (List.Sublist.cons_cons _ (List.nil_sublist _))
theorem Own.ne (o : Own h0 h L) {a b : Nat} {p q : Nat × List D} (ha : L[a]? = some p) (hb : L[b]? = some q) (n : a ≠ b) : p.1 ≠ q.1 := by
  intro z
  have h1 := (List.getElem?_eq_some_iff.mp ha)
  have h2 := (List.getElem?_eq_some_iff.mp hb)
  refine n ((List.getElem_inj o.nd (i := a) (j := b) (h₀ := by simpa using h1.1) (h₁ := by simpa using h2.1)).mp ?_)
  rw [List.getElem_map, List.getElem_map, h1.2, h2.2]
  exact z
/-! rules -/
variable {Q : D → MH → Prop} {E : XE}
theorem o_new {xs : List D} (o : Own h0 h L) (l : xs.length ≤ 1000000) (q : ∀ i h', Own h0 h' ((i, xs) :: L) → Q (.ref i) h') : Sat (toLst xs h) Q E := w_toLst l (q _ _ (o.alloc xs))
theorem o_app {d : D} (o : Own h0 h L) (n : Nat) (e : L[n]? = some (i, l)) (c : l.length < 1000000) (q : ∀ h', Own h0 h' (L.set n (i, l ++ [d])) → Q .non h') : Sat (dAppend (.ref i) [d] h) Q E := w_app (o.at n e) c (q _ (o.setAt n e _))
theorem o_sl {lo hi : Option Int} (o : Own h0 h L) (hl : Mi.getL h i = some l) (q : ∀ i h', Own h0 h' ((i, cutD l lo hi) :: L) → Q (.ref i) h') : Sat (dSl (.ref i) lo hi h) Q E := w_slL hl (q _ _ (o.alloc _))
theorem o_list (o : Own h0 h L) (hl : Mi.getL h i = some l) (q : ∀ i h', Own h0 h' ((i, l) :: L) → Q (.ref i) h') : Sat (dList [.ref i] h) Q E := w_listL hl (q _ _ (o.alloc _))
theorem o_add {j : Nat} {m : List D} (o : Own h0 h L) (hi : h[i]? = some (.lst l)) (hj : h[j]? = some (.lst m)) (c : l.length + m.length ≤ 1000000) (q : ∀ i h', Own h0 h' ((i, l ++ m) :: L) → Q (.ref i) h') : Sat (dAdd (.ref i) (.ref j) h) Q E := w_addL hi hj c (q _ _ (o.alloc _))
theorem o_sortS {ys : List Str} (o : Own h0 h L) (e : Mi.getL h i = some (ys.map .str)) (c : ys.length < 64) (q : ∀ i h', Own h0 h' ((i, (sortS ys).map .str) :: L) → Q (.ref i) h') : Sat (dSorted [.ref i] h) Q E := w_sortS e c (q _ _ (o.alloc _))
theorem o_set {QU : Unit → MH → Prop} {k : Int} {m : Nat} {d : D} (o : Own h0 h L) (n : Nat) (e : L[n]? = some (i, l)) (c : ixN l.length k = some m) (q : ∀ h', Own h0 h' (L.set n (i, l.set m d)) → QU () h') : Sat (dSet (.ref i) (.int k) d h) QU E := w_set (o.at n e) c (q _ (o.setAt n e _))
/-- a comprehension whose parts change nothing -/
theorem o_comp {gd : MH → Bool} {tg : MG} {te : ME} {ρ : Slots} (P : Nat → D → Prop) {items : List D} (o : Own h0 h L) (hl : items.length ≤ 1000000)
    (hg : ∀ h', h <+: h' → gd h' = true)
    (hs : ∀ i d h', items[i]? = some d → h <+: h' → ∃ ρ1, tg d ρ = some ρ1 ∧ Sat (te ρ1 h') (fun y h2 => h2 = h' ∧ P i y) noX)
    (hn : ∀ ys : List D, ys.length = items.length → (∀ i y, ys[i]? = some y → P i y) → ∀ i h', Own h0 h' ((i, ys) :: L) → Q (.ref i) h') : Sat (lcGo gd tg mYes te h.length ρ items (h ++ [.lst []])) Q E :=
  w_compP P hl (fun t => hg _ (List.prefix_append _ _)) (fun i d t hd => hs i d _ hd (List.prefix_append _ _)) fun ys hy hp => hn ys hy hp _ _ (o.alloc ys)
end
end Mi

/-! Exceptions: raised with a field or none, caught, kept in a name, asked for their class and field. -/
namespace Mi
open PySem L2 PySem.Spec PyProof.Rows
section
variable {X : Cx} {pins : List (Addr × Obj)} {σ : L2.St} {H : Hp} {s : Shared}
end
/-- what a clause wishes that keeps the exception: slot i is the clause's name, slot j the one that keeps it -/
def wKeep (K : PySem.W.Frag) (c : Value) (i j : Nat) (Wo : WX) (D : Ends) : WX := fun cls d σ H =>
  ∃ b C, cls = .ref C ∧ PySem.W.exmOne K cls c = some b ∧ (b = true → ∀ p, H p = none → D.nx (((σ.set i (some (.ref p))).set j (some (.ref p))).set i none) (upd H p (XOk C d p))) ∧ (b = false → Wo cls d σ H)
section
variable {X : Cx} {x n r : Str} {c : Value} {i j : Nat} {body : List Stmt} {qn q0 q1 q2 q3 q4 : Pos} {tb : WX → TS} {Wo : WX}
end

/-! ### what a class of exceptions must say -/
structure ClsX (K : PySem.W.Frag) (C : Addr) : Prop where
  cl : (PySem.W.clsIn K C).isSome = true
  ga : PySem.W.findIn K (.ref C) "__getattribute__" = some (some (.builtin "BaseException.__getattribute__"))
  gg : PySem.W.findIn K (.ref C) "__getattr__" = some none
  sb : PySem.W.subIn K (.ref C) (.type "BaseException") = some true
  ca : PySem.W.findIn K (.ref C) "__class__" = some (some (.builtin "object.__class__"))
  cg : PySem.W.specialIn K (.builtin "object.__class__") "__get__" = some (some (.builtin "getset_descriptor.__get__"))
  ct : PySem.W.takesIn K (.builtin "object.__class__") = some true
  mo : PySem.W.mroIn K C (.type "object") = some true
  hd : PySem.W.hasDictIn K C = true
  ty : PySem.W.typeIn K (.ref C) = some (.type "type")
  kp : PySem.W.keepIn K (.ref C) = true
def clsXB (K : PySem.W.Frag) (C : Addr) : Bool :=
  (PySem.W.clsIn K C).isSome && (decide (PySem.W.findIn K (.ref C) "__getattribute__" = some (some (.builtin "BaseException.__getattribute__"))) && (decide (PySem.W.findIn K (.ref C) "__getattr__" = some none) &&
  (decide (PySem.W.subIn K (.ref C) (.type "BaseException") = some true) && (decide (PySem.W.findIn K (.ref C) "__class__" = some (some (.builtin "object.__class__"))) &&
  (decide (PySem.W.specialIn K (.builtin "object.__class__") "__get__" = some (some (.builtin "getset_descriptor.__get__"))) && (decide (PySem.W.takesIn K (.builtin "object.__class__") = some true) &&
  (decide (PySem.W.mroIn K C (.type "object") = some true) && (PySem.W.hasDictIn K C && (decide (PySem.W.typeIn K (.ref C) = some (.type "type")) && PySem.W.keepIn K (.ref C))))))))))
/-- the classes in a table, each with a truth -/
def TabX (K : PySem.W.Frag) (l : List (Str × Bool)) (f : Addr → Bool → Prop) : Prop := ∀ c b C, l.lookup c = some b → cmOf K c = some C → ClsX K C ∧ f C b
def tabXB (K : PySem.W.Frag) (l : List (Str × Bool)) (f : Addr → Bool → Bool) : Bool := l.all fun p => match cmOf K p.1 with
  | some C => clsXB K C && f C p.2
  | none => false
/-! ### caught and kept -/
def xoOf (c : Str) : List (Str × D) → Option D
  | [] => some (.xo c (Str.ofString "") .non)
  | [(f, v)] => some (.xo c f v)
  | _ => none
def mTryK (tab : List (Str × Bool)) (i j : Nat) (b : MS) : MS := fun ρ h => match b ρ h with
  | .exc c fs ρ1 h1 => match tab.lookup c with
    | some true => match xoOf c fs with
      | some d => .nx (((ρ1.set i none).set j (some d)).set i none) h1
      | none => .bad
    | some false => .exc c fs ρ1 h1
    | none => .bad
  | o => o
section
variable {K : PySem.W.Frag} {H : Hp} {μ : List Addr} {h : MH}
end

section
variable {X : Cx} {x n r : Str} {c : Value} {i j : Nat} {body : List Stmt} {qn q0 q1 q2 q3 q4 : Pos} {mb : MS} {W : WX} {tab : List (Str × Bool)}
end

/-! ### the field of a kept exception -/
def tXk (K : PySem.W.Frag) (f : Str) (te : TE) : TE := fun σ H Q => te σ H fun x H1 => ∃ (p C dd : Addr) (fv : List (Str × V)) (v : V), x = .ref p ∧ H1 p = some (XOk C (some dd) p) ∧ H1 dd = some (.xd fv) ∧ fv.lookup f = some v ∧ ClsX K C ∧ PySem.W.findIn K (.ref C) f = some none ∧ Q v H1
def mXf (cs : List Str) (f : Str) (a : ME) : ME := fun ρ h => (a ρ h).bind fun x h1 => match x with
  | .xo c f' v => if c ∈ cs ∧ f' = f ∧ f ≠ Str.ofString "" then .ok v h1 else .bad
  | _ => .bad
/-! ### isinstance of a kept exception -/
def XAt (H : Hp) (p C : Addr) : Prop := ∃ d, H p = some (XOk C d p) ∧ (d = none ∨ ∃ dd fv, d = some dd ∧ H dd = some (.xd fv))
def Det (c : V) (u : Value) : Prop := ∀ w, RelV c w → w = u
def rIsXk (K : PySem.W.Frag) : List V → Hp → VK → Prop := fun xs H Q => ∃ (p C : Addr) (c : V) (cv : Value) (b : Bool), xs = [.ref p, c] ∧ XAt H p C ∧ Det c cv ∧ ClsX K C ∧ PySem.W.kitOne K (.ref C) cv = some b ∧ Q (.bl b) H
def rIsXt (K : PySem.W.Frag) : List V → Hp → VK → Prop := fun xs H Q => ∃ (p C tp : Addr) (o : Obj) (cs : List V) (cv : List Value) (b : Bool), xs = [.ref p, .ref tp] ∧ XAt H p C ∧ H tp = some (.frz o (.tup cs)) ∧ Paired Det cs cv ∧ ClsX K C ∧ PySem.W.kitAny K (.ref C) cv = some b ∧ Q (.bl b) H
def mIsX (tab : List (Str × Bool)) (a : ME) : ME := fun ρ h => (a ρ h).bind fun x h1 => match x with
  | .xo c _ _ => match tab.lookup c with
    | some b => .ok (.bl b) h1
    | none => .bad
  | _ => .bad
section
variable {X : Cx} {W : WX} {a : Expr} {ma : ME} {p p2 p3 pos : Pos} {y : Str} {tab : List (Str × Bool)}
/-- names of classes -/
inductive NmX (X : Cx) : List Expr → List V → List Value → Prop
  | nil : NmX X [] [] []
  | cons {y : Str} {p : Pos} {D : Addr} {es : List Expr} {vs : List V} {us : List Value} : PE X (.Name y p) (tC (.ref D)) → starEach (.Name y p :: es) X.env = (false, eval (.Name y p) X.env) :: starEach es X.env → NmX X es vs us → NmX X (.Name y p :: es) (.ref D :: vs) (.ref D :: us)
theorem NmX.pa : ∀ {es : List Expr} {vs : List V} {us : List Value}, NmX X es vs us → PA X es (fun σ H Q => Q vs H) ∧ Paired Det vs us ∧ vs.length = es.length
  | _, _, _, .nil => ⟨pa_mono pa_nil fun _ _ _ q => q, .nil, rfl⟩
  | _, _, _, .cons a b c => by
    obtain ⟨h1, h2, h3⟩ := c.pa
    exact ⟨pa_mono (pa_cons a h1 b) fun _ _ _ q => q, .cons (fun w r => r) h2, by simp [h3]⟩
end
end Mi

/-! Raising: a class with one field, a class without. -/
namespace Mi
open PySem L2 PySem.Spec PyProof.Rows
def spInit (K : PySem.W.Frag) (f : Str) : Sp := fun vs H Q _ => ∃ (p C : Addr) (y : V), vs = [.ref p, y] ∧ OexC K C ∧ PySem.W.findIn K (.ref C) f = some none ∧ H p = some (exo p C none) ∧
  ∀ dx, H dx = none → dx ≠ p → Q .non (upd (upd H dx (exd dx [(f, y)])) p (exo p C (some dx)))
section
variable {P : Program} {w : World} {K : PySem.W.Frag} {mg : Str → Option Value} {base : Heap}
theorem xi_fn {x qual f : Str} {st : Stmt} {fI : Addr} {fd : FuncData} (F : Fun K x qual st fI fd) (S : FnScope ["self", f] ["self", f] (defScope st))
    (hb : ∀ (cdv : Value) (A : Around) (outer : List Env) (s : Shared) (H : Hp) (E : XK), PSs (cxOf (L2.CX P w) P w K mg base ["self", f] qual (defScope st) fI cdv A outer s H E) (defBody st) (tOst K f (tVar 0) (tVar 1))) :
    FnOk P w K mg base (L2.CX P w) 1 fI fd ["self", f] (spInit K f) :=
  F.okX S (fun vs H Q E h => by obtain ⟨_, _, _, rfl, _⟩ := h; rfl) fun cdv A outer s H vs Q E hr h => ⟨_, hb cdv A outer s H E, by
    obtain ⟨p, C, y, rfl, T, hno, e, q⟩ := h
    exact ⟨y, rfl, .ref p, rfl, p, C, rfl, T, hno, .inl ⟨e, fun dx n ne => q dx n ne⟩⟩⟩
/-- a class with one field -/
def XI (P : Program) (w : World) (K : PySem.W.Frag) (mg : Str → Option Value) (base : Heap) (c f : Str) : Prop := ∃ (C fI : Addr) (fd : FuncData), cmOf K c = some C ∧ mg c = some (.ref C) ∧ OexC K C ∧
  PySem.W.findIn K (.ref C) "__init__" = some (some (.ref fI)) ∧ PySem.W.typeIn K (.ref fI) = some (.type "function") ∧ PySem.W.findIn K (.ref C) f = some none ∧ FnOk P w K mg base (L2.CX P w) 1 fI fd ["self", f] (spInit K f) ∧ Binds K fd ["self", f] []
/-- a class without -/
def X0 (K : PySem.W.Frag) (mg : Str → Option Value) (c : Str) : Prop := ∃ C : Addr, cmOf K c = some C ∧ mg c = some (.ref C) ∧ PySem.W.excIn K C [.type "ValueError", .type "Exception", .type "BaseException", .type "object"] "ValueError.__new__" = true ∧
  PySem.W.keepIn K (.ref C) = true ∧ PySem.W.subIn K (.ref C) (.type "BaseException") = some true ∧ PySem.W.typeIn K (.ref C) = some (.type "type")
end
def mRaise (c f : Str) (a : ME) : MS := fun ρ h => (a ρ h).out ρ fun d h1 => .exc c [(f, d)] ρ h1
def mRaise0 (c : Str) : MS := fun ρ h => .exc c [] ρ h
theorem passF {X : Cx} : Passes (L2.CX X.prog X.w) X (fun _ _ _ => False) := fun pins σ H s e s' I c => by
  obtain ⟨_, _, _, _, _, _, _, _, _, _, _, _, z⟩ := c
  exact z.elim
theorem made_heap {H : Hp} {p dx C : Addr} {f : Str} {y : V} (np : H p = none) (ne : dx ≠ p) : upd (del (upd (upd (upd H p (exo p C none)) dx (exd dx [(f, y)])) p (exo p C (some dx))) p) dx (.xd [(f, y)]) = upd H dx (.xd [(f, y)]) := by
  funext b
  by_cases h1 : b = dx
  · subst h1
    rw [upd_same, upd_same]
  · rw [upd_ne h1, upd_ne h1]
    by_cases h2 : b = p
    · subst h2
      rw [del_same, np]
    · rw [del_ne h2, upd_ne h2, upd_ne h1, upd_ne h2]
section
variable {X : Cx} {W : WX} {e : Expr} {me : ME} {c f m : Str} {p p2 pos pos2 : Pos} {j : Nat}
theorem sx_raise (I : XI X.prog X.w X.K X.mg X.base c f) (hr : Room 2 X.A) (tk : Takes X W) (he : PE X e (tE (gOf X.w X.K) W me)) (hc : X.calm = true := by rfl) (hg : Gl X c := by rfl) (hdb : (c == ("__debug__" : Str)) = false := by decide)
    (s1 : starEach [e] X.env = (false, eval e X.env) :: starEach [] X.env := by rfl) (hpl : (backTo pos (starEach [] X.env)).any (·.1) = false := by rfl) :
    PS X (.Raise (some (.Call (.Name c p) [e] [] pos)) none pos2) (tS (gOf X.w X.K) W (mRaise c f me)) := by
  obtain ⟨C, fI, fd, cm, hm, T, iC, tI, hno, F1, hb⟩ := I
  refine ps_mono (ps_raise hc tk (pmk_oex (dvs := []) T iC tI F1 hr hb .nil passF hg hm (pa_cons he pa_nil s1) hdb s1 hpl)) fun E σ H ⟨ρ, h, μ, sr, hr', bk⟩ => ?_
  refine stepS (rel := VR) (ma := me) (E := E) sr hr' bk fun v d h1 H1 μ1 m1 sr1 hr1 vx bk1 => ?_
  refine ⟨by show 1 ≤ 1000; decide, fun q nq => ⟨q, C, v, rfl, T, hno, upd_same, fun dx nx ne => ⟨rfl, dx, [(f, v)], upd_same, ?_, ?_, ?_⟩⟩⟩
  · rw [upd_ne ne, upd_same]
  · rw [upd_ne ne] at nx; exact nx
  · rw [made_heap nq ne]
    rw [upd_ne ne] at nx
    have m2 : Mon (gOf X.w X.K) H1 (upd H1 dx (.xd [(f, v)])) μ1 μ1 := (Saf.fresh nx).mon
    exact bk1 _ _ σ _ μ1 m2 (sr1.mono m2) (hr1.laid nx) ⟨C, rfl, cm, .inr ⟨dx, _, by simp, rfl, upd_same, .cons (vx.mono m2) .nil⟩⟩
end
/-! ### tables by truths -/
section
variable {K : PySem.W.Frag} {h : Heap} {mg : Str → Option Value}
/-- the class y, as isinstance and except ask for it -/
def IsT (K : PySem.W.Frag) (mg : Str → Option Value) (y : Str) (l : List (Str × Bool)) : Prop := ∃ D, mg y = some (.ref D) ∧ TabX K l fun C b => PySem.W.kitOne K (.ref C) (.ref D) = some b
def ExT (K : PySem.W.Frag) (mg : Str → Option Value) (y : Str) (l : List (Str × Bool)) : Prop := ∃ D, mg y = some (.ref D) ∧ TabX K l fun C b => PySem.W.exmOne K (.ref C) (.ref D) = some b
def isTB (K : PySem.W.Frag) (y : Str) (l : List (Str × Bool)) : Bool := match cmOf K y with
  | some D => tabXB K l fun C b => PySem.W.kitOne K (.ref C) (.ref D) == some b
  | none => false
def exTB (K : PySem.W.Frag) (y : Str) (l : List (Str × Bool)) : Bool := match cmOf K y with
  | some D => tabXB K l fun C b => PySem.W.exmOne K (.ref C) (.ref D) == some b
  | none => false
/-- a built-in class -/
def IsB (K : PySem.W.Frag) (y : String) (l : List (Str × Bool)) : Prop := TabX K l fun C b => PySem.W.kitOne K (.ref C) (.type y) = some b
def isBB (K : PySem.W.Frag) (y : String) (l : List (Str × Bool)) : Bool := tabXB K l fun C b => PySem.W.kitOne K (.ref C) (.type y) == some b
/-- several classes -/
def refsOf (K : PySem.W.Frag) : List Str → Option (List Addr)
  | [] => some []
  | y :: r => match cmOf K y, refsOf K r with
    | some D, some l => some (D :: l)
    | _, _ => none
def IsTs (K : PySem.W.Frag) (mg : Str → Option Value) (ys : List Str) (l : List (Str × Bool)) : Prop := ∃ Ds : List Addr, Paired (fun y D => mg y = some (.ref D)) ys Ds ∧ TabX K l fun C b => PySem.W.kitAny K (.ref C) (Ds.map .ref) = some b
def isTsB (K : PySem.W.Frag) (ys : List Str) (l : List (Str × Bool)) : Bool := match refsOf K ys with
  | some Ds => tabXB K l fun C b => PySem.W.kitAny K (.ref C) (Ds.map .ref) == some b
  | none => false
/-- a field -/
def FlT (K : PySem.W.Frag) (f : Str) (cs : List Str) : Prop := ∀ c ∈ cs, ∀ C, cmOf K c = some C → ClsX K C ∧ PySem.W.findIn K (.ref C) f = some none
def flTB (K : PySem.W.Frag) (f : Str) (cs : List Str) : Bool := cs.all fun c => match cmOf K c with
  | some C => clsXB K C && decide (PySem.W.findIn K (.ref C) f = some none)
  | none => false
/-- a class without fields, to be raised -/
def x0B (K : PySem.W.Frag) (c : Str) : Bool := match cmOf K c with
  | some C => PySem.W.excIn K C [.type "ValueError", .type "Exception", .type "BaseException", .type "object"] "ValueError.__new__" && (PySem.W.keepIn K (.ref C) && (decide (PySem.W.subIn K (.ref C) (.type "BaseException") = some true) && decide (PySem.W.typeIn K (.ref C) = some (.type "type"))))
  | none => false
theorem xi_mk {P : Program} {w : World} {base : Heap} {c f qual : Str} {st : Stmt} {C fI : Addr} {oc : Value} {od an : Option Addr} {osl : Array (Option Value)} {kV doc pm cdv ct : Value}
    (X : K.In h) (G : h.Ns mainGlobals mg) (a : PySem.W.nsIn K mainGlobals c = some (some (.ref C))) (hcls : OexC K C) (iC : PySem.W.findIn K (.ref C) "__init__" = some (some (.ref fI))) (tI : PySem.W.typeIn K (.ref fI) = some (.type "function")) (hno : PySem.W.findIn K (.ref C) f = some none)
    (l : K.lookup fI = some ⟨oc, od, .func (PySem.W.fnOf "__init__" qual (defArgs st) (defBody st) (defScope st) .none kV doc pm an cdv ct), osl⟩) (e : PySem.W.codeIn K cdv qual = true) (k : PySem.W.keepIn K (.ref fI) = true)
    (S : FnScope ["self", f] ["self", f] (defScope st))
    (hb : ∀ (fd : FuncData), Fun K "__init__" qual st fI fd → ∀ (cdv : Value) (A : Around) (outer : List Env) (s : Shared) (H : Hp) (E : XK), PSs (cxOf (L2.CX P w) P w K mg base ["self", f] qual (defScope st) fI cdv A outer s H E) (defBody st) (tOst K f (tVar 0) (tVar 1)))
    (hbn : ∀ (kV doc pm : Value) (an : Option Addr) (cdv ct : Value) (us : List Value), us.length = 2 → bindArgs (PySem.W.fnOf "__init__" qual (defArgs st) (defBody st) (defScope st) .none kV doc pm an cdv ct) ⟨us, []⟩ = pure ((["self", f] : List Str).zip us)) : XI P w K mg base c f := by
  have F := fun_mk (st := st) l e k
  exact ⟨C, fI, _, by unfold cmOf; rw [a], PySem.W.mg_of X G a, hcls, iC, tI, hno, xi_fn F S (hb _ F), F.binds hbn⟩
end

/-- a class over ValueError whose instances get fields -/
def oexB (K : PySem.W.Frag) (C : Addr) : Bool := (match K.lookup C with
  | some ⟨.type "type", _, .cls cd, sl⟩ => (match cd.mro, sl.toList with
    | .ref D :: bm, [_, _, _, _, some (.builtin n), _] => (D == C && (n == "ValueError.__new__" && (!cd.hasDel && (cd.hasDict && PySem.HandSPX.refsVE bm))))
    | _, _ => false)
  | _ => false) && (decide (PySem.W.findIn K (.ref C) "__setattr__" = some (some (.builtin "object.__setattr__"))) && (decide (PySem.W.subIn K (.ref C) (.type "BaseException") = some true) && (decide (PySem.W.typeIn K (.ref C) = some (.type "type")) && PySem.W.keepIn K (.ref C))))
theorem oexB_ok {K : PySem.W.Frag} {C : Addr} (h : oexB K C = true) : OexC K C := by
  unfold oexB at h
  obtain ⟨h, h'⟩ := Bool.and_eq_true_iff.mp h
  simp only [Bool.and_eq_true, decide_eq_true_eq] at h'
  obtain ⟨h1, h2, h3, h4⟩ := h'
  refine ⟨?_, h1, h2, h3, h4⟩
  split at h
  · rename_i dd cd sl ho
    split at h
    · rename_i D bm k0 k1 k2 k3 n k5 hm hs
      simp only [Bool.and_eq_true, beq_iff_eq, Bool.not_eq_true'] at h
      obtain ⟨rfl, rfl, hdel, hdd, hre⟩ := h
      obtain ⟨nm, bs, mro, ns, qn, hd, sn, sub, ab, col, del⟩ := cd
      dsimp only at hm hdel hdd
      subst hm hdel hdd
      have hsl : sl = #[k0, k1, k2, k3, some (.builtin "ValueError.__new__"), k5] := by
        obtain ⟨l⟩ := sl
        simp only at hs
        rw [hs]
      subst hsl
      exact ⟨nm, qn, ns, bs, bm, sn, sub, ab, col, dd, k0, k1, k2, k3, k5, ho, hre⟩
    · cases h
  · cases h
def inner (s : Stmt) (j : Nat) : Stmt := match s with
  | .ClassDef (body := b) .. => b.getD j (.Pass ⟨0, 0, 0, 0⟩)
  | _ => .Pass ⟨0, 0, 0, 0⟩
/-! ### as the generator writes them -/
section
variable {X : Cx} {W : WX} {a : Expr} {ma : ME} {x y n r : Str} {i j : Nat} {body : List Stmt} {mb : MS} {tab : List (Str × Bool)} {p p2 pos qn q0 q1 q2 q3 q4 : Pos}
inductive NmE (X : Cx) : List Expr → List Str → Prop
  | nil : NmE X [] []
  | cons {y : Str} {p : Pos} {es : List Expr} {ys : List Str} : Gl X y → (y == ("__debug__" : Str)) = false → starEach (.Name y p :: es) X.env = (false, eval (.Name y p) X.env) :: starEach es X.env → NmE X es ys → NmE X (.Name y p :: es) (y :: ys)
theorem NmE.of : ∀ {es : List Expr} {ys : List Str} {Ds : List Addr}, NmE X es ys → Paired (fun y D => X.mg y = some (.ref D)) ys Ds → NmX X es (Ds.map .ref) (Ds.map .ref)
  | _, _, _, .nil, .nil => .nil
  | _, _, _, .cons a b c d, .cons e f => .cons (pe_glob a e rfl b) c (NmE.of d f)
end
end Mi

/-! The calculus for exceptions. -/
namespace Mi
open PySem L2
def isXK (tab : List (Str × Bool)) (x : D) (h : MH) : R D := match x with
  | .xo c _ _ => match tab.lookup c with
    | some b => .ok (.bl b) h
    | none => .bad
  | _ => .bad
def xfK (cs : List Str) (f : Str) (x : D) (h : MH) : R D := match x with
  | .xo c f' v => if c ∈ cs ∧ f' = f ∧ f ≠ Str.ofString "" then .ok v h else .bad
  | _ => .bad
def tryE (tab : List (Str × Bool)) (i j : Nat) (N : SP) (E : SX) : SX := fun c fs ρ h => match tab.lookup c with
  | some true => ∃ d, xoOf c fs = some d ∧ N (((ρ.set i none).set j (some d)).set i none) h
  | some false => E c fs ρ h
  | none => False
section
variable {N : SP} {T : D → MH → Prop} {B C : SP} {E : SX} {ρ : Slots} {h : MH} {a : ME} {b : MS} {c f : Str}
theorem w_raise (q : Sat (a ρ h) (fun d h1 => E c [(f, d)] ρ h1) fun x fs h => E x fs ρ h) : OS (mRaise c f a ρ h) N T B C E := Sat.ot (q.monoE (fun _ _ z => by rw [OS_exc]; exact z) fun _ _ _ z => z)
theorem w_raise0 (q : E c [] ρ h) : OS (mRaise0 c ρ h) N T B C E := by unfold mRaise0; rw [OS_exc]; exact q
theorem w_tryK {tab : List (Str × Bool)} {i j : Nat} (q : OS (b ρ h) N T B C (tryE tab i j N E)) : OS (mTryK tab i j b ρ h) N T B C E := by
  unfold mTryK
  cases e : b ρ h with
  | exc c fs ρ1 h1 =>
    rw [e, OS_exc] at q
    unfold tryE at q
    dsimp only
    split at q
    · rename_i l
      obtain ⟨d, e1, q⟩ := q
      (try rw [l])
      (try dsimp only)
      (try rw [e1])
      exact w_nx q
    · rename_i l
      (try rw [l])
      (try dsimp only)
      rw [OS_exc]
      exact q
    · exact q.elim
  | nx _ _ => rw [e, OS_nx] at q; exact w_nx q
  | rt _ _ => rw [e, OS_rt] at q; exact w_rt q
  | bk _ _ => rw [e, OS_bk] at q; exact w_bk q
  | ct _ _ => rw [e, OS_ct] at q; exact w_ct q
  | bad => rw [e, OS_bad] at q; exact q.elim
variable {Q : D → MH → Prop} {X : XE}
theorem w_isX {tab : List (Str × Bool)} (q : Sat (a ρ h) (fun x h1 => Sat (isXK tab x h1) Q X) X) : Sat (mIsX tab a ρ h) Q X := Sat.bnd q
theorem w_isXK {tab : List (Str × Bool)} {v : D} {k : Bool} (l : tab.lookup c = some k) (q : Q (.bl k) h) : Sat (isXK tab (.xo c f v) h) Q X := w_eq (by simp only [isXK, l]) q
theorem w_xf {cs : List Str} (q : Sat (a ρ h) (fun x h1 => Sat (xfK cs f x h1) Q X) X) : Sat (mXf cs f a ρ h) Q X := Sat.bnd q
theorem w_xfK {cs : List Str} {v : D} (l : c ∈ cs) (n : f ≠ Str.ofString "") (q : Q v h) : Sat (xfK cs f (.xo c f v) h) Q X := w_eq (by unfold xfK; exact if_pos ⟨l, rfl, n⟩) q
theorem isN_xo {c f : Str} {v : D} (h : MH) : dIsN (.xo c f v) .non h = .ok (.bl false) h := by unfold dIsN; simp
end
theorem w_lenLm {α : Type} {f : α → D} {l : List α} {Q : D → MH → Prop} {E : XE} {h : MH} {i : Nat} (c : getL h i = some (l.map f)) (q : Q (.int l.length) h) : Sat (dLen [.ref i] h) Q E := w_lenL c (by rw [List.length_map]; exact q)
theorem w_lenTm {α : Type} {f : α → D} {l : List α} {Q : D → MH → Prop} {E : XE} {h : MH} (q : Q (.int l.length) h) : Sat (dLen [.tup (l.map f)] h) Q E := w_eq (dLen_tup _ _) (by rw [List.length_map]; exact q)
theorem dNe_strs (x y : Str) (h : MH) : dNe (.str x) (.str y) h = .ok (.bl (!decide (x = y))) h := dNe_of (by unfold eqD; simp [scalD])
theorem dEq_bls (x y : Bool) (h : MH) : dEq (.bl x) (.bl y) h = .ok (.bl (decide (x = y))) h := dEq_of (by unfold eqD; simp [scalD])
theorem dNe_bls (x y : Bool) (h : MH) : dNe (.bl x) (.bl y) h = .ok (.bl (!decide (x = y))) h := dNe_of (by unfold eqD; simp [scalD])
theorem w_iterL {QI : List D × (MH → Bool) → MH → Prop} {E : XE} {h : MH} {i : Nat} {l : List D} (e : getL h i = some l) (q : QI (l, fun h' => decide (getL h' i = some l)) h) : Sat (iter1 (.ok (.ref i) h)) QI E := w_eq (iter1_ref _ _ _ e) q
end Mi

/-! except without a name; walks from the end. -/
namespace Mi
open PySem L2
def mTryO (tab : List (Str × Bool)) (b s : MS) : MS := fun ρ h => match b ρ h with
  | .exc c fs ρ1 h1 => match tab.lookup c with
    | some true => s ρ1 h1
    | some false => .exc c fs ρ1 h1
    | none => .bad
  | o => o
section
variable {X : Cx} {x : Str} {body suite : List Stmt} {b0 : Stmt} {qn q0 q4 : Pos} {mb ms : MS} {W : WX} {tab : List (Str × Bool)}
end
def tryO (tab : List (Str × Bool)) (s : MS) (N : SP) (T : D → MH → Prop) (B C : SP) (E : SX) : SX := fun c fs ρ h => match tab.lookup c with
  | some true => OS (s ρ h) N T B C E
  | some false => E c fs ρ h
  | none => False
theorem br_b {p A B R : Prop} (b : B) (r : p → B → R) : Br p R (Br (false = true) A B) := ⟨fun n => r n b, fun _ => br_ff b⟩

theorem lkA {x : Str} {k : Bool} {l : List (Str × Bool)} : List.lookup x ((x, k) :: l) = some k := by simp [List.lookup]
theorem lkB {x y : Str} {b : Bool} {l : List (Str × Bool)} {r : Option Bool} (h : (x == y) = false) (q : List.lookup x l = r) : List.lookup x ((y, b) :: l) = r := by rw [List.lookup_cons, h]; exact q
end Mi

/-! Lists walked from the end; while by a measure. -/
namespace Mi
open PySem L2
def revK (x : D) (h1 : MH) : R (List D × (MH → Bool)) := match x with
  | .ref i => match getL h1 i with
    | some l => .ok (l.reverse, fun h' => decide (getL h' i = some l)) h1
    | none => .bad
  | _ => .bad
def mRevI (a : ME) : MI := fun ρ h => (a ρ h).bind fun x h1 => revK x h1
section
variable {X : Cx} {g : G} {W : WX} {e tg : Expr} {ma : ME} {p pos : Pos}
end
section
variable {N : SP} {T : D → MH → Prop} {B C : SP} {E : SX} {QI : List D × (MH → Bool) → MH → Prop} {X : XE}
theorem w_whGo {c : MT} {body : MS} (I : Nat → SP)
    (hs : ∀ m ρ h, I m ρ h → Sat (c ρ h) (fun b h1 => (b = true → OS (body ρ h1) (fun ρ' h' => ∃ m', m' < m ∧ I m' ρ' h') T N (fun ρ' h' => ∃ m', m' < m ∧ I m' ρ' h') E) ∧ (b = false → N ρ h1)) fun x fs h => E x fs ρ h) :
    ∀ (n m : Nat) (ρ : Slots) (h : MH), m < n → I m ρ h → OS (whGo c body n ρ h) N T B C E := by
  intro n
  induction n with
  | zero => intro m ρ h hm; omega
  | succ n ih =>
    intro m ρ h hm hi
    rw [whGo]
    refine Sat.ot ((hs m ρ h hi).monoE (fun b h1 q => ?_) fun _ _ _ z => z)
    cases b with
    | false =>
      rw [if_neg (by decide)]
      exact w_nx (q.2 rfl)
    | true =>
      rw [if_pos rfl]
      have q1 := q.1 rfl
      cases e : body ρ h1 with
      | nx ρ' h' =>
        rw [e, OS_nx] at q1
        obtain ⟨m', h1, h2⟩ := q1
        exact ih m' ρ' h' (by omega) h2
      | ct ρ' h' =>
        rw [e, OS_ct] at q1
        obtain ⟨m', h1, h2⟩ := q1
        exact ih m' ρ' h' (by omega) h2
      | bk ρ' h' => rw [e, OS_bk] at q1; exact w_nx q1
      | rt d h' => rw [e, OS_rt] at q1; exact w_rt q1
      | exc x fs ρ' h' => rw [e, OS_exc] at q1; simp only [OS_exc]; exact q1
      | bad => rw [e, OS_bad] at q1; exact q1.elim
theorem w_while {c : MT} {body : MS} {n : Nat} {ρ : Slots} {h : MH} (I : Nat → SP) (m : Nat) (hm : m < n) (hi : I m ρ h)
    (hs : ∀ m ρ h, I m ρ h → Sat (c ρ h) (fun b h1 => Br (b = true) (OS (body ρ h1) (fun ρ' h' => ∃ m', m' < m ∧ I m' ρ' h') T N (fun ρ' h' => ∃ m', m' < m ∧ I m' ρ' h') E) (N ρ h1)) fun x fs h => E x fs ρ h) : OS (mWhile n c body ρ h) N T B C E :=
  w_whGo I (fun m ρ h hi => (hs m ρ h hi).monoE (fun b h1 z => ⟨z.1, fun e => z.2 (by rw [e]; decide)⟩) fun _ _ _ z => z) n m ρ h hm hi
end

theorem allSome_nil {α : Type} {l : List (Option α)} {r : List α} (h : allSome l = some r) : (l = [] ↔ r = []) := by
  cases l with
  | nil => cases h; simp
  | cons a l =>
    cases a with
    | none => cases h
    | some a =>
      simp only [allSome, Option.map_eq_some_iff] at h
      obtain ⟨r', _, rfl⟩ := h
      simp
theorem eqD_emp {l : List D} {h : MH} {k : Bool} (e : eqD (.tup l) (.tup []) h = some k) : k = decide (l = []) := by
  unfold eqD at e
  rw [if_neg (by simp [scalD])] at e
  split at e
  · rename_i d e' q1 q2
    split at e
    · cases e
      simp only [pyOf, Option.map_eq_some_iff] at q1 q2
      obtain ⟨as, q1, rfl⟩ := q1
      obtain ⟨bs, q2, rfl⟩ := q2
      have h1 := allSome_nil q1
      have h2 := allSome_nil q2
      have hb : bs = [] := h2.mp rfl
      subst hb
      rw [List.map_eq_nil_iff] at h1
      cases as with
      | nil => simp [PyData.eqv, PyData.eqvAll, h1.mpr rfl]
      | cons a as =>
        have : l ≠ [] := fun z => by have := h1.mp z; cases this
        simp [PyData.eqv, PyData.eqvAll, this]
    · cases e
  · cases e
theorem dEq_emp (l : List D) (h : MH) : dEq (.tup l) (.tup []) h = .ok (.bl (decide (l = []))) h := by
  unfold dEq
  cases e : eqD (.tup l) (.tup []) h with
  | some k => simp only [eqD_emp e]
  | none =>
    have : emp2 (.tup l) (.tup []) = some (decide (l = [])) := by
      unfold emp2
      simp
    simp only [this]
theorem dNe_emp (l : List D) (h : MH) : dNe (.tup l) (.tup []) h = .ok (.bl (!decide (l = []))) h := by
  unfold dNe
  cases e : eqD (.tup l) (.tup []) h with
  | some k => simp only [eqD_emp e]
  | none =>
    have : emp2 (.tup l) (.tup []) = some (decide (l = [])) := by
      unfold emp2
      simp
    simp only [this]
end Mi

namespace Mi
open PySem L2
def m_names_c11ae : List D → MH → R D := mFun 1 7
 (mSeq (mAsg 1 (mC (.str (Str.ofString "abcdefghijklmnopqrstuvwxyz"))))
 (mSeq (mAsg 2 (mBin dMod (mVar 0) (mC (.int 26))))
 (mSeq (mAsg 3 (mMeth isStrD dJoin (mC (.str (Str.ofString ""))) (mCons (mLc (mRange1 (mC (.int 8))) (mgName 6) (mYes) (mBin dIx (mVar 1) (mBin dMod (mBin dAdd (mVar 2) (mBin dMul (mC (.int 3)) (mVar 6))) (mC (.int 26)))) [6]) (mNil))))
 (mSeq (mIf (mB (mBin dEq (mBin dMod (mBin dFdiv (mVar 0) (mC (.int 26))) (mC (.int 3))) (mC (.int 0))))
 (mSeq (mAsg 4 (mBin dMod (mBin dFdiv (mVar 0) (mC (.int 78))) (mC (.int 8))))
 (mSeq (mAsg 5 (mBin dMod (mBin dFdiv (mVar 0) (mC (.int 624))) (mC (.int 26))))
 (mRet (mLc (mRange1 (mC (.int 9))) (mgName 6) (mYes) (mBin dAdd (mBin dAdd (mSl (mVar 3) (mNo) (mSome (mVar 4))) (mBin dIx (mVar 1) (mBin dMod (mBin dAdd (mVar 5) (mVar 6)) (mC (.int 26))))) (mSl (mVar 3) (mSome (mBin dAdd (mVar 4) (mC (.int 1)))) (mNo))) [6]))))
 (mSkip))
 (mSeq (mIf (mB (mBin dEq (mBin dMod (mBin dFdiv (mVar 0) (mC (.int 26))) (mC (.int 3))) (mC (.int 1))))
 (mRet (mBin dAdd (mLc (mRange1 (mC (.int 8))) (mgName 6) (mYes) (mSl (mVar 3) (mNo) (mSome (mBin dAdd (mVar 6) (mC (.int 1))))) [6]) (mLst (mCons (mSl (mVar 3) (mSome (mC (.int 1))) (mNo)) (mNil)))))
 (mSkip))
 (mRet (mLc (mRange1 (mC (.int 9))) (mgName 6) (mYes) (mBin dIx (mVar 1) (mBin dMod (mBin dAdd (mVar 2) (mBin dMul (mC (.int 5)) (mVar 6))) (mC (.int 26)))) [6])))))))
def m_cell_at_2c4cb : List D → MH → R D := mFun 2 2
 (mSeq (mIf (mB (mBin dLt (mVar 1) (mCall dLen (mCons (mVar 0) (mNil)))))
 (mRet (mBin dIx (mVar 0) (mVar 1)))
 (mSkip))
 (mRet (mC (.int 0))))
def m_mix_1b9e1 : List D → MH → R D := mFun 2 3
 (mSeq (mAsg 2 (mBin dMod (mBin dMul (mBin dAdd (mBin dAdd (mVar 0) (mC (.int 1))) (mBin dMul (mVar 1) (mVar 1))) (mC (.int 48271))) (mC (.int 2147483629))))
 (mRet (mBin dMod (mBin dMul (mVar 2) (mBin dAdd (mBin dAdd (mBin dFdiv (mVar 2) (mC (.int 128))) (mBin dMul (mC (.int 69621)) (mVar 1))) (mC (.int 16807)))) (mC (.int 2147483587)))))
def m_tape_92891 : List D → MH → R D := mFun 2 5
 (mSeq (mAsg 2 (mLst (mNil)))
 (mSeq (mAsg 3 (mVar 0))
 (mSeq (mFor (mRange1 (mVar 1)) (mgName 4)
 (mIf (mB (mBin dGe (mVar 3) (mBin dPow (mC (.int 10)) (mC (.int 18)))))
 (mSeq (mDrop (mMeth isListD dAppend (mVar 2) (mCons (mBin dMod (mVar 3) (mC (.int 1000003))) (mNil))))
 (mAsg 3 (mBin dFdiv (mVar 3) (mC (.int 1000003)))))
 (mDrop (mMeth isListD dAppend (mVar 2) (mCons (mCall (m_mix_1b9e1) (mCons (mVar 0) (mCons (mVar 4) (mNil)))) (mNil))))))
 (mRet (mRevL (mVar 2))))))
def m_next_fea17 : List D → MH → R D := mFun 2 2
 (mSeq (mIf (mB (mBin dEq (mVar 0) (mLst (mNil))))
 (mRet (mC (.int 0)))
 (mSkip))
 (mRet (mBin dMod (mMeth isListD dPop (mVar 0) (mNil)) (mVar 1))))
def m_machine_8b383 : List D → MH → R D := mFun 4 17
 (mSeq (mAsg 4 (mCall (m_cell_at_2c4cb) (mCons (mVar 0) (mCons (mVar 1) (mNil)))))
 (mSeq (mAsg 5 (mBin dAdd (mC (.int 1)) (mBin dMod (mVar 4) (mVar 3))))
 (mSeq (mAsg 6 (mSl (mVar 2) (mNo) (mSome (mBin dMod (mBin dFdiv (mVar 4) (mC (.int 8))) (mC (.int 10))))))
 (mSeq (mAsg 7 (mCall dSorted (mCons (mSl (mSl (mVar 2) (mSome (mBin dMod (mBin dFdiv (mVar 4) (mC (.int 80))) (mC (.int 9)))) (mNo)) (mNo) (mSome (mBin dMod (mBin dFdiv (mVar 4) (mC (.int 720))) (mC (.int 5))))) (mNil))))
 (mSeq (mAsg 8 (mCall (m_tape_92891) (mCons (mCall (m_cell_at_2c4cb) (mCons (mVar 0) (mCons (mBin dAdd (mVar 1) (mC (.int 1))) (mNil)))) (mCons (mC (.int 5)) (mNil)))))
 (mSeq (mAsg 9 (mLc (mIter (mBin dAdd (mVar 7) (mLst (mCons (mC (.str (Str.ofString ""))) (mNil))))) (mgName 15) (mYes) (mCall (m_next_fea17) (mCons (mVar 8) (mCons (mVar 5) (mNil)))) [15]))
 (mSeq (mAsg 8 (mCall (m_tape_92891) (mCons (mCall (m_cell_at_2c4cb) (mCons (mVar 0) (mCons (mBin dAdd (mVar 1) (mC (.int 2))) (mNil)))) (mCons (mC (.int 66)) (mNil)))))
 (mSeq (mAsg 10 (mCall (m_next_fea17) (mCons (mVar 8) (mCons (mC (.int 5)) (mNil)))))
 (mSeq (mAsg 11 (mLst (mNil)))
 (mSeq (mFor (mRange1 (mVar 5)) (mgName 12)
 (mSeq (mAsg 14 (mLc (mRange1 (mVar 5)) (mgName 16) (mYes) (mCall (m_next_fea17) (mCons (mVar 8) (mCons (mVar 5) (mNil)))) [16]))
 (mSeq (mIf (mB (mBin dEq (mVar 10) (mC (.int 0))))
 (mAsg 14 (mLc (mRange1 (mVar 5)) (mgName 16) (mYes) (mBin dMod (mBin dAdd (mBin dAdd (mVar 12) (mVar 16)) (mC (.int 1))) (mVar 5)) [16]))
 (mSkip))
 (mSeq (mIf (mB (mBin dEq (mVar 10) (mC (.int 1))))
 (mAsg 14 (mLc (mRange1 (mVar 5)) (mgName 16) (mYes) (mCall dMax (mCons (mVar 12) (mCons (mVar 16) (mNil)))) [16]))
 (mSkip))
 (mSeq (mIf (mB (mBin dEq (mVar 10) (mC (.int 2))))
 (mAsg 14 (mLc (mRange1 (mVar 5)) (mgName 16) (mYes) (mCall dMin (mCons (mBin dAdd (mBin dAdd (mVar 12) (mC (.int 1))) (mBin dMul (mBin dMod (mBin dIx (mVar 14) (mC (.int 0))) (mC (.int 2))) (mVar 16))) (mCons (mBin dSub (mVar 5) (mC (.int 1))) (mNil)))) [16]))
 (mSkip))
 (mDrop (mMeth isListD dAppend (mVar 11) (mCons (mCall dTuple (mCons (mVar 14) (mNil))) (mNil)))))))))
 (mSeq (mAsg 8 (mCall (m_tape_92891) (mCons (mCall (m_cell_at_2c4cb) (mCons (mVar 0) (mCons (mBin dAdd (mVar 1) (mC (.int 3))) (mNil)))) (mCons (mC (.int 8)) (mNil)))))
 (mSeq (mAsg 13 (mLc (mRange1 (mVar 5)) (mgName 12) (mYes) (mCall (m_next_fea17) (mCons (mVar 8) (mCons (mBin dShl (mC (.int 1)) (mCall dLen (mCons (mVar 6) (mNil)))) (mNil)))) [12]))
 (mRet (mTup (mCons (mCall dTuple (mCons (mVar 6) (mNil))) (mCons (mCall dTuple (mCons (mVar 7) (mNil))) (mCons (mCall dTuple (mCons (mVar 9) (mNil))) (mCons (mCall dTuple (mCons (mVar 11) (mNil))) (mCons (mCall dTuple (mCons (mVar 13) (mNil))) (mNil))))))))))))))))))))
def m_wide_f688e : List D → MH → R D := mFun 2 9
 (mSeq (mAsg 2 (mCall (m_tape_92891) (mCons (mVar 1) (mCons (mC (.int 30)) (mNil)))))
 (mSeq (mAsg 3 (mCall (m_next_fea17) (mCons (mVar 2) (mCons (mC (.int 26)) (mNil)))))
 (mSeq (mAsg 4 (mLst (mNil)))
 (mSeq (mFor (mRange1 (mCall (m_next_fea17) (mCons (mVar 2) (mCons (mC (.int 21)) (mNil))))) (mgName 5)
 (mSeq (mAsg 7 (mBin dIx (mC (.str (Str.ofString "nopqrstuvwxyzabcdefghijklm"))) (mBin dMod (mBin dAdd (mVar 3) (mBin dMul (mC (.int 7)) (mVar 5))) (mC (.int 26)))))
 (mDrop (mMeth isListD dAppend (mVar 4) (mCons (mBin dAdd (mVar 7) (mBin dIx (mLst (mCons (mC (.str (Str.ofString ""))) (mCons (mC (.str (Str.ofString "a"))) (mNil)))) (mCall (m_next_fea17) (mCons (mVar 2) (mCons (mC (.int 2)) (mNil)))))) (mNil))))))
 (mSeq (mAsg 6 (mLc (mRange1 (mCall dLen (mCons (mBin dIx (mVar 0) (mC (.int 4))) (mNil)))) (mgName 8) (mYes) (mBin dMod (mBin dAdd (mBin dMul (mCall (m_next_fea17) (mCons (mVar 2) (mCons (mC (.int 1048576)) (mNil)))) (mC (.int 1048573))) (mBin dMul (mC (.int 7)) (mVar 8))) (mBin dShl (mC (.int 1)) (mCall dLen (mCons (mVar 4) (mNil))))) [8]))
 (mRet (mTup (mCons (mCall dTuple (mCons (mVar 4) (mNil))) (mCons (mBin dIx (mVar 0) (mC (.int 1))) (mCons (mBin dIx (mVar 0) (mC (.int 2))) (mCons (mBin dIx (mVar 0) (mC (.int 3))) (mCons (mCall dTuple (mCons (mVar 6) (mNil))) (mNil)))))))))))))
def m_forms_of_305ad : List D → MH → R D := mFun 2 5
 (mSeq (mAsg 2 (mLst (mNil)))
 (mSeq (mAsg 3 (mBin dIx (mBin dIx (mVar 0) (mC (.int 4))) (mVar 1)))
 (mSeq (mFor (mIter (mBin dIx (mVar 0) (mC (.int 0)))) (mgName 4)
 (mSeq (mIf (mB (mBin dEq (mBin dMod (mVar 3) (mC (.int 2))) (mC (.int 1))))
 (mDrop (mMeth isListD dAppend (mVar 2) (mCons (mVar 4) (mNil))))
 (mSkip))
 (mAsg 3 (mBin dFdiv (mVar 3) (mC (.int 2))))))
 (mRet (mVar 2)))))
def m_list_d283e : List D → MH → R D := mFun 2 4
 (mSeq (mIf (mOr (mNot (mB (mIsi "list" (mVar 0)))) (mB (mBin dNe (mCall dLen (mCons (mVar 0) (mNil))) (mCall dLen (mCons (mVar 1) (mNil))))))
 (mRet (mC (.bl false)))
 (mSkip))
 (mRet (mCall dAll (mCons (mLc (mZip (mVar 0) (mVar 1)) (mgTup (mgCons (mgName 2) (mgCons (mgName 3) mgNil))) (mYes) (mAndV (mIsi "str" (mVar 2)) (mBin dEq (mVar 2) (mVar 3))) [2, 3]) (mNil)))))
def m_due_fcc09 : List D → MH → R D := mFun 2 5
 (mSeq (mAsg 2 (mLst (mNil)))
 (mSeq (mAsg 3 (mC (.int 1)))
 (mSeq (mFor (mIter (mBin dIx (mVar 0) (mC (.int 0)))) (mgName 4)
 (mSeq (mIf (mB (mBin dEq (mBin dMod (mBin dFdiv (mBin dIx (mBin dIx (mVar 0) (mC (.int 4))) (mVar 1)) (mVar 3)) (mC (.int 2))) (mC (.int 1))))
 (mDrop (mMeth isListD dAppend (mVar 2) (mCons (mVar 4) (mNil))))
 (mSkip))
 (mAsg 3 (mBin dMul (mVar 3) (mC (.int 2))))))
 (mRet (mVar 2)))))
def m_law_c55c4 : List D → MH → R D := mFun 1 8
 (mSeq (mAsg 1 (mCall (m_names_c11ae) (mCons (mCall (m_cell_at_2c4cb) (mCons (mVar 0) (mCons (mC (.int 0)) (mNil)))) (mNil))))
 (mSeq (mAsg 2 (mCall (m_machine_8b383) (mCons (mVar 0) (mCons (mC (.int 1)) (mCons (mVar 1) (mCons (mC (.int 8)) (mNil)))))))
 (mSeq (mIf (mB (mBin dEq (mBin dMod (mCall (m_cell_at_2c4cb) (mCons (mVar 0) (mCons (mC (.int 5)) (mNil)))) (mC (.int 3))) (mC (.int 0))))
 (mAsg 2 (mCall (m_wide_f688e) (mCons (mVar 2) (mCons (mCall (m_cell_at_2c4cb) (mCons (mVar 0) (mCons (mC (.int 6)) (mNil)))) (mNil)))))
 (mSkip))
 (mSeq (mAsg 3 (mLst (mNil)))
 (mSeq (mFor (mIter (mBin dAdd (mListRg1 (mCall dLen (mCons (mBin dIx (mVar 2) (mC (.int 4))) (mNil)))) (mListRg1 (mCall dLen (mCons (mBin dIx (mVar 2) (mC (.int 4))) (mNil)))))) (mgName 4)
 (mSeq (mAsg 5 (mCall (m_forms_of_305ad) (mCons (mVar 2) (mCons (mVar 4) (mNil)))))
 (mSeq (mIf (mNot (mB (mCall (m_list_d283e) (mCons (mVar 5) (mCons (mCall (m_due_fcc09) (mCons (mVar 2) (mCons (mVar 4) (mNil)))) (mNil))))))
 (mRet (mC (.bl false)))
 (mSkip))
 (mSeq (mDrop (mMeth isListD dAppend (mVar 3) (mCons (mTup (mCons (mVar 5) (mCons (mCall dList (mCons (mVar 5) (mNil))) (mNil)))) (mNil))))
 (mSeq (mAsg 6 (mCall (m_forms_of_305ad) (mCons (mVar 2) (mCons (mVar 4) (mNil)))))
 (mSeq (mDrop (mMeth isListD dAppend (mVar 6) (mCons (mBin dIx (mVar 1) (mC (.int 0))) (mNil))))
 (mSetIx (mVar 6) (mC (.int 0)) (mBin dIx (mVar 1) (mC (.int 1))))))))))
 (mRet (mCall dAll (mCons (mLc (mIter (mVar 3)) (mgTup (mgCons (mgName 5) (mgCons (mgName 7) mgNil))) (mYes) (mBin dEq (mVar 5) (mVar 7)) [5, 7]) (mNil)))))))))
end Mi

namespace Mi
open PySem L2
def m_cell_at_5ae90 : List D → MH → R D := mFun 2 3
 (mSeq (mAsg 2 (mC (.int 0)))
 (mSeq (mIf (mB (mBin dLt (mVar 1) (mCall dLen (mCons (mVar 0) (mNil)))))
 (mAsg 2 (mCall dAbs (mCons (mBin dIx (mVar 0) (mVar 1)) (mNil))))
 (mSkip))
 (mSeq (mIf (mB (mBin dLt (mVar 2) (mBin dPow (mC (.int 10)) (mC (.int 18)))))
 (mRet (mBin dMod (mVar 2) (mC (.int 2147483647))))
 (mSkip))
 (mRet (mVar 2)))))
def m_cells_64c71 : List D → MH → R D := mFun 3 7
 (mSeq (mAsg 3 (mCall (m_cell_at_5ae90) (mCons (mVar 0) (mCons (mVar 1) (mNil)))))
 (mSeq (mIf (mB (mBin dNe (mBin dMod (mVar 3) (mC (.int 3))) (mC (.int 1))))
 (mRet (mLc (mRange1 (mCall dMax (mCons (mC (.int 1)) (mCons (mCall dMin (mCons (mVar 2) (mCons (mBin dSub (mCall dLen (mCons (mVar 0) (mNil))) (mVar 1)) (mNil)))) (mNil))))) (mgName 6) (mYes) (mCall (m_cell_at_5ae90) (mCons (mVar 0) (mCons (mBin dAdd (mVar 1) (mVar 6)) (mNil)))) [6]))
 (mSkip))
 (mSeq (mAsg 4 (mVar 3))
 (mSeq (mAsg 5 (mLst (mNil)))
 (mSeq (mFor (mRange1 (mBin dAdd (mC (.int 1)) (mBin dMod (mBin dFdiv (mVar 3) (mC (.int 3))) (mVar 2)))) (mgName 6)
 (mSeq (mAsg 4 (mBin dMod (mBin dAdd (mBin dAdd (mBin dMul (mVar 4) (mC (.int 48271))) (mC (.int 12345))) (mVar 6)) (mC (.int 2147483647))))
 (mDrop (mMeth isListD dAppend (mVar 5) (mCons (mVar 4) (mNil))))))
 (mRet (mVar 5)))))))
def m_parents_ea8fe : List D → MH → R D := mFun 1 6
 (mSeq (mAsg 1 (mBin dMod (mBin dIx (mVar 0) (mC (.int 0))) (mC (.int 4))))
 (mSeq (mAsg 2 (mLst (mCons (mC (.int 0)) (mNil))))
 (mSeq (mFor (mRange2 (mC (.int 1)) (mCall dLen (mCons (mVar 0) (mNil)))) (mgName 3)
 (mSeq (mAsg 4 (mBin dFdiv (mBin dMod (mBin dMul (mBin dIx (mVar 0) (mVar 3)) (mC (.int 16807))) (mC (.int 2147483629))) (mC (.int 5))))
 (mSeq (mAsg 5 (mBin dMod (mVar 4) (mVar 3)))
 (mSeq (mIf (mB (mBin dEq (mVar 1) (mC (.int 0))))
 (mAsg 5 (mBin dMod (mVar 4) (mCall dMin (mCons (mVar 3) (mCons (mC (.int 2)) (mNil))))))
 (mSkip))
 (mSeq (mIf (mB (mBin dEq (mVar 1) (mC (.int 1))))
 (mAsg 5 (mBin dSub (mBin dSub (mVar 3) (mC (.int 1))) (mBin dMod (mVar 4) (mCall dMin (mCons (mVar 3) (mCons (mC (.int 2)) (mNil)))))))
 (mSkip))
 (mSeq (mIf (mB (mBin dEq (mVar 1) (mC (.int 2))))
 (mAsg 5 (mBin dMod (mVar 4) (mCall dMin (mCons (mVar 3) (mCons (mC (.int 4)) (mNil))))))
 (mSkip))
 (mSeq (mIf (mB (mBin dGe (mBin dIx (mVar 0) (mVar 3)) (mBin dPow (mC (.int 10)) (mC (.int 18)))))
 (mAsg 5 (mBin dMod (mBin dFdiv (mBin dIx (mVar 0) (mVar 3)) (mBin dMul (mC (.int 8)) (mBin dPow (mC (.int 26)) (mC (.int 8))))) (mVar 3)))
 (mSkip))
 (mDrop (mMeth isListD dAppend (mVar 2) (mCons (mBin dSub (mBin dSub (mVar 3) (mC (.int 1))) (mVar 5)) (mNil)))))))))))
 (mRet (mVar 2)))))
def m_spelled_7a0ca : List D → MH → R D := mFun 2 4
 (mSeq (mAsg 2 (mC (.str (Str.ofString ""))))
 (mSeq (mFor (mRange1 (mVar 1)) (mgName 3)
 (mSeq (mAsg 2 (mBin dAdd (mVar 2) (mBin dIx (mC (.str (Str.ofString "abcdefghijklmnopqrstuvwxyz"))) (mBin dMod (mVar 0) (mC (.int 26))))))
 (mAsg 0 (mBin dFdiv (mVar 0) (mC (.int 26))))))
 (mRet (mVar 2))))
def m_name_35a2d : List D → MH → R D := mFun 1 7
 (mSeq (mAsg 1 (mC (.str (Str.ofString "abcdefghijklmnopqrstuvwxyz"))))
 (mSeq (mAsg 2 (mBin dAdd (mC (.int 1)) (mBin dMod (mVar 0) (mC (.int 8)))))
 (mSeq (mIf (mB (mBin dGe (mVar 0) (mBin dPow (mC (.int 10)) (mC (.int 18)))))
 (mRet (mCall (m_spelled_7a0ca) (mCons (mBin dFdiv (mVar 0) (mC (.int 8))) (mCons (mVar 2) (mNil)))))
 (mSkip))
 (mSeq (mIf (mB (mBin dEq (mBin dMod (mBin dFdiv (mVar 0) (mC (.int 8))) (mC (.int 2))) (mC (.int 0))))
 (mSeq (mAsg 6 (mBin dMod (mBin dFdiv (mVar 0) (mC (.int 16))) (mVar 2)))
 (mRet (mBin dAdd (mBin dAdd (mBin dMul (mC (.str (Str.ofString "n"))) (mVar 6)) (mBin dIx (mVar 1) (mBin dMod (mBin dFdiv (mVar 0) (mC (.int 128))) (mC (.int 26))))) (mBin dMul (mC (.str (Str.ofString "n"))) (mBin dSub (mBin dSub (mVar 2) (mC (.int 1))) (mVar 6))))))
 (mSkip))
 (mSeq (mAsg 3 (mVar 0))
 (mSeq (mAsg 4 (mC (.str (Str.ofString ""))))
 (mSeq (mFor (mRange1 (mVar 2)) (mgName 5)
 (mSeq (mAsg 3 (mBin dMod (mBin dAdd (mBin dMul (mVar 3) (mC (.int 69621))) (mC (.int 12345))) (mC (.int 2147483647))))
 (mAsg 4 (mBin dAdd (mVar 4) (mBin dIx (mVar 1) (mBin dMod (mBin dFdiv (mVar 3) (mC (.int 7))) (mC (.int 26))))))))
 (mRet (mVar 4)))))))))
def m_docs_a9091 : List D → MH → R D := mFun 2 5
 (mSeq (mAsg 2 (mLc (mIter (mVar 0)) (mgName 4) (mYes) (mTup (mNil)) [4]))
 (mSeq (mAsg 3 (mCall dList (mCons (mVar 0) (mNil))))
 (mSeq (mFor (mRev1 (mCall dLen (mCons (mVar 0) (mNil)))) (mgName 4)
 (mSeq (mSetIx (mVar 3) (mVar 4) (mTup (mCons (mCall (m_name_35a2d) (mCons (mBin dIx (mVar 0) (mVar 4)) (mNil))) (mCons (mBin dIx (mVar 2) (mVar 4)) (mNil)))))
 (mIf (mB (mBin dGt (mVar 4) (mC (.int 0))))
 (mSetIx (mVar 2) (mBin dIx (mVar 1) (mVar 4)) (mBin dAdd (mTup (mCons (mBin dIx (mVar 3) (mVar 4)) (mNil))) (mBin dIx (mVar 2) (mBin dIx (mVar 1) (mVar 4)))))
 (mSkip))))
 (mRet (mVar 3)))))
def m_places_4e2eb : List D → MH → R D := mFun 1 5
 (mSeq (mAsg 1 (mLst (mCons (mTup (mNil)) (mNil))))
 (mSeq (mAsg 2 (mLc (mIter (mVar 0)) (mgName 3) (mYes) (mC (.int 0)) [3]))
 (mSeq (mFor (mRange2 (mC (.int 1)) (mCall dLen (mCons (mVar 0) (mNil)))) (mgName 3)
 (mSeq (mAsg 4 (mBin dIx (mVar 0) (mVar 3)))
 (mSeq (mDrop (mMeth isListD dAppend (mVar 1) (mCons (mBin dAdd (mBin dIx (mVar 1) (mVar 4)) (mTup (mCons (mBin dIx (mVar 2) (mVar 4)) (mNil)))) (mNil))))
 (mSetIx (mVar 2) (mVar 4) (mBin dAdd (mBin dIx (mVar 2) (mVar 4)) (mC (.int 1)))))))
 (mRet (mVar 1)))))
def m_same_49f62 : Nat → List D → MH → R D
 | 0 => fun _ _ => .bad
 | n + 1 => mFun 2 3
    (mSeq (mIf (mOr (mNot (mB (mIsi "tuple" (mVar 0)))) (mOr (mB (mBin dNe (mCall dLen (mCons (mVar 0) (mNil))) (mC (.int 2)))) (mOr (mNot (mB (mIsi "str" (mBin dIx (mVar 0) (mC (.int 0)))))) (mB (mBin dNe (mBin dIx (mVar 0) (mC (.int 0))) (mBin dIx (mVar 1) (mC (.int 0))))))))
     (mRet (mC (.bl false)))
     (mSkip))
     (mSeq (mIf (mOr (mNot (mB (mIsi "tuple" (mBin dIx (mVar 0) (mC (.int 1)))))) (mB (mBin dNe (mCall dLen (mCons (mBin dIx (mVar 0) (mC (.int 1))) (mNil))) (mCall dLen (mCons (mBin dIx (mVar 1) (mC (.int 1))) (mNil))))))
     (mRet (mC (.bl false)))
     (mSkip))
     (mSeq (mFor (mRange1 (mCall dLen (mCons (mBin dIx (mVar 1) (mC (.int 1))) (mNil)))) (mgName 2)
     (mIf (mNot (mB (mCall (m_same_49f62 n) (mCons (mBin dIx (mBin dIx (mVar 0) (mC (.int 1))) (mVar 2)) (mCons (mBin dIx (mBin dIx (mVar 1) (mC (.int 1))) (mVar 2)) (mNil))))))
     (mRet (mC (.bl false)))
     (mSkip)))
     (mRet (mC (.bl true))))))
def m_has_place_519f1 : List D → MH → R D := mFun 2 3
 (mSeq (mFor (mIter (mVar 1)) (mgName 2)
 (mSeq (mIf (mOr (mB (mBin dLt (mVar 2) (mC (.int 0)))) (mB (mBin dGe (mVar 2) (mCall dLen (mCons (mBin dIx (mVar 0) (mC (.int 1))) (mNil))))))
 (mRet (mC (.bl false)))
 (mSkip))
 (mAsg 0 (mBin dIx (mBin dIx (mVar 0) (mC (.int 1))) (mVar 2)))))
 (mRet (mC (.bl true))))
def m_at_place_30582 : List D → MH → R D := mFun 2 3
 (mSeq (mIf (mNot (mB (mCall (m_has_place_519f1) (mCons (mVar 0) (mCons (mVar 1) (mNil))))))
 (mRaise (Str.ofString "NoPlace") (Str.ofString "place") (mVar 1))
 (mSkip))
 (mSeq (mFor (mIter (mVar 1)) (mgName 2)
 (mAsg 0 (mBin dIx (mBin dIx (mVar 0) (mC (.int 1))) (mVar 2))))
 (mRet (mVar 0))))
def m_refused_f0187 : List D → MH → R D := mFun 2 4
 (mSeq (mAsg 2 (mC .non))
 (mSeq (mTryK [((Str.ofString "NoPlace"), true)] 3 2 (mDrop (mCall (m_at_place_30582) (mCons (mVar 0) (mCons (mVar 1) (mNil))))))
 (mSeq (mIf (mOr (mB (mBin dIsN (mVar 2) (mC .non))) (mOr (mNot (mB (mIsi "tuple" (mXf [(Str.ofString "NoPlace")] (Str.ofString "place") (mVar 2))))) (mB (mBin dNe (mXf [(Str.ofString "NoPlace")] (Str.ofString "place") (mVar 2)) (mVar 1)))))
 (mRet (mC (.bl false)))
 (mSkip))
 (mSeq (mIf (mOr (mNot (mB (mIsX [((Str.ofString "NoPlace"), true)] (mVar 2)))) (mNot (mB (mIsX [((Str.ofString "NoPlace"), true)] (mVar 2)))))
 (mRet (mC (.bl false)))
 (mSkip))
 (mSeq (mIf (mB (mIsX [((Str.ofString "NoPlace"), false)] (mVar 2)))
 (mRet (mC (.bl false)))
 (mSkip))
 (mRet (mNotV (mIsX [((Str.ofString "NoPlace"), false)] (mVar 2)))))))))
def m_law_5abcd : List D → MH → R D := mFun 1 10
 (mSeq (mAsg 1 (mCall (m_cells_64c71) (mCons (mVar 0) (mCons (mC (.int 1)) (mCons (mC (.int 40)) (mNil))))))
 (mSeq (mAsg 2 (mCall (m_parents_ea8fe) (mCons (mVar 1) (mNil))))
 (mSeq (mAsg 3 (mCall (m_docs_a9091) (mCons (mVar 1) (mCons (mVar 2) (mNil)))))
 (mSeq (mAsg 4 (mCall (m_places_4e2eb) (mCons (mVar 2) (mNil))))
 (mSeq (mAsg 5 (mCall (m_cell_at_5ae90) (mCons (mVar 0) (mCons (mC (.int 0)) (mNil)))))
 (mSeq (mFor (mRange1 (mCall dLen (mCons (mVar 3) (mNil)))) (mgName 6)
 (mSeq (mAsg 7 (mBin dIx (mVar 4) (mVar 6)))
 (mSeq (mAsg 8 (mBin dAdd (mCall dLen (mCons (mBin dIx (mBin dIx (mVar 3) (mVar 6)) (mC (.int 1))) (mNil))) (mBin dMod (mBin dAdd (mBin dMul (mVar 5) (mC (.int 48271))) (mBin dMul (mVar 6) (mVar 6))) (mC (.int 1000000007)))))
 (mSeq (mFor (mIter (mLst (mCons (mTup (mCons (mCall dLen (mCons (mBin dIx (mBin dIx (mVar 3) (mVar 6)) (mC (.int 1))) (mNil))) (mNil))) (mCons (mTup (mCons (mVar 8) (mNil))) (mCons (mTup (mCons (mBin dSub (mBin dSub (mC (.int 0)) (mC (.int 1))) (mBin dMod (mVar 5) (mC (.int 70)))) (mNil))) (mCons (mTup (mCons (mVar 8) (mCons (mC (.int 0)) (mNil)))) (mCons (mTup (mCons (mUn dNeg (mC (.int 1))) (mCons (mC (.int 0)) (mNil)))) (mNil)))))))) (mgName 9)
 (mIf (mNot (mB (mCall (m_refused_f0187) (mCons (mBin dIx (mVar 3) (mC (.int 0))) (mCons (mBin dAdd (mVar 7) (mVar 9)) (mNil))))))
 (mRet (mC (.bl false)))
 (mSkip)))
 (mIf (mNot (mB (mCall (m_same_49f62 100) (mCons (mCall (m_at_place_30582) (mCons (mBin dIx (mVar 3) (mC (.int 0))) (mCons (mVar 7) (mNil)))) (mCons (mBin dIx (mVar 3) (mVar 6)) (mNil))))))
 (mRet (mC (.bl false)))
 (mSkip))))))
 (mRet (mC (.bl true)))))))))
end Mi

namespace Mi
open PySem L2
def m_numbers_207ed : List D → MH → R D := mFun 2 6
 (mSeq (mAsg 2 (mLst (mNil)))
 (mSeq (mAsg 3 (mBin dMul (mVar 0) (mCall dInt (mCons (mBin dGe (mVar 0) (mBin dPow (mC (.int 10)) (mC (.int 18)))) (mNil)))))
 (mSeq (mAsg 4 (mBin dMod (mBin dMul (mVar 0) (mC (.int 16807))) (mC (.int 2147483629))))
 (mSeq (mFor (mRange1 (mVar 1)) (mgName 5)
 (mIf (mB (mBin dGt (mVar 3) (mC (.int 0))))
 (mSeq (mDrop (mMeth isListD dAppend (mVar 2) (mCons (mBin dMod (mVar 3) (mBin dPow (mC (.int 10)) (mC (.int 9)))) (mNil))))
 (mAsg 3 (mBin dFdiv (mVar 3) (mBin dPow (mC (.int 10)) (mC (.int 9))))))
 (mSeq (mAsg 4 (mBin dMod (mBin dAdd (mBin dAdd (mBin dMul (mVar 4) (mC (.int 48271))) (mC (.int 12345))) (mVar 5)) (mC (.int 2147483647))))
 (mDrop (mMeth isListD dAppend (mVar 2) (mCons (mBin dFdiv (mVar 4) (mC (.int 8))) (mNil)))))))
 (mRet (mVar 2))))))
def m_name_81bef : List D → MH → R D := mFun 1 6
 (mSeq (mAsg 1 (mC (.str (Str.ofString "abcdefghijklmnopqrstuvwxyz"))))
 (mSeq (mAsg 2 (mBin dAdd (mC (.int 1)) (mBin dMod (mVar 0) (mC (.int 8)))))
 (mSeq (mIf (mB (mBin dGe (mVar 0) (mBin dPow (mC (.int 10)) (mC (.int 18)))))
 (mRet (mCall (m_spelled_7a0ca) (mCons (mBin dFdiv (mVar 0) (mC (.int 8))) (mCons (mVar 2) (mNil)))))
 (mSkip))
 (mSeq (mIf (mB (mBin dEq (mBin dMod (mBin dFdiv (mVar 0) (mC (.int 8))) (mC (.int 2))) (mC (.int 0))))
 (mSeq (mAsg 5 (mBin dMod (mBin dFdiv (mVar 0) (mC (.int 16))) (mVar 2)))
 (mRet (mBin dAdd (mBin dAdd (mBin dMul (mC (.str (Str.ofString "n"))) (mVar 5)) (mBin dIx (mVar 1) (mBin dMod (mBin dFdiv (mVar 0) (mC (.int 128))) (mC (.int 26))))) (mBin dMul (mC (.str (Str.ofString "n"))) (mBin dSub (mBin dSub (mVar 2) (mC (.int 1))) (mVar 5))))))
 (mSkip))
 (mSeq (mAsg 3 (mC (.str (Str.ofString ""))))
 (mSeq (mFor (mIter (mCall (m_numbers_207ed) (mCons (mVar 0) (mCons (mVar 2) (mNil))))) (mgName 4)
 (mAsg 3 (mBin dAdd (mVar 3) (mBin dIx (mVar 1) (mBin dMod (mVar 4) (mC (.int 26)))))))
 (mRet (mVar 3))))))))
def m_entries_9a3a7 : List D → MH → R D := mFun 1 6
 (mSeq (mAsg 1 (mLst (mNil)))
 (mSeq (mAsg 2 (mBin dMod (mBin dFdiv (mBin dIx (mVar 0) (mC (.int 0))) (mC (.int 3))) (mC (.int 4))))
 (mSeq (mFor (mRange1 (mCall dLen (mCons (mVar 0) (mNil)))) (mgName 3)
 (mSeq (mAsg 4 (mCall (m_numbers_207ed) (mCons (mBin dIx (mVar 0) (mVar 3)) (mCons (mC (.int 3)) (mNil)))))
 (mIf (mOr (mB (mBin dEq (mVar 3) (mC (.int 0)))) (mB (mBin dEq (mBin dMod (mBin dIx (mVar 4) (mC (.int 0))) (mC (.int 4))) (mC (.int 0)))))
 (mSeq (mAsg 5 (mCall (m_name_81bef) (mCons (mBin dIx (mVar 4) (mC (.int 1))) (mNil))))
 (mSeq (mIf (mB (mBin dGe (mBin dIx (mVar 0) (mVar 3)) (mBin dPow (mC (.int 10)) (mC (.int 18)))))
 (mAsg 5 (mCall (m_name_81bef) (mCons (mBin dFdiv (mBin dIx (mVar 0) (mVar 3)) (mBin dPow (mC (.int 10)) (mC (.int 9)))) (mNil))))
 (mSkip))
 (mDrop (mMeth isListD dAppend (mVar 1) (mCons (mTup (mCons (mVar 5) (mNil))) (mNil))))))
 (mIf (mB (mBin dEq (mVar 2) (mC (.int 0))))
 (mDrop (mMeth isListD dAppend (mVar 1) (mCons (mTup (mCons (mBin dMod (mBin dIx (mVar 4) (mC (.int 1))) (mVar 3)) (mCons (mBin dMod (mBin dIx (mVar 4) (mC (.int 2))) (mVar 3)) (mNil)))) (mNil))))
 (mIf (mB (mBin dEq (mVar 2) (mC (.int 1))))
 (mDrop (mMeth isListD dAppend (mVar 1) (mCons (mTup (mCons (mBin dSub (mVar 3) (mC (.int 1))) (mCons (mBin dMod (mBin dIx (mVar 4) (mC (.int 1))) (mCall dMin (mCons (mVar 3) (mCons (mC (.int 4)) (mNil))))) (mNil)))) (mNil))))
 (mIf (mAnd (mB (mBin dEq (mVar 2) (mC (.int 2)))) (mB (mBin dEq (mBin dMod (mBin dIx (mVar 4) (mC (.int 0))) (mC (.int 4))) (mC (.int 1)))))
 (mDrop (mMeth isListD dAppend (mVar 1) (mCons (mTup (mCons (mBin dSub (mVar 3) (mC (.int 1))) (mCons (mBin dSub (mVar 3) (mC (.int 1))) (mNil)))) (mNil))))
 (mDrop (mMeth isListD dAppend (mVar 1) (mCons (mTup (mCons (mBin dSub (mBin dSub (mVar 3) (mC (.int 1))) (mBin dMod (mBin dIx (mVar 4) (mC (.int 1))) (mCall dMin (mCons (mVar 3) (mCons (mC (.int 3)) (mNil)))))) (mCons (mBin dMod (mBin dIx (mVar 4) (mC (.int 2))) (mVar 3)) (mNil)))) (mNil))))))))))
 (mRet (mVar 1)))))
def m_made_b7250 : List D → MH → R D := mFun 1 5
 (mSeq (mAsg 1 (mLst (mNil)))
 (mSeq (mAsg 2 (mLst (mNil)))
 (mSeq (mFor (mIter (mVar 0)) (mgName 3)
 (mIf (mB (mBin dEq (mCall dLen (mCons (mVar 3) (mNil))) (mC (.int 1))))
 (mSeq (mDrop (mMeth isListD dAppend (mVar 1) (mCons (mTup (mCons (mBin dIx (mVar 3) (mC (.int 0))) (mCons (mTup (mNil)) (mNil)))) (mNil))))
 (mDrop (mMeth isListD dAppend (mVar 2) (mCons (mC (.int 1)) (mNil)))))
 (mSeq (mAsg 4 (mBin dIx (mVar 1) (mBin dIx (mVar 3) (mC (.int 0)))))
 (mSeq (mDrop (mMeth isListD dAppend (mVar 1) (mCons (mTup (mCons (mBin dIx (mVar 4) (mC (.int 0))) (mCons (mBin dAdd (mBin dIx (mVar 4) (mC (.int 1))) (mTup (mCons (mBin dIx (mVar 1) (mBin dIx (mVar 3) (mC (.int 1)))) (mNil)))) (mNil)))) (mNil))))
 (mDrop (mMeth isListD dAppend (mVar 2) (mCons (mBin dAdd (mBin dIx (mVar 2) (mBin dIx (mVar 3) (mC (.int 0)))) (mBin dIx (mVar 2) (mBin dIx (mVar 3) (mC (.int 1))))) (mNil))))))))
 (mRet (mTup (mCons (mVar 1) (mCons (mVar 2) (mNil))))))))
def m_cells_bfaf3 : List D → MH → R D := mFun 3 5
 (mSeq (mAsg 3 (mCall (m_cell_at_5ae90) (mCons (mVar 0) (mCons (mVar 1) (mNil)))))
 (mSeq (mIf (mB (mBin dEq (mBin dMod (mVar 3) (mC (.int 3))) (mC (.int 1))))
 (mRet (mCall (m_numbers_207ed) (mCons (mBin dFdiv (mVar 3) (mC (.int 3))) (mCons (mBin dAdd (mC (.int 1)) (mBin dMod (mBin dFdiv (mVar 3) (mC (.int 3))) (mVar 2))) (mNil)))))
 (mSkip))
 (mRet (mLc (mRange1 (mCall dMax (mCons (mC (.int 1)) (mCons (mCall dMin (mCons (mVar 2) (mCons (mBin dSub (mCall dLen (mCons (mVar 0) (mNil))) (mVar 1)) (mNil)))) (mNil))))) (mgName 4) (mYes) (mCall (m_cell_at_5ae90) (mCons (mVar 0) (mCons (mBin dAdd (mVar 1) (mVar 4)) (mNil)))) [4]))))
def m_exact_5f7ea : List D → MH → R D := mFun 1 4
 (mSeq (mAsg 1 (mLst (mCons (mTup (mCons (mCall (m_name_81bef) (mCons (mVar 0) (mNil))) (mNil))) (mNil))))
 (mSeq (mFor (mRange1 (mC (.int 8))) (mgName 2)
 (mDrop (mMeth isListD dAppend (mVar 1) (mCons (mTup (mCons (mVar 2) (mCons (mVar 2) (mNil)))) (mNil)))))
 (mSeq (mAsg 3 (mBin dAdd (mC (.int 41)) (mBin dMod (mVar 0) (mC (.int 7)))))
 (mSeq (mFor (mRange1 (mC (.int 6))) (mgName 2)
 (mIf (mB (mBin dEq (mBin dMod (mBin dFdiv (mVar 3) (mBin dShl (mC (.int 1)) (mVar 2))) (mC (.int 2))) (mC (.int 1))))
 (mDrop (mMeth isListD dAppend (mVar 1) (mCons (mTup (mCons (mBin dSub (mCall dLen (mCons (mVar 1) (mNil))) (mC (.int 1))) (mCons (mVar 2) (mNil)))) (mNil))))
 (mSkip)))
 (mRet (mVar 1))))))
def m_made_sizes_8655d : List D → MH → R D := mFun 1 3
 (mSeq (mAsg 1 (mLst (mNil)))
 (mSeq (mFor (mIter (mVar 0)) (mgName 2)
 (mIf (mB (mBin dEq (mCall dLen (mCons (mVar 2) (mNil))) (mC (.int 1))))
 (mDrop (mMeth isListD dAppend (mVar 1) (mCons (mC (.int 1)) (mNil))))
 (mDrop (mMeth isListD dAppend (mVar 1) (mCons (mBin dAdd (mBin dIx (mVar 1) (mBin dIx (mVar 2) (mC (.int 0)))) (mBin dIx (mVar 1) (mBin dIx (mVar 2) (mC (.int 1))))) (mNil))))))
 (mRet (mVar 1))))
def m_made_size_37cf8 : List D → MH → R D := mFun 1 1
 (mRet (mBin dIx (mCall (m_made_sizes_8655d) (mCons (mVar 0) (mNil))) (mUn dNeg (mC (.int 1)))))
def m_grown_d386c : List D → MH → R D := mFun 1 5
 (mSeq (mAsg 1 (mCall (m_made_size_37cf8) (mCons (mVar 0) (mNil))))
 (mSeq (mIf (mB (mBin dGt (mVar 1) (mC (.int 300))))
 (mRaise (Str.ofString "TooLarge") (Str.ofString "size") (mVar 1))
 (mSkip))
 (mSeq (mAsg 2 (mLst (mNil)))
 (mSeq (mFor (mIter (mVar 0)) (mgName 3)
 (mIf (mB (mBin dEq (mCall dLen (mCons (mVar 3) (mNil))) (mC (.int 1))))
 (mDrop (mMeth isListD dAppend (mVar 2) (mCons (mTup (mCons (mBin dIx (mVar 3) (mC (.int 0))) (mCons (mTup (mNil)) (mNil)))) (mNil))))
 (mSeq (mAsg 4 (mBin dIx (mVar 2) (mBin dIx (mVar 3) (mC (.int 0)))))
 (mDrop (mMeth isListD dAppend (mVar 2) (mCons (mTup (mCons (mBin dIx (mVar 4) (mC (.int 0))) (mCons (mBin dAdd (mBin dIx (mVar 4) (mC (.int 1))) (mTup (mCons (mBin dIx (mVar 2) (mBin dIx (mVar 3) (mC (.int 1)))) (mNil)))) (mNil)))) (mNil)))))))
 (mRet (mBin dIx (mVar 2) (mUn dNeg (mC (.int 1)))))))))
def m_refused_356a7 : List D → MH → R D := mFun 2 4
 (mSeq (mAsg 2 (mC .non))
 (mSeq (mTryK [((Str.ofString "TooLarge"), true)] 3 2 (mDrop (mCall (m_grown_d386c) (mCons (mVar 0) (mNil)))))
 (mSeq (mIf (mOr (mNot (mB (mIsX [((Str.ofString "TooLarge"), true)] (mVar 2)))) (mB (mIsX [((Str.ofString "TooLarge"), false)] (mVar 2))))
 (mRet (mC (.bl false)))
 (mSkip))
 (mSeq (mIf (mB (mIsX [((Str.ofString "TooLarge"), false)] (mVar 2)))
 (mRet (mC (.bl false)))
 (mSkip))
 (mSeq (mIf (mOr (mNot (mB (mIsX [((Str.ofString "TooLarge"), true)] (mVar 2)))) (mB (mIsi "bool" (mXf [(Str.ofString "TooLarge")] (Str.ofString "size") (mVar 2)))))
 (mRet (mC (.bl false)))
 (mSkip))
 (mRet (mAndV (mIsi "int" (mXf [(Str.ofString "TooLarge")] (Str.ofString "size") (mVar 2))) (mBin dEq (mXf [(Str.ofString "TooLarge")] (Str.ofString "size") (mVar 2)) (mVar 1)))))))))
def m_right_95100 : List D → MH → R D := mFun 3 4
 (mSeq (mAsg 3 (mCall (m_made_size_37cf8) (mCons (mVar 0) (mNil))))
 (mSeq (mIf (mOr (mNot (mB (mIsi "int" (mVar 3)))) (mOr (mB (mIsi "bool" (mVar 3))) (mB (mBin dNe (mVar 3) (mVar 2)))))
 (mRet (mC (.bl false)))
 (mSkip))
 (mSeq (mIf (mB (mBin dGt (mVar 2) (mC (.int 300))))
 (mRet (mCall (m_refused_356a7) (mCons (mVar 0) (mCons (mVar 2) (mNil)))))
 (mSkip))
 (mRet (mCall (m_same_49f62 100) (mCons (mCall (m_grown_d386c) (mCons (mVar 0) (mNil))) (mCons (mVar 1) (mNil))))))))
def m_law_9ee09 : List D → MH → R D := mFun 1 7
 (mSeq (mAsg 1 (mCall (m_entries_9a3a7) (mCons (mCall (m_cells_bfaf3) (mCons (mVar 0) (mCons (mC (.int 1)) (mCons (mC (.int 60)) (mNil))))) (mNil))))
 (mSeq (mIf (mB (mBin dEq (mBin dMod (mCall (m_cell_at_5ae90) (mCons (mVar 0) (mCons (mC (.int 0)) (mNil)))) (mC (.int 6))) (mC (.int 5))))
 (mAsg 1 (mCall (m_exact_5f7ea) (mCons (mBin dFdiv (mCall (m_cell_at_5ae90) (mCons (mVar 0) (mCons (mC (.int 0)) (mNil)))) (mC (.int 6))) (mNil))))
 (mSkip))
 (mSeq (mAsgT (mgTup (mgCons (mgName 5) (mgCons (mgName 6) (mgNil)))) (mCall (m_made_b7250) (mCons (mVar 1) (mNil))))
 (mSeq (mAsg 2 (mLst (mCons (mBin dSub (mCall dLen (mCons (mVar 1) (mNil))) (mC (.int 1))) (mNil))))
 (mSeq (mFor (mIter (mCall (m_numbers_207ed) (mCons (mCall (m_cell_at_5ae90) (mCons (mVar 0) (mCons (mC (.int 0)) (mNil)))) (mCons (mC (.int 4)) (mNil))))) (mgName 3)
 (mDrop (mMeth isListD dAppend (mVar 2) (mCons (mBin dMod (mVar 3) (mCall dLen (mCons (mVar 1) (mNil)))) (mNil)))))
 (mSeq (mFor (mIter (mBin dAdd (mVar 2) (mSl (mVar 2) (mNo) (mSome (mC (.int 2)))))) (mgName 4)
 (mIf (mNot (mB (mCall (m_right_95100) (mCons (mCall dTuple (mCons (mSl (mVar 1) (mNo) (mSome (mBin dAdd (mVar 4) (mC (.int 1))))) (mNil))) (mCons (mBin dIx (mVar 5) (mVar 4)) (mCons (mBin dIx (mVar 6) (mVar 4)) (mNil)))))))
 (mRet (mC (.bl false)))
 (mSkip)))
 (mRet (mC (.bl true)))))))))
end Mi

namespace Mi
open PySem L2
def m_pool_0b659 : List D → MH → R D := mFun 2 5
 (mSeq (mAsg 2 (mLst (mNil)))
 (mSeq (mFor (mIter (mCall (m_numbers_207ed) (mCons (mVar 0) (mCons (mVar 1) (mNil))))) (mgName 3)
 (mSeq (mAsg 4 (mCall (m_name_81bef) (mCons (mVar 3) (mNil))))
 (mSeq (mIf (mB (mBin dGe (mVar 0) (mBin dPow (mC (.int 10)) (mC (.int 18)))))
 (mSeq (mAsg 4 (mCall (m_name_81bef) (mCons (mVar 0) (mNil))))
 (mAsg 0 (mBin dFdiv (mVar 0) (mBin dMul (mC (.int 8)) (mBin dPow (mC (.int 26)) (mC (.int 8)))))))
 (mSkip))
 (mIf (mB (mBin dNotIn (mVar 4) (mVar 2)))
 (mDrop (mMeth isListD dAppend (mVar 2) (mCons (mVar 4) (mNil))))
 (mSkip)))))
 (mRet (mVar 2))))
def m_step_08124 : List D → MH → R D := mFun 5 5
 (mSeq (mIf (mB (mBin dEq (mVar 0) (mC (.int 1))))
 (mRet (mBin dMod (mVar 4) (mCall dMax (mCons (mC (.int 1)) (mCons (mBin dSub (mVar 3) (mC (.int 2))) (mNil))))))
 (mSkip))
 (mSeq (mIf (mAnd (mB (mBin dEq (mVar 0) (mC (.int 2)))) (mB (mBin dEq (mVar 1) (mVar 2))))
 (mRet (mCall dMin (mCons (mBin dSub (mVar 3) (mC (.int 1))) (mCons (mBin dAdd (mVar 1) (mC (.int 1))) (mNil)))))
 (mSkip))
 (mSeq (mIf (mB (mBin dEq (mVar 0) (mC (.int 2))))
 (mRet (mBin dMod (mVar 4) (mBin dAdd (mCall dMin (mCons (mVar 1) (mCons (mVar 2) (mNil)))) (mC (.int 1)))))
 (mSkip))
 (mSeq (mIf (mB (mBin dEq (mVar 0) (mC (.int 3))))
 (mRet (mCall dMin (mCons (mBin dSub (mVar 3) (mC (.int 1))) (mCons (mBin dAdd (mCall dMax (mCons (mVar 1) (mCons (mVar 2) (mNil)))) (mBin dMod (mVar 4) (mC (.int 2)))) (mNil)))))
 (mSkip))
 (mRet (mBin dMod (mVar 4) (mVar 3)))))))
def m_machine_128e4 : List D → MH → R D := mFun 5 19
 (mSeq (mAsg 5 (mCall (m_cell_at_5ae90) (mCons (mVar 0) (mCons (mVar 1) (mNil)))))
 (mSeq (mAsg 6 (mBin dAdd (mC (.int 1)) (mBin dMod (mVar 5) (mVar 4))))
 (mSeq (mAsg 7 (mBin dMod (mBin dFdiv (mVar 5) (mVar 4)) (mC (.int 5))))
 (mSeq (mAsg 8 (mCall (m_numbers_207ed) (mCons (mBin dFdiv (mVar 5) (mBin dMul (mC (.int 5)) (mVar 4))) (mCons (mBin dAdd (mBin dAdd (mBin dAdd (mBin dMul (mVar 6) (mVar 6)) (mVar 6)) (mCall dLen (mCons (mVar 3) (mNil)))) (mC (.int 1))) (mNil)))))
 (mSeq (mAsg 9 (mLc (mRange1 (mCall dLen (mCons (mVar 8) (mNil)))) (mgName 16) (mYes) (mBin dAdd (mBin dIx (mVar 8) (mVar 16)) (mCall (m_cell_at_5ae90) (mCons (mVar 0) (mCons (mBin dAdd (mBin dAdd (mVar 1) (mC (.int 1))) (mVar 16)) (mNil))))) [16]))
 (mSeq (mAsg 10 (mLst (mNil)))
 (mSeq (mFor (mRange1 (mVar 6)) (mgName 11)
 (mDrop (mMeth isListD dAppend (mVar 10) (mCons (mCall dTuple (mCons (mLc (mRange1 (mVar 6)) (mgName 18) (mYes) (mCall (m_step_08124) (mCons (mVar 7) (mCons (mVar 11) (mCons (mVar 18) (mCons (mVar 6) (mCons (mBin dIx (mVar 9) (mBin dAdd (mBin dMul (mVar 11) (mVar 6)) (mVar 18))) (mNil))))))) [18]) (mNil))) (mNil)))))
 (mSeq (mAsg 12 (mSl (mVar 9) (mSome (mBin dMul (mVar 6) (mVar 6))) (mNo)))
 (mSeq (mAsg 13 (mCall dTuple (mCons (mLc (mIter (mSl (mVar 12) (mNo) (mSome (mVar 6)))) (mgName 17) (mYes) (mBin dMod (mBin dFdiv (mVar 17) (mC (.int 3))) (mBin dShl (mC (.int 1)) (mCall dLen (mCons (mVar 2) (mNil))))) [17]) (mNil))))
 (mSeq (mAsg 14 (mBin dIx (mLst (mCons (mVar 6) (mCons (mCall dMax (mCons (mC (.int 1)) (mCons (mBin dSub (mVar 6) (mC (.int 2))) (mNil)))) (mCons (mC (.int 1)) (mCons (mCall dMax (mCons (mC (.int 1)) (mCons (mBin dFdiv (mVar 6) (mC (.int 2))) (mNil)))) (mCons (mVar 6) (mNil))))))) (mVar 7)))
 (mSeq (mAsg 15 (mCall dTuple (mCons (mLc (mIter (mSl (mVar 12) (mSome (mVar 6)) (mNo))) (mgName 17) (mYes) (mBin dMod (mBin dFdiv (mVar 17) (mC (.int 5))) (mVar 14)) [17]) (mNil))))
 (mRet (mTup (mCons (mCall dTuple (mCons (mVar 2) (mNil))) (mCons (mCall dTuple (mCons (mVar 3) (mNil))) (mCons (mVar 15) (mCons (mCall dTuple (mCons (mVar 10) (mNil))) (mCons (mVar 13) (mNil)))))))))))))))))))
def m_bad_d3516 : List D → MH → R D := mFun 5 5
 (mSeq (mIf (mB (mBin dNotIn (mVar 3) (mBin dIx (mVar 0) (mC (.int 0)))))
 (mRet (mVar 3))
 (mSkip))
 (mSeq (mIf (mAnd (mB (mBin dLt (mVar 1) (mC (.int 2)))) (mB (mBin dNotIn (mVar 4) (mBin dIx (mVar 0) (mC (.int 0))))))
 (mRet (mVar 4))
 (mSkip))
 (mSeq (mIf (mB (mBin dIn (mVar 2) (mBin dIx (mVar 0) (mC (.int 0)))))
 (mRet (mVar 2))
 (mSkip))
 (mRet (mC (.str (Str.ofString "")))))))
def m_bit_of_97f34 : List D → MH → R D := mFun 2 2
 (mSeq (mIf (mB (mBin dNotIn (mVar 1) (mBin dIx (mVar 0) (mC (.int 0)))))
 (mRaise (Str.ofString "NoForm") (Str.ofString "form") (mVar 1))
 (mSkip))
 (mRet (mBin dShl (mC (.int 1)) (mTIndex (mBin dIx (mVar 0) (mC (.int 0))) (mVar 1)))))
def m_with_form_84d4c : List D → MH → R D := mFun 3 6
 (mSeq (mIf (mB (mBin dIn (mVar 1) (mBin dIx (mVar 0) (mC (.int 0)))))
 (mRaise (Str.ofString "NoForm") (Str.ofString "form") (mVar 1))
 (mSkip))
 (mSeq (mAsg 3 (mBin dShl (mC (.int 1)) (mCall dLen (mCons (mBin dIx (mVar 0) (mC (.int 0))) (mNil)))))
 (mSeq (mAsg 4 (mLst (mNil)))
 (mSeq (mFor (mRange1 (mCall dLen (mCons (mVar 2) (mNil)))) (mgName 5)
 (mDrop (mMeth isListD dAppend (mVar 4) (mCons (mBin dAdd (mBin dIx (mBin dIx (mVar 0) (mC (.int 4))) (mVar 5)) (mBin dMul (mVar 3) (mCall dInt (mCons (mBin dIx (mVar 2) (mVar 5)) (mNil))))) (mNil)))))
 (mRet (mTup (mCons (mBin dAdd (mBin dIx (mVar 0) (mC (.int 0))) (mTup (mCons (mVar 1) (mNil)))) (mCons (mBin dIx (mVar 0) (mC (.int 1))) (mCons (mBin dIx (mVar 0) (mC (.int 2))) (mCons (mBin dIx (mVar 0) (mC (.int 3))) (mCons (mCall dTuple (mCons (mVar 4) (mNil))) (mNil))))))))))))
def m_without_a19f0 : List D → MH → R D := mFun 3 5
 (mSeq (mAsg 3 (mCall (m_bit_of_97f34) (mCons (mVar 0) (mCons (mVar 2) (mNil)))))
 (mRet (mCall (m_with_form_84d4c) (mCons (mVar 0) (mCons (mVar 1) (mCons (mLc (mIter (mBin dIx (mVar 0) (mC (.int 4)))) (mgName 4) (mYes) (mBin dEq (mBin dBand (mVar 4) (mVar 3)) (mC (.int 0))) [4]) (mNil)))))))
def m_both_5abf8 : List D → MH → R D := mFun 4 7
 (mSeq (mAsg 4 (mCall (m_bit_of_97f34) (mCons (mVar 0) (mCons (mVar 2) (mNil)))))
 (mSeq (mAsg 5 (mCall (m_bit_of_97f34) (mCons (mVar 0) (mCons (mVar 3) (mNil)))))
 (mRet (mCall (m_with_form_84d4c) (mCons (mVar 0) (mCons (mVar 1) (mCons (mLc (mIter (mBin dIx (mVar 0) (mC (.int 4)))) (mgName 6) (mYes) (mAndV (mBin dNe (mBin dBand (mVar 6) (mVar 4)) (mC (.int 0))) (mBin dNe (mBin dBand (mVar 6) (mVar 5)) (mC (.int 0)))) [6]) (mNil))))))))
def m_either_30c33 : List D → MH → R D := mFun 4 7
 (mSeq (mAsg 4 (mCall (m_bit_of_97f34) (mCons (mVar 0) (mCons (mVar 2) (mNil)))))
 (mSeq (mAsg 5 (mCall (m_bit_of_97f34) (mCons (mVar 0) (mCons (mVar 3) (mNil)))))
 (mRet (mCall (m_with_form_84d4c) (mCons (mVar 0) (mCons (mVar 1) (mCons (mLc (mIter (mBin dIx (mVar 0) (mC (.int 4)))) (mgName 6) (mYes) (mBin dNe (mBin dBand (mVar 6) (mBin dBor (mVar 4) (mVar 5))) (mC (.int 0))) [6]) (mNil))))))))
def m_asked_98bd4 : List D → MH → R D := mFun 5 5
 (mSeq (mIf (mB (mBin dEq (mVar 1) (mC (.int 0))))
 (mRet (mCall (m_both_5abf8) (mCons (mVar 0) (mCons (mVar 2) (mCons (mVar 3) (mCons (mVar 4) (mNil)))))))
 (mSkip))
 (mSeq (mIf (mB (mBin dEq (mVar 1) (mC (.int 1))))
 (mRet (mCall (m_either_30c33) (mCons (mVar 0) (mCons (mVar 2) (mCons (mVar 3) (mCons (mVar 4) (mNil)))))))
 (mSkip))
 (mRet (mCall (m_without_a19f0) (mCons (mVar 0) (mCons (mVar 2) (mCons (mVar 3) (mNil))))))))
def m_refused_8c7a4 : List D → MH → R D := mFun 5 7
 (mSeq (mAsg 5 (mC .non))
 (mSeq (mTryK [((Str.ofString "NoForm"), true)] 6 5 (mDrop (mCall (m_asked_98bd4) (mCons (mVar 0) (mCons (mVar 1) (mCons (mVar 2) (mCons (mVar 3) (mCons (mVar 4) (mNil)))))))))
 (mSeq (mIf (mOr (mNot (mB (mIsX [((Str.ofString "NoForm"), true)] (mVar 5)))) (mB (mIsX [((Str.ofString "NoForm"), false)] (mVar 5))))
 (mRet (mC (.bl false)))
 (mSkip))
 (mRet (mAndV (mIsX [((Str.ofString "NoForm"), true)] (mVar 5)) (mBin dEq (mXf [(Str.ofString "NoForm")] (Str.ofString "form") (mVar 5)) (mCall (m_bad_d3516) (mCons (mVar 0) (mCons (mVar 1) (mCons (mVar 2) (mCons (mVar 3) (mCons (mVar 4) (mNil)))))))))))))
def m_bit_0d7e7 : List D → MH → R D := mFun 3 4
 (mSeq (mFor (mRange1 (mCall dLen (mCons (mBin dIx (mVar 0) (mC (.int 0))) (mNil)))) (mgName 3)
 (mIf (mB (mBin dEq (mBin dIx (mBin dIx (mVar 0) (mC (.int 0))) (mVar 3)) (mVar 2)))
 (mRet (mBin dEq (mBin dMod (mBin dFdiv (mBin dIx (mBin dIx (mVar 0) (mC (.int 4))) (mVar 1)) (mBin dShl (mC (.int 1)) (mVar 3))) (mC (.int 2))) (mC (.int 1))))
 (mSkip)))
 (mRet (mC (.bl false))))
def m_due_1290e : List D → MH → R D := mFun 5 8
 (mSeq (mAsg 5 (mLst (mNil)))
 (mSeq (mFor (mRange1 (mCall dLen (mCons (mBin dIx (mVar 0) (mC (.int 4))) (mNil)))) (mgName 6)
 (mSeq (mAsg 7 (mNotV (mCall (m_bit_0d7e7) (mCons (mVar 0) (mCons (mVar 6) (mCons (mVar 3) (mNil)))))))
 (mSeq (mIf (mB (mBin dEq (mVar 1) (mC (.int 0))))
 (mAsg 7 (mAndV (mCall (m_bit_0d7e7) (mCons (mVar 0) (mCons (mVar 6) (mCons (mVar 3) (mNil))))) (mCall (m_bit_0d7e7) (mCons (mVar 0) (mCons (mVar 6) (mCons (mVar 4) (mNil)))))))
 (mSkip))
 (mSeq (mIf (mB (mBin dEq (mVar 1) (mC (.int 1))))
 (mAsg 7 (mOrV (mCall (m_bit_0d7e7) (mCons (mVar 0) (mCons (mVar 6) (mCons (mVar 3) (mNil))))) (mCall (m_bit_0d7e7) (mCons (mVar 0) (mCons (mVar 6) (mCons (mVar 4) (mNil)))))))
 (mSkip))
 (mDrop (mMeth isListD dAppend (mVar 5) (mCons (mBin dAdd (mBin dIx (mBin dIx (mVar 0) (mC (.int 4))) (mVar 6)) (mBin dMul (mCall dInt (mCons (mVar 7) (mNil))) (mBin dShl (mC (.int 1)) (mCall dLen (mCons (mBin dIx (mVar 0) (mC (.int 0))) (mNil)))))) (mNil))))))))
 (mRet (mBin dAdd (mBin dAdd (mTup (mCons (mBin dAdd (mBin dIx (mVar 0) (mC (.int 0))) (mTup (mCons (mVar 2) (mNil)))) (mNil))) (mSl (mVar 0) (mSome (mC (.int 1))) (mSome (mC (.int 4))))) (mTup (mCons (mCall dTuple (mCons (mVar 5) (mNil))) (mNil)))))))
def m_wholes_d29b0 : List D → MH → R D := mFun 2 3
 (mSeq (mIf (mNot (mB (mIsi "tuple" (mVar 0))))
 (mRet (mC (.bl false)))
 (mSkip))
 (mSeq (mFor (mIter (mVar 0)) (mgName 2)
 (mIf (mOr (mNot (mB (mIsi "int" (mVar 2)))) (mOr (mB (mIsi "bool" (mVar 2))) (mOr (mB (mBin dLt (mVar 2) (mC (.int 0)))) (mB (mBin dGe (mVar 2) (mVar 1))))))
 (mRet (mC (.bl false)))
 (mSkip)))
 (mRet (mC (.bl true)))))
def m_is_machine_74722 : List D → MH → R D := mFun 1 5
 (mSeq (mIf (mOr (mNot (mB (mIsi "tuple" (mVar 0)))) (mB (mBin dNe (mCall dLen (mCons (mVar 0) (mNil))) (mC (.int 5)))))
 (mRet (mC (.bl false)))
 (mSkip))
 (mSeq (mFor (mRange1 (mC (.int 5))) (mgName 1)
 (mIf (mNot (mB (mIsi "tuple" (mBin dIx (mVar 0) (mVar 1)))))
 (mRet (mC (.bl false)))
 (mSkip)))
 (mSeq (mFor (mIter (mBin dAdd (mBin dIx (mVar 0) (mC (.int 0))) (mBin dIx (mVar 0) (mC (.int 1))))) (mgName 2)
 (mIf (mNot (mB (mIsi "str" (mVar 2))))
 (mRet (mC (.bl false)))
 (mSkip)))
 (mSeq (mAsg 3 (mCall dLen (mCons (mBin dIx (mVar 0) (mC (.int 3))) (mNil))))
 (mSeq (mIf (mOr (mB (mBin dNe (mCall dLen (mCons (mBin dIx (mVar 0) (mC (.int 4))) (mNil))) (mVar 3))) (mOr (mB (mBin dNe (mCall dLen (mCons (mBin dIx (mVar 0) (mC (.int 2))) (mNil))) (mBin dAdd (mCall dLen (mCons (mBin dIx (mVar 0) (mC (.int 1))) (mNil))) (mC (.int 1))))) (mNot (mB (mCall (m_wholes_d29b0) (mCons (mBin dIx (mVar 0) (mC (.int 2))) (mCons (mVar 3) (mNil))))))))
 (mRet (mC (.bl false)))
 (mSkip))
 (mSeq (mFor (mIter (mBin dIx (mVar 0) (mC (.int 3)))) (mgName 4)
 (mIf (mOr (mNot (mB (mCall (m_wholes_d29b0) (mCons (mVar 4) (mCons (mVar 3) (mNil)))))) (mB (mBin dNe (mCall dLen (mCons (mVar 4) (mNil))) (mVar 3))))
 (mRet (mC (.bl false)))
 (mSkip)))
 (mRet (mCall (m_wholes_d29b0) (mCons (mBin dIx (mVar 0) (mC (.int 4))) (mCons (mBin dShl (mC (.int 1)) (mCall dLen (mCons (mBin dIx (mVar 0) (mC (.int 0))) (mNil)))) (mNil)))))))))))
def m_law_12783 : List D → MH → R D := mFun 1 15
 (mSeq (mAsg 1 (mCall (m_pool_0b659) (mCons (mCall (m_cell_at_5ae90) (mCons (mVar 0) (mCons (mC (.int 0)) (mNil)))) (mCons (mBin dAdd (mC (.int 1)) (mBin dMod (mCall (m_cell_at_5ae90) (mCons (mVar 0) (mCons (mC (.int 1)) (mNil)))) (mC (.int 6)))) (mNil)))))
 (mSeq (mAsg 2 (mCall dSorted (mCons (mCall (m_pool_0b659) (mCons (mCall (m_cell_at_5ae90) (mCons (mVar 0) (mCons (mC (.int 2)) (mNil)))) (mCons (mBin dMod (mBin dFdiv (mCall (m_cell_at_5ae90) (mCons (mVar 0) (mCons (mC (.int 1)) (mNil)))) (mC (.int 6))) (mC (.int 5))) (mNil)))) (mNil))))
 (mSeq (mAsg 3 (mCall (m_machine_128e4) (mCons (mVar 0) (mCons (mC (.int 12)) (mCons (mVar 1) (mCons (mVar 2) (mCons (mC (.int 8)) (mNil))))))))
 (mSeq (mAsg 4 (mCall (m_pool_0b659) (mCons (mBin dAdd (mCall (m_cell_at_5ae90) (mCons (mVar 0) (mCons (mC (.int 0)) (mNil)))) (mC (.int 1))) (mCons (mC (.int 8)) (mNil)))))
 (mSeq (mFor (mRange2 (mC (.int 2)) (mCall dMax (mCons (mC (.int 3)) (mCons (mCall dMin (mCons (mC (.int 12)) (mCons (mCall dLen (mCons (mVar 0) (mNil))) (mNil)))) (mNil))))) (mgName 5)
 (mSeq (mAsg 6 (mCall (m_cell_at_5ae90) (mCons (mVar 0) (mCons (mVar 5) (mNil)))))
 (mSeq (mAsg 7 (mCall (m_numbers_207ed) (mCons (mBin dFdiv (mVar 6) (mC (.int 48))) (mCons (mC (.int 3)) (mNil)))))
 (mSeq (mAsg 8 (mCall dList (mCons (mBin dIx (mVar 3) (mC (.int 0))) (mNil))))
 (mSeq (mIf (mB (mBin dEq (mBin dMod (mVar 6) (mC (.int 4))) (mC (.int 1))))
 (mAsg 8 (mBin dAdd (mVar 8) (mVar 4)))
 (mSkip))
 (mSeq (mAsg 9 (mBin dIx (mVar 8) (mBin dMod (mBin dIx (mVar 7) (mC (.int 0))) (mCall dLen (mCons (mVar 8) (mNil))))))
 (mSeq (mAsg 10 (mBin dIx (mVar 8) (mBin dMod (mBin dIx (mVar 7) (mC (.int 1))) (mCall dLen (mCons (mVar 8) (mNil))))))
 (mSeq (mAsg 11 (mBin dIx (mVar 4) (mBin dMod (mBin dIx (mVar 7) (mC (.int 2))) (mCall dLen (mCons (mVar 4) (mNil))))))
 (mSeq (mIf (mB (mBin dEq (mBin dMod (mBin dFdiv (mVar 6) (mC (.int 4))) (mC (.int 4))) (mC (.int 1))))
 (mAsg 11 (mBin dIx (mBin dIx (mVar 3) (mC (.int 0))) (mBin dMod (mBin dIx (mVar 7) (mC (.int 2))) (mCall dLen (mCons (mBin dIx (mVar 3) (mC (.int 0))) (mNil))))))
 (mSkip))
 (mSeq (mAsg 12 (mBin dMod (mBin dFdiv (mVar 6) (mC (.int 16))) (mC (.int 3))))
 (mIf (mB (mBin dNe (mCall (m_bad_d3516) (mCons (mVar 3) (mCons (mVar 12) (mCons (mVar 11) (mCons (mVar 9) (mCons (mVar 10) (mNil))))))) (mC (.str (Str.ofString "")))))
 (mIf (mNot (mB (mCall (m_refused_8c7a4) (mCons (mVar 3) (mCons (mVar 12) (mCons (mVar 11) (mCons (mVar 9) (mCons (mVar 10) (mNil)))))))))
 (mRet (mC (.bl false)))
 (mSkip))
 (mIf (mB (mBin dLt (mCall dLen (mCons (mBin dIx (mVar 3) (mC (.int 0))) (mNil))) (mC (.int 12))))
 (mSeq (mAsg 13 (mCall (m_asked_98bd4) (mCons (mVar 3) (mCons (mVar 12) (mCons (mVar 11) (mCons (mVar 9) (mCons (mVar 10) (mNil))))))))
 (mSeq (mAsg 14 (mCall (m_due_1290e) (mCons (mVar 3) (mCons (mVar 12) (mCons (mVar 11) (mCons (mVar 9) (mCons (mVar 10) (mNil))))))))
 (mSeq (mIf (mOr (mNot (mB (mCall (m_is_machine_74722) (mCons (mVar 13) (mNil))))) (mB (mBin dNe (mVar 13) (mVar 14))))
 (mRet (mC (.bl false)))
 (mSkip))
 (mAsg 3 (mVar 13)))))
 (mSkip)))))))))))))
 (mRet (mC (.bl true))))))))
end Mi

/-! Lists and tuples many times. -/
namespace Mi
open PySem PySem.Spec PyProof.Rows L2
section
variable {X : Cx}
/-- a tuple of one item so many times -/
def rRepF (K : PySem.W.Frag) : R2 := fun x y H Q => ∃ l k z, x = .ref l ∧ y = .int k ∧ SqT K H l [z] ∧ 1 ≤ k ∧ k ≤ 1000 ∧
  (k = 1 → Q (.ref l) H) ∧ (2 ≤ k → ∀ (p : Addr) (ob : Obj), H p = none → ob.dict = none → Q (.ref p) (upd H p (.frz ob (.tup (List.replicate k.toNat [z]).flatten))))
end
def dRep : D → D → MH → R D
  | .ref i, .int n, h => match h[i]? with
    | some (.lst l) => if 0 ≤ n ∧ n ≤ 1000 ∧ l.length ≤ 1000 then .ok (.ref h.length) (h ++ [.lst (List.replicate n.toNat l).flatten]) else .bad
    | _ => .bad
  | .tup [z], .int n, h => if 1 ≤ n ∧ n ≤ 1000 then .ok (.tup (List.replicate n.toNat [z]).flatten) h else .bad
  | _, _, _ => .bad
section
variable {X : Cx} {g : G}
def rRepA (K : PySem.W.Frag) : R2 := fun x y H Q => rRep x y H Q ∨ rRepF K x y H Q
end
end Mi

/-! zip of tuples; sum, max of a list of ints. -/
namespace Mi
open PySem L2
def zipT (x y : D) (h : MH) : R (List D × (MH → Bool)) := match x, y with
  | .tup l, .tup m => .ok (zipD l m, yes) h
  | _, _ => .bad
def mZipT (a b : ME) : MI := fun ρ h => (a ρ h).bind fun x h1 => (b ρ h1).bind fun y h2 => zipT x y h2
section
variable {X : Cx} {g : G} {W : WX} {a b : Expr} {ma mb : ME} {pos : Pos}
end
/-- sum of a list of ints -/
def dSum : List D → MH → R D
  | [.ref i], h => match (getL h i).bind allInt with
    | some ns => .ok (.int ns.sum) h
    | none => .bad
  | _, _ => .bad
def topI : List Int → Int
  | [] => 0
  | [a] => a
  | a :: l => if topI l < a then a else topI l
def dMaxL : List D → MH → R D
  | [.ref i], h => match (getL h i).bind allInt with
    | some ns => if 0 < ns.length then .ok (.int (topI ns)) h else .bad
    | none => .bad
  | _, _ => .bad
section
variable {g : G}
end
/-! the calculus -/
section
variable {Q : D → MH → Prop} {QI : List D × (MH → Bool) → MH → Prop} {E : XE} {ρ : Slots} {h : MH} {a b : ME}
end
end Mi

namespace Mi
open PySem L2
def m_free_docs_275c6 : List D → MH → R D := mFun 2 9
 (mSeq (mAsg 2 (mBin dMod (mBin dIx (mVar 0) (mC (.int 0))) (mC (.int 4))))
 (mSeq (mAsg 3 (mLc (mIter (mVar 0)) (mgName 4) (mYes) (mLst (mNil)) [4]))
 (mSeq (mFor (mRange2 (mC (.int 1)) (mCall dLen (mCons (mVar 0) (mNil)))) (mgName 4)
 (mSeq (mAsg 6 (mBin dFdiv (mBin dMod (mBin dMul (mBin dIx (mVar 0) (mVar 4)) (mC (.int 16807))) (mC (.int 2147483629))) (mC (.int 5))))
 (mSeq (mAsg 7 (mBin dIx (mLst (mCons (mBin dMod (mVar 6) (mVar 4)) (mCons (mBin dSub (mVar 4) (mC (.int 1))) (mCons (mC (.int 0)) (mCons (mBin dSub (mBin dSub (mVar 4) (mC (.int 1))) (mBin dMod (mVar 6) (mCall dMin (mCons (mVar 4) (mCons (mC (.int 3)) (mNil)))))) (mNil)))))) (mVar 2)))
 (mDrop (mMeth isListD dAppend (mBin dIx (mVar 3) (mVar 7)) (mCons (mVar 4) (mNil)))))))
 (mSeq (mAsg 5 (mLc (mIter (mVar 0)) (mgName 4) (mYes) (mC .non) [4]))
 (mSeq (mFor (mRev1 (mCall dLen (mCons (mVar 0) (mNil)))) (mgName 4)
 (mSetIx (mVar 5) (mVar 4) (mTup (mCons (mBin dIx (mVar 1) (mBin dMod (mBin dFdiv (mBin dIx (mVar 0) (mVar 4)) (mC (.int 4))) (mC (.int 9)))) (mCons (mCall dTuple (mCons (mLc (mIter (mBin dIx (mVar 3) (mVar 4))) (mgName 8) (mYes) (mBin dIx (mVar 5) (mVar 8)) [8]) (mNil))) (mNil))))))
 (mRet (mTup (mCons (mVar 5) (mCons (mVar 3) (mNil))))))))))
def m_whole_52a26 : List D → MH → R D := mFun 2 2
 (mRet (mAndV (mIsi "int" (mVar 0)) (mAndV (mNotV (mIsi "bool" (mVar 0))) (mBin dEq (mVar 0) (mVar 1)))))
def m_state_c46f4 : List D → MH → R D := mFun 3 5
 (mSeq (mAsg 3 (mBin dIx (mBin dIx (mVar 0) (mC (.int 2))) (mUn dNeg (mC (.int 1)))))
 (mSeq (mIf (mB (mBin dIn (mVar 1) (mBin dIx (mVar 0) (mC (.int 1)))))
 (mAsg 3 (mBin dIx (mBin dIx (mVar 0) (mC (.int 2))) (mTIndex (mBin dIx (mVar 0) (mC (.int 1))) (mVar 1))))
 (mSkip))
 (mSeq (mFor (mIter (mVar 2)) (mgName 4)
 (mAsg 3 (mBin dIx (mBin dIx (mBin dIx (mVar 0) (mC (.int 3))) (mVar 3)) (mVar 4))))
 (mRet (mVar 3)))))
def m_start_of_78275 : List D → MH → R D := mFun 2 2
 (mSeq (mIf (mB (mBin dIn (mVar 1) (mBin dIx (mVar 0) (mC (.int 1)))))
 (mRet (mBin dIx (mBin dIx (mVar 0) (mC (.int 2))) (mTIndex (mBin dIx (mVar 0) (mC (.int 1))) (mVar 1))))
 (mSkip))
 (mRet (mBin dIx (mBin dIx (mVar 0) (mC (.int 2))) (mUn dNeg (mC (.int 1))))))
def m_state_of_14fdf : Nat → List D → MH → R D
 | 0 => fun _ _ => .bad
 | n + 1 => mFun 2 4
    (mSeq (mAsg 2 (mCall (m_start_of_78275) (mCons (mVar 0) (mCons (mBin dIx (mVar 1) (mC (.int 0))) (mNil)))))
     (mSeq (mFor (mIter (mBin dIx (mVar 1) (mC (.int 1)))) (mgName 3)
     (mAsg 2 (mBin dIx (mBin dIx (mBin dIx (mVar 0) (mC (.int 3))) (mVar 2)) (mCall (m_state_of_14fdf n) (mCons (mVar 0) (mCons (mVar 3) (mNil)))))))
     (mRet (mVar 2))))
def m_law_5f09b : List D → MH → R D := mFun 1 10
 (mSeq (mAsg 1 (mCall (m_names_c11ae) (mCons (mCall (m_cell_at_2c4cb) (mCons (mVar 0) (mCons (mC (.int 0)) (mNil)))) (mNil))))
 (mSeq (mAsg 2 (mCall (m_machine_8b383) (mCons (mVar 0) (mCons (mC (.int 1)) (mCons (mVar 1) (mCons (mC (.int 8)) (mNil)))))))
 (mSeq (mAsg 3 (mLc (mRange1 (mCall dMax (mCons (mC (.int 1)) (mCons (mCall dMin (mCons (mC (.int 50)) (mCons (mBin dSub (mCall dLen (mCons (mVar 0) (mNil))) (mC (.int 5))) (mNil)))) (mNil))))) (mgName 5) (mYes) (mCall (m_cell_at_2c4cb) (mCons (mVar 0) (mCons (mBin dAdd (mC (.int 5)) (mVar 5)) (mNil)))) [5]))
 (mSeq (mAsgT (mgTup (mgCons (mgName 6) (mgCons (mgName 7) (mgNil)))) (mCall (m_free_docs_275c6) (mCons (mVar 3) (mCons (mVar 1) (mNil)))))
 (mSeq (mAsg 4 (mLc (mIter (mVar 6)) (mgName 8) (mYes) (mC (.int 0)) [8]))
 (mSeq (mFor (mRev1 (mCall dLen (mCons (mVar 6) (mNil)))) (mgName 5)
 (mSetIx (mVar 4) (mVar 5) (mCall (m_state_c46f4) (mCons (mVar 2) (mCons (mBin dIx (mBin dIx (mVar 6) (mVar 5)) (mC (.int 0))) (mCons (mLc (mIter (mBin dIx (mVar 7) (mVar 5))) (mgName 9) (mYes) (mBin dIx (mVar 4) (mVar 9)) [9]) (mNil)))))))
 (mSeq (mFor (mRange1 (mCall dLen (mCons (mVar 6) (mNil)))) (mgName 5)
 (mIf (mNot (mB (mCall (m_whole_52a26) (mCons (mCall (m_state_of_14fdf 100) (mCons (mVar 2) (mCons (mBin dIx (mVar 6) (mVar 5)) (mNil)))) (mCons (mBin dIx (mVar 4) (mVar 5)) (mNil))))))
 (mRet (mC (.bl false)))
 (mSkip)))
 (mRet (mCall (m_whole_52a26) (mCons (mCall (m_state_of_14fdf 100) (mCons (mVar 2) (mCons (mBin dIx (mVar 6) (mC (.int 0))) (mNil)))) (mCons (mBin dIx (mVar 4) (mC (.int 0))) (mNil))))))))))))
end Mi

/-! Dicts with keys (in, get, put, displays of texts); classes of the program: fields, new ones, methods, isinstance; defaults. -/
namespace Mi
open PySem L2 PySem.Spec PyProof.Rows
/-! ### dicts -/
def valD (kvs : List (Key × D)) (k : Key) : Option D := (kvs.find? fun kv => decide (kv.1 = k)).map (·.2)
def putKD (kvs : List (Key × D)) (k : Key) (v : D) : List (Key × D) :=
  if (kvs.any fun kv => decide (kv.1 = k)) = true then kvs.map (fun kv => if kv.1 = k then (kv.1, v) else kv) else kvs ++ [(k, v)]
section
variable {g : G} {H : Hp} {μ : List Addr} {h : MH}
theorem KR.val (k : Key) : ∀ {kv : List (Key × V)} {kvs : List (Key × D)}, KR g H μ kv kvs → (valV kv k = none ∧ valD kvs k = none) ∨ ∃ v d, valV kv k = some v ∧ valD kvs k = some d ∧ VR g H μ v d
  | _, _, .nil => .inl ⟨rfl, rfl⟩
  | _, _, @KR.cons _ _ _ _ k' v d vs ds a b => by
    by_cases e : k' = k
    · refine .inr ⟨v, d, valV_pos e, ?_, a⟩
      simp [valD, List.find?_cons, e]
    · have e2 : valD ((k', d) :: ds) k = valD ds k := by simp [valD, List.find?_cons, e]
      rw [valV_neg (p := (k', v)) e, e2]
      exact KR.val k b
theorem KR.any (k : Key) : ∀ {kv : List (Key × V)} {kvs : List (Key × D)}, KR g H μ kv kvs → (kv.any fun p => decide (p.1 = k)) = kvs.any fun p => decide (p.1 = k)
  | _, _, .nil => rfl
  | _, _, .cons a b => by rw [List.any_cons, List.any_cons, KR.any k b]
theorem KR.repl (k : Key) {y : V} {u : D} (r : VR g H μ y u) : ∀ {kv : List (Key × V)} {kvs : List (Key × D)}, KR g H μ kv kvs → KR g H μ (kv.map fun p => if p.1 = k then (p.1, y) else p) (kvs.map fun p => if p.1 = k then (p.1, u) else p)
  | _, _, .nil => .nil
  | _, _, @KR.cons _ _ _ _ k' v d vs ds a b => by
    rw [List.map_cons, List.map_cons]
    by_cases e : k' = k
    · simp only [e, if_true]
      exact .cons r (KR.repl k r b)
    · simp only [e, if_false]
      exact .cons a (KR.repl k r b)
theorem KR.snoc {κ : Type} {k : κ} {y : V} {u : D} (r : VR g H μ y u) : ∀ {kv : List (κ × V)} {kvs : List (κ × D)}, KR g H μ kv kvs → KR g H μ (kv ++ [(k, y)]) (kvs ++ [(k, u)])
  | _, _, .nil => .cons r .nil
  | _, _, .cons a b => .cons a (KR.snoc r b)
theorem KR.put (k : Key) {y : V} {u : D} (r : VR g H μ y u) {kv : List (Key × V)} {kvs : List (Key × D)} (h : KR g H μ kv kvs) : KR g H μ (putK kv k y) (putKD kvs k u) := by
  unfold putK putKD
  rw [h.any k]
  split
  · exact h.repl k r
  · exact h.snoc r
theorem KR.len {κ : Type} : ∀ {kv : List (κ × V)} {kvs : List (κ × D)}, KR g H μ kv kvs → kv.length = kvs.length
  | _, _, .nil => rfl
  | _, _, .cons _ b => by rw [List.length_cons, List.length_cons, KR.len b]
def getK (h : MH) (x : D) : Option (List (Key × D)) := match x with
  | .ref i => match h[i]? with
    | some (.dK l) => some l
    | _ => none
  | _ => none
theorem getK_of {x : V} {d : D} {l : List (Key × D)} (hr : HR g H μ h) (vx : VR g H μ x d) (e : getK h d = some l) : ∃ i p kv, d = .ref i ∧ x = .ref p ∧ μ[i]? = some p ∧ h[i]? = some (.dK l) ∧ H p = some (.dK kv) ∧ KR g H μ kv l := by
  cases vx with
  | @ref p i hi =>
    simp only [getK] at e
    split at e
    · rename_i l' q
      cases e
      obtain ⟨kv, h1, h2⟩ := hr.ob _ _ _ hi q
      exact ⟨i, p, kv, rfl, rfl, hi, q, h1, h2⟩
    · cases e
  | _ => cases e
end
def dDIn (a b : D) (h : MH) : R D := match keyD a, getK h b with
  | some k, some l => .ok (.bl (valD l k).isSome) h
  | _, _ => .bad
def dDNotIn (a b : D) (h : MH) : R D := match keyD a, getK h b with
  | some k, some l => .ok (.bl (!(valD l k).isSome)) h
  | _, _ => .bad
def dDIx (a b : D) (h : MH) : R D := match getK h a, keyD b with
  | some l, some k => match valD l k with
    | some v => .ok v h
    | none => .bad
  | _, _ => .bad
def dDSet (x y d : D) (h : MH) : R Unit := match x, keyD y, getK h x with
  | .ref i, some k, some l => if l.length < 1000000 then .ok () (h.set i (.dK (putKD l k d))) else .bad
  | _, _, _ => .bad
def mDSet (o i e : ME) : MS := fun ρ h => (e ρ h).out ρ fun d h1 => (o ρ h1).out ρ fun x h2 => (i ρ h2).out ρ fun y h3 => (dDSet x y d h3).out ρ fun _ h4 => .nx ρ h4
def dDLen : List D → MH → R D
  | [x], h => match getK h x with
    | some l => .ok (.int l.length) h
    | none => .bad
  | _, _ => .bad
def rDIn : R2 := fun x y H Q => ∃ a k kvs, x = kV k ∧ y = .ref a ∧ H a = some (.dK kvs) ∧ Q (.bl (valV kvs k).isSome) H
def rDNotIn : R2 := fun x y H Q => ∃ a k kvs, x = kV k ∧ y = .ref a ∧ H a = some (.dK kvs) ∧ Q (.bl (!(valV kvs k).isSome)) H
def rSetD : V → V → V → Hp → (Hp → Prop) → Prop := fun o i v H Q => ∃ a k kvs, o = .ref a ∧ i = kV k ∧ H a = some (.dK kvs) ∧ kvs.length < sizeLine ∧ Q (upd H a (.dK (putK kvs k v)))
section
variable {X : Cx} {g : G} {W : WX}
variable {o i e : Expr} {mo mi me : ME} {pos p2 : Pos}
end
/-! ### displays of texts -/
def mergeD (l : List (Str × Str)) (acc : List (Key × D)) : List (Key × D) := match l with
  | [] => acc
  | p :: r => mergeD r (putKD acc (.inr p.1) (.str p.2))
def mDictC (l : List (Str × Str)) : ME := fun _ h => .ok (.ref h.length) (h ++ [.dK (mergeD l [])])
section
variable {X : Cx} {g : G} {W : WX} {pos : Pos}
def trsC (g : G) (W : WX) (l : List (Str × Str)) : List (TE × TE) := l.map fun p => (tE g W (mC (.str p.1)), tE g W (mC (.str p.2)))
end
/-! ### classes of the program -/
def insOf (h : MH) (x : D) : Option (Nat × Str × List (Str × D)) := match x with
  | .ref i => match h[i]? with
    | some (.ins c fs) => some (i, c, fs)
    | _ => none
  | _ => none
def putFD (f : Str) (v : D) : List (Str × D) → List (Str × D)
  | [] => [(f, v)]
  | (g, x) :: r => if g = f then (g, v) :: r else (g, x) :: putFD f v r
def mFld (cs : List Str) (f : Str) (a : ME) : ME := fun ρ h => (a ρ h).bind fun x h1 => match insOf h1 x with
  | some (_, c, fs) => if c ∈ cs then match fs.lookup f with
    | some v => .ok v h1
    | none => .bad else .bad
  | none => .bad
def mSetFld (cs : List Str) (f : Str) (o e : ME) : MS := fun ρ h => (e ρ h).out ρ fun d h1 => (o ρ h1).out ρ fun x h2 => match insOf h2 x with
  | some (i, c, fs) => if c ∈ cs ∧ fs.length < 1000 then .nx ρ (h2.set i (.ins c (putFD f d fs))) else .bad
  | none => .bad
def mNew (c : Str) (F : List D → MH → R D) (r : MA) : ME := fun ρ h => (r ρ h).bind fun xs h1 => (F (.ref h1.length :: xs) (h1 ++ [.ins c []])).bind fun y h2 => match y with
  | .non => .ok (.ref h1.length) h2
  | _ => .bad
abbrev MTab := List (Str × (List D → MH → R D))
def mMethI (m : Str) (tab : MTab) (o : ME) (r : MA) : ME := fun ρ h => (o ρ h).bind fun x h1 => match insOf h1 x with
  | some (_, c, fs) => match tab.lookup c with
    | some F => if fs.lookup m = none then (r ρ h1).bind fun xs h2 => F (x :: xs) h2 else .bad
    | none => .bad
  | none => .bad
def mIsC (tab : List (Str × Bool)) (a : ME) : ME := fun ρ h => (a ρ h).bind fun x h1 => match insOf h1 x with
  | some (_, c, _) => match tab.lookup c with
    | some b => .ok (.bl b) h1
    | none => .bad
  | none => .bad
section
variable {g : G} {H : Hp} {μ : List Addr} {h : MH}
theorem ins_of {x : V} {d : D} {i : Nat} {c : Str} {fs : List (Str × D)} (hr : HR g H μ h) (vx : VR g H μ x d) (e : insOf h d = some (i, c, fs)) :
    ∃ p C dx fv, d = .ref i ∧ x = .ref p ∧ μ[i]? = some p ∧ h[i]? = some (.ins c fs) ∧ H p = some (.ins C dx fv) ∧ g.cm c = some C ∧ KR g H μ fv fs := by
  cases vx with
  | @ref p j hi =>
    simp only [insOf] at e
    split at e
    · rename_i c' fs' q
      cases e
      obtain ⟨C, dx, fv, h1, h2, h3⟩ := hr.ob _ _ _ hi q
      exact ⟨p, C, dx, fv, rfl, rfl, hi, q, h1, h2, h3⟩
    · cases e
  | _ => cases e
theorem KR.lookup (f : Str) : ∀ {fv : List (Str × V)} {fs : List (Str × D)}, KR g H μ fv fs → (fv.lookup f = none ∧ fs.lookup f = none) ∨ ∃ v d, fv.lookup f = some v ∧ fs.lookup f = some d ∧ VR g H μ v d
  | _, _, .nil => .inl ⟨rfl, rfl⟩
  | _, _, @KR.cons _ _ _ _ k v d vs ds a b => by
    rw [List.lookup_cons, List.lookup_cons]
    cases (f == k) with
    | true => exact .inr ⟨v, d, rfl, rfl, a⟩
    | false => exact KR.lookup f b
theorem KR.putF (f : Str) {y : V} {u : D} (r : VR g H μ y u) : ∀ {fv : List (Str × V)} {fs : List (Str × D)}, KR g H μ fv fs → KR g H μ (L2.putF f y fv) (putFD f u fs)
  | _, _, .nil => .cons r .nil
  | _, _, @KR.cons _ _ _ _ k v d vs ds a b => by
    show KR g H μ (if k = f then (k, y) :: vs else (k, v) :: L2.putF f y vs) (if k = f then (k, u) :: ds else (k, d) :: putFD f u ds)
    split
    · exact .cons r b
    · exact .cons a (KR.putF f r b)
end
/-- classes with a field: none of their classes has its name -/
def CT (K : PySem.W.Frag) (f : Str) (cs : List Str) : Prop := ∀ c ∈ cs, ∀ C, cmOf K c = some C → Cls K C ∧ NoAttr K C f
def clsB (K : PySem.W.Frag) (C : Addr) : Bool := PySem.W.plainGet K C Str.empty && (PySem.W.hasDictIn K C && (PySem.W.plainOver K C && decide (PySem.W.findIn K (.ref C) "__setattr__" = some (some (.builtin "object.__setattr__")))))
theorem clsB_ok {K : PySem.W.Frag} {C : Addr} (h : clsB K C = true) : Cls K C := by
  unfold clsB at h
  simp only [Bool.and_eq_true, decide_eq_true_eq] at h
  exact ⟨h.1, h.2.1, h.2.2.1, h.2.2.2⟩
def ctB (K : PySem.W.Frag) (f : Str) (cs : List Str) : Bool := cs.all fun c => match cmOf K c with
  | some C => clsB K C && decide (PySem.W.findIn K (.ref C) f = some none)
  | none => false
theorem ctB_ok {K : PySem.W.Frag} {f : Str} {cs : List Str} (e : ctB K f cs = true) : CT K f cs := fun c hc C q => by
  have z := List.all_eq_true.mp e c hc
  rw [q] at z
  obtain ⟨z1, z2⟩ := Bool.and_eq_true_iff.mp z
  exact ⟨clsB_ok z1, show PySem.W.findIn K (.ref C) f = some none from of_decide_eq_true z2⟩
/-- isinstance of own classes -/
structure ClsI (K : PySem.W.Frag) (C : Addr) : Prop where
  cl : Cls K C
  ha : PySem.W.findIn K (.ref C) "__class__" = some (some (.builtin "object.__class__"))
  hn : PySem.W.specialIn K (.builtin "object.__class__") "__get__" = some (some (.builtin "getset_descriptor.__get__"))
  ht : PySem.W.takesIn K (.builtin "object.__class__") = some true
  hm : PySem.W.mroIn K C (.type "object") = some true
def clsIB (K : PySem.W.Frag) (C : Addr) : Bool := clsB K C && (decide (PySem.W.findIn K (.ref C) "__class__" = some (some (.builtin "object.__class__"))) &&
  (decide (PySem.W.specialIn K (.builtin "object.__class__") "__get__" = some (some (.builtin "getset_descriptor.__get__"))) && (decide (PySem.W.takesIn K (.builtin "object.__class__") = some true) && decide (PySem.W.mroIn K C (.type "object") = some true))))
def IsC (K : PySem.W.Frag) (mg : Str → Option Value) (y : Str) (l : List (Str × Bool)) : Prop := ∃ D, mg y = some (.ref D) ∧ ∀ c b C, l.lookup c = some b → cmOf K c = some C → ClsI K C ∧ PySem.W.kitOne K (.ref C) (.ref D) = some b
def isCB (K : PySem.W.Frag) (y : Str) (l : List (Str × Bool)) : Bool := match cmOf K y with
  | some D => l.all fun p => match cmOf K p.1 with
    | some C => clsIB K C && (PySem.W.kitOne K (.ref C) (.ref D) == some p.2)
    | none => false
  | none => false
/-- a method of a class -/
def MtOf (P : Program) (w : World) (K : PySem.W.Frag) (mg : Str → Option Value) (base : Heap) (c m : Str) (k : Nat) (F : List D → MH → R D) : Prop :=
  ∃ C f fd ps, cmOf K c = some C ∧ Cls K C ∧ Meth K C m f ∧ FnOk P w K mg base (L2.CX P w) k f fd ps (spM (gOf w K) F) ∧ Binds K fd ps []
def Mt (P : Program) (w : World) (K : PySem.W.Frag) (mg : Str → Option Value) (base : Heap) (m : Str) (k : Nat) (tab : MTab) : Prop := ∀ c F, tab.lookup c = some F → MtOf P w K mg base c m k F
/-- a class that is made -/
def MkOf (P : Program) (w : World) (K : PySem.W.Frag) (mg : Str → Option Value) (base : Heap) (c : Str) (k : Nat) (F : List D → MH → R D) : Prop :=
  ∃ C f fd ps, cmOf K c = some C ∧ mg c = some (.ref C) ∧ Mk K C f ∧ FnOk P w K mg base (L2.CX P w) k f fd ps (spM (gOf w K) F) ∧ Binds K fd ps []
section
variable {P : Program} {w : World} {K : PySem.W.Frag} {mg : Str → Option Value} {base : Heap} {m : Str} {k : Nat}
theorem mt_nil : Mt P w K mg base m k [] := fun _ _ h => by cases h
theorem mt_cons {c : Str} {F : List D → MH → R D} {tab : MTab} (e : MtOf P w K mg base c m k F) (r : Mt P w K mg base m k tab) : Mt P w K mg base m k ((c, F) :: tab) := fun c' F' h => by
  rw [List.lookup_cons] at h
  cases q : c' == c with
  | true =>
    rw [q] at h
    cases h
    rw [eq_of_beq q]
    exact e
  | false =>
    rw [q] at h
    exact r c' F' h
theorem MtOf.mono {c : Str} {F : List D → MH → R D} {j : Nat} (e : MtOf P w K mg base c m j F) (h : j ≤ k) : MtOf P w K mg base c m k F := by
  obtain ⟨C, f, fd, ps, h1, h2, h3, h4, h5⟩ := e
  exact ⟨C, f, fd, ps, h1, h2, h3, h4.mono h, h5⟩
theorem Mt.mono {tab : MTab} {j : Nat} (e : Mt P w K mg base m j tab) (h : j ≤ k) : Mt P w K mg base m k tab := fun c F q => (e c F q).mono h
end
section
variable {X : Cx} {W : WX} {a e o : Expr} {es : List Expr} {ma me mo : ME} {mr : MA} {p p2 pos apos : Pos} {f m : Str} {cs : List Str}
theorem se_fld (T : CT X.K f cs) (ha : PE X a (tE (gOf X.w X.K) W ma)) (hb : attributeBase a f X.env (eval a X.env) = eval a X.env := by rfl) : PE X (.Attribute a f pos) (tE (gOf X.w X.K) W (mFld cs f ma)) :=
  pe_mono (pe_fld ha hb) fun σ H Q ⟨ρ, h, μ, sr, hr, bk⟩ => step (rel := VR) (rel' := VR) (ma := ma) (Q' := Q) sr hr bk fun x d h1 H1 μ1 m1 sr1 hr1 vx bk1 => by
    split at bk1
    · rename_i i c fs e1
      obtain ⟨p, C, dx, fv, rfl, rfl, hi, q, hp, hC, kr⟩ := ins_of hr1 vx e1
      split at bk1
      · rename_i hc
        obtain ⟨c1, c2⟩ := T c hc C hC
        split at bk1
        · rename_i v ev
          rcases kr.lookup f with ⟨_, z⟩ | ⟨v', d', z1, z2, z3⟩
          · rw [ev] at z; cases z
          · rw [ev] at z2
            cases z2
            exact ⟨p, C, dx, fv, v', rfl, hp, c1, c2, z1, bk1.val hr1 z3⟩
        · exact bk1.elim
      · exact bk1.elim
    · exact bk1.elim
theorem sx_setFld (T : CT X.K f cs) (ho : PE X o (tE (gOf X.w X.K) W mo)) (he : PE X e (tE (gOf X.w X.K) W me)) (hs : swapsWith e (some (.Attribute o f p2)) pos.line X.env = pure false := by rfl) :
    PS X (.Assign [.Attribute o f p2] e pos) (tS (gOf X.w X.K) W (mSetFld cs f mo me)) :=
  ps_mono (ps_fld ho he hs) fun E σ H ⟨ρ, h, μ, sr, hr, bk⟩ =>
    stepS (rel := VR) (ma := me) (E := E) sr hr bk fun v d h1 H1 μ1 m1 sr1 hr1 vd bk1 => stepS (rel := VR) (ma := mo) (E := E) sr1 hr1 bk1 fun x a h2 H2 μ2 m2 sr2 hr2 vx bk2 => by
      have vd := vd.mono m2
      split at bk2
      · rename_i i c fs e1
        obtain ⟨p, C, dx, fv, rfl, rfl, hi, q, hp, hC, kr⟩ := ins_of hr2 vx e1
        split at bk2
        · rename_i hc
          obtain ⟨c1, c2⟩ := T c hc.1 C hC
          refine ⟨p, C, dx, fv, rfl, hp, c1, c2, by rw [kr.len]; exact hc.2, ?_⟩
          have m5 : Mon (gOf X.w X.K) H2 (upd H2 p (.ins C dx (L2.putF f v fv))) μ2 μ2 := (Saf.ins hp).mon
          exact bk2 _ _ μ2 m5 (sr2.mono m5) (hr2.write (u := .ins c (putFD f d fs)) hi q rfl (Saf.ins hp) rfl ⟨C, dx, _, upd_same, hC, (kr.putF f vd).mono m5⟩)
        · exact bk2.elim
      · exact bk2.elim
theorem run_makeS {CX : CXT} {k : Nat} {C f : Addr} {fd : FuncData} {ps : List Str} {sp : Sp} {E : XK} {pins : List (Addr × Obj)} {σ : L2.St} {H : Hp} {s : Shared} {Q : VK} {us : List Value} {vs : List V} (M : Mk X.K C f) (F : FnOk X.prog X.w X.K X.mg X.base CX k f fd ps sp)
    (hr : Room (k + 1) X.A) (hb : Binds X.K fd ps []) (hx : PassesAt CX X σ E) (I : Inv X pins σ H s) (r : Vals vs us)
    (h : ∀ x dx, H x = none → H dx = none → dx ≠ x → sp (.ref x :: vs) (upd (upd H dx (.own x)) x (.ins C dx [])) (fun v H2 => v = .non ∧ Q (.ref x) H2) E) :
    wpAny (model X.prog X.w) X.A (call (.ref C) us) (EP X pins σ Q) X.xe s := by
  have hq := h (s.heap.objs.size + 1) s.heap.objs.size (I.hok.fresh (Nat.le_succ _)) (I.hok.fresh (Nat.le_refl _)) (Nat.ne_of_lt (Nat.lt_succ_self _))
  have I2 := Inv.made (C := C) I
  have r2 : Vals (V.ref (s.heap.objs.size + 1) :: vs) (Value.ref (s.heap.objs.size + 1) :: us) := .cons rfl r
  have hl : (Value.ref (s.heap.objs.size + 1) :: us).length = ps.length := by
    have e := r2.length
    rw [F.len _ _ _ _ hq] at e
    exact e.symm
  have b := hb _ (Value.ref (s.heap.objs.size + 1) :: us) I2.kIn (by rw [List.append_nil]; exact hl)
  rw [List.append_nil] at b
  refine wpAny_call (make_map (f := f) I.kIn M.makes M.init (beq_iff_eq.mp M.fn) (codeAny_mono (F.run _ X.stack _ _ ⟨Value.ref (s.heap.objs.size + 1) :: us, []⟩ (Value.ref (s.heap.objs.size + 1) :: us) _ _ E (hr.make C us [])
    (I2.env0.make C us []) b r2 hq) fun r s' hq' => ?_))
  cases r with
  | error e => exact hx pins _ _ e s' I2 hq'
  | ok fl =>
    cases fl with
    | ret u =>
      obtain ⟨v, H', I3, rv, ev, q3⟩ := I2.after hq'
      subst ev
      exact ⟨rv, ⟨V.ref (s.heap.objs.size + 1), H', I3, rfl, q3⟩⟩
    | next => exact False.elim hq'
    | brk => exact False.elim hq'
    | cont => exact False.elim hq'
theorem new_of {g : G} {c : Str} {C : Addr} {F : List D → MH → R D} {H : Hp} {μ : List Addr} {h : MH} {vs : List V} {ds : List D} {Q : VK} {E : XK} (hC : g.cm c = some C) (hr : HR g H μ h) (vd : VRs g H μ vs ds)
    (bk : Bk (VR g) g H μ ((F (.ref h.length :: ds) (h ++ [.ins c []])).bind fun y h2 => match y with | .non => .ok (.ref h.length) h2 | _ => .bad) Q E) (x dx : Addr) (hx : H x = none) (hd : H dx = none) (ne : dx ≠ x) :
    spM g F (.ref x :: vs) (upd (upd H dx (.own x)) x (.ins C dx [])) (fun v H2 => v = .non ∧ Q (.ref x) H2) E := by
  have m1 : Mon g H (upd H dx (.own x)) μ μ := (Saf.fresh hd).mon
  have hr1 : HR g (upd H dx (.own x)) μ h := hr.laid hd
  have hx1 : (upd H dx (.own x)) x = none := by rw [upd_ne (Ne.symm ne)]; exact hx
  have m2 : Mon g (upd H dx (.own x)) (upd (upd H dx (.own x)) x (.ins C dx [])) μ (μ ++ [x]) := mon_push hx1
  have hr2 := hr1.push (u := .ins c []) hx1 (o := .ins C dx []) ⟨C, dx, [], upd_same, hC, .nil⟩
  have ix : (μ ++ [x])[h.length]? = some x := ix_push hr.len
  refine ⟨.ref h.length :: ds, h ++ [.ins c []], μ ++ [x], .cons (.ref ix) (vd.mono (m1.trans m2)), hr2, ?_⟩
  refine Bk.bind (Bk.mono (m1.trans m2) bk) fun y h3 v H3 μ3 _ m3 hr3 vy bk3 => ?_
  cases vy with
  | non => exact ⟨rfl, bk3.val hr3 (.ref (m3.ix ix))⟩
  | _ => exact bk3.elim
theorem se_new {c : Str} {k : Nat} {F : List D → MH → R D} (M : MkOf X.prog X.w X.K X.mg X.base c k F) (hr : Room (k + 1) X.A) (tk : Takes X W) (ha : PA X (e :: es) (tA (gOf X.w X.K) W mr)) (hg : Gl X c := by rfl) (hdb : (c == ("__debug__" : Str)) = false := by decide)
    (he : starEach (e :: es) X.env = (false, eval e X.env) :: starEach es X.env := by rfl) (hpl : (backTo pos (starEach es X.env)).any (·.1) = false := by rfl) : PE X (.Call (.Name c p) (e :: es) [] pos) (tE (gOf X.w X.K) W (mNew c F mr)) := by
  obtain ⟨C, f, fd, ps, hC, hm, M1, F1, b⟩ := M
  refine ⟨fun pins s σ H Q I h => ?_⟩
  refine wpAny_Call_Name_kw (ld_glob I hg hm ?_ hdb)
  obtain ⟨ρ, hh, μ, sr, hr', bk⟩ := h
  have st : tA (gOf X.w X.K) W mr σ H fun vs H1 => ∀ x dx, H1 x = none → H1 dx = none → dx ≠ x → spM (gOf X.w X.K) F (.ref x :: vs) (upd (upd H1 dx (.own x)) x (.ins C dx [])) (fun v H2 => v = .non ∧ Q (.ref x) H2) (WE W σ) :=
    step (rel := VRs) (rel' := VR) (ma := mr) (Q' := Q) sr hr' bk fun vs ds h1 H1 μ1 m1 sr1 hr1 vd bk1 => fun x dx hx hd ne => new_of hC hr1 vd bk1 x dx hx hd ne
  refine PySem.W.callWith_K (h₀ := X.base) I.ok.mod.kin M1.kp (thn (ha.run pos pins s σ H _ I st) fun us s1 ⟨vs, H1, I1, r, q⟩ => ⟨I1.kIn, ?_⟩) he hpl
  exact run_makeS M1 F1 hr b (passAt tk σ) I1 r q
theorem se_meth {k : Nat} {tab : MTab} {pl : Sem Bool} (M : Mt X.prog X.w X.K X.mg X.base m k tab) (hr : Room k X.A) (tk : Takes X W) (ho : PE X o (tE (gOf X.w X.K) W mo)) (ha : PA X (e :: es) (tA (gOf X.w X.K) W mr))
    (hst : starEach (e :: es) X.env = (false, eval e X.env) :: starEach es X.env := by rfl) (hpl : (backTo pos (starEach es X.env)).any (·.1) = false := by rfl)
    (ht : eval (.Call (.Attribute o m apos) (e :: es) [] pos) X.env = (do
      let ov ← eval o X.env
      standAt apos.atName
      let (f, first) ← holding [ov] (getMethod ov m pl)
      callWith pos f first (backTo pos (starEach (e :: es) X.env)) (backToKw pos (keywordEach [] X.env))) := by rfl) :
    PE X (.Call (.Attribute o m apos) (e :: es) [] pos) (tE (gOf X.w X.K) W (mMethI m tab mo mr)) := by
  refine ⟨fun pins s σ H Q I ⟨ρ, h, μ, sr, hr', bk⟩ => ?_⟩
  have st : tE (gOf X.w X.K) W mo σ H fun x H1 => ∃ a C dx fv f fd ps F, x = .ref a ∧ H1 a = some (.ins C dx fv) ∧ Cls X.K C ∧ Meth X.K C m f ∧ FnOk X.prog X.w X.K X.mg X.base (L2.CX X.prog X.w) k f fd ps (spM (gOf X.w X.K) F) ∧ Binds X.K fd ps [] ∧ fv.lookup m = none ∧
      tA (gOf X.w X.K) W mr σ H1 fun vs H2 => spM (gOf X.w X.K) F (.ref a :: vs) H2 Q (WE W σ) :=
    step (rel := VR) (rel' := VR) (ma := mo) (Q' := Q) sr hr' bk fun x d h1 H1 μ1 m1 sr1 hr1 vx bk1 => by
      split at bk1
      · rename_i i c fs e1
        obtain ⟨a, C, dx, fv, rfl, rfl, hi, q, hp, hC, kr⟩ := ins_of hr1 vx e1
        split at bk1
        · rename_i F eF
          obtain ⟨C', f, fd, ps, hC', h2, h3, h4, h5⟩ := M c F eF
          have hC'' : cmOf X.K c = some C := hC
          rw [hC''] at hC'
          cases hC'
          split at bk1
          · rename_i hl
            refine ⟨a, C, dx, fv, f, fd, ps, F, rfl, hp, h2, h3, h4, h5, ?_, ?_⟩
            · rcases kr.lookup m with ⟨z, _⟩ | ⟨_, _, _, z, _⟩
              · exact z
              · rw [hl] at z; cases z
            · exact step (rel := VRs) (rel' := VR) (ma := mr) (Q' := Q) sr1 hr1 bk1 fun vs ds h2 H2 μ2 m2 sr2 hr2 vd bk2 => ⟨_, h2, μ2, .cons (.ref (m2.ix hi)) vd, hr2, bk2⟩
          · exact bk1.elim
        · exact bk1.elim
      · exact bk1.elim
  refine PySem.W.methodCall_KW (pl := pl) (thn (ho.run pins s σ H _ I st) fun u s1 ⟨x, H1, I1, rx, a, C, dx, fv, f, fd, ps, F, ex, ea, c, hm, F1, b, l, q⟩ => ?_) ht
  subst ex
  obtain rfl : u = Value.ref a := rx
  refine getmeth_ok I1 ea c hm l ?_
  refine PySem.W.callWith_K (first := [.ref a]) (h₀ := X.base) I.ok.mod.kin hm.kp (thn (ha.run pos pins s1 σ H1 _ I1 q) fun us s2 ⟨vs, H2, I2, r, q2⟩ => ⟨I2.kIn, ?_⟩) hst hpl
  exact run_fnS (E := WE W) (us := .ref a :: us) (vs := .ref a :: vs) F1 hr b (passAt tk σ) I2 (.cons rfl r) q2
theorem se_meth0 {k : Nat} {tab : MTab} {pl : Sem Bool} (M : Mt X.prog X.w X.K X.mg X.base m k tab) (hr : Room k X.A) (tk : Takes X W) (ho : PE X o (tE (gOf X.w X.K) W mo))
    (ht : eval (.Call (.Attribute o m apos) [] [] pos) X.env = (do
      let ov ← eval o X.env
      standAt apos.atName
      let (f, first) ← holding [ov] (getMethod ov m pl)
      callWith pos f first (backTo pos (starEach [] X.env)) (backToKw pos (keywordEach [] X.env))) := by rfl) :
    PE X (.Call (.Attribute o m apos) [] [] pos) (tE (gOf X.w X.K) W (mMethI m tab mo mNil)) := by
  refine ⟨fun pins s σ H Q I ⟨ρ, h, μ, sr, hr', bk⟩ => ?_⟩
  have st : tE (gOf X.w X.K) W mo σ H fun x H1 => ∃ a C dx fv f fd ps F, x = .ref a ∧ H1 a = some (.ins C dx fv) ∧ Cls X.K C ∧ Meth X.K C m f ∧ FnOk X.prog X.w X.K X.mg X.base (L2.CX X.prog X.w) k f fd ps (spM (gOf X.w X.K) F) ∧ Binds X.K fd ps [] ∧ fv.lookup m = none ∧
      spM (gOf X.w X.K) F [.ref a] H1 Q (WE W σ) :=
    step (rel := VR) (rel' := VR) (ma := mo) (Q' := Q) sr hr' bk fun x d h1 H1 μ1 m1 sr1 hr1 vx bk1 => by
      split at bk1
      · rename_i i c fs e1
        obtain ⟨a, C, dx, fv, rfl, rfl, hi, q, hp, hC, kr⟩ := ins_of hr1 vx e1
        split at bk1
        · rename_i F eF
          obtain ⟨C', f, fd, ps, hC', h2, h3, h4, h5⟩ := M c F eF
          have hC'' : cmOf X.K c = some C := hC
          rw [hC''] at hC'
          cases hC'
          split at bk1
          · rename_i hl
            refine ⟨a, C, dx, fv, f, fd, ps, F, rfl, hp, h2, h3, h4, h5, ?_, ?_⟩
            · rcases kr.lookup m with ⟨z, _⟩ | ⟨_, _, _, z, _⟩
              · exact z
              · rw [hl] at z; cases z
            · exact ⟨_, h1, μ1, .cons (.ref hi) .nil, hr1, bk1⟩
          · exact bk1.elim
        · exact bk1.elim
      · exact bk1.elim
  refine PySem.W.methodCall_KW (pl := pl) (thn (ho.run pins s σ H _ I st) fun u s1 ⟨x, H1, I1, rx, a, C, dx, fv, f, fd, ps, F, ex, ea, c, hm, F1, b, l, q⟩ => ?_) ht
  subst ex
  obtain rfl : u = Value.ref a := rx
  refine getmeth_ok I1 ea c hm l ?_
  exact PySem.W.callWith_K0 (first := [.ref a]) I1.kIn hm.kp (run_fnS (E := WE W) (us := [.ref a]) (vs := [.ref a]) F1 hr b (passAt tk σ) I1 (.cons rfl .nil) q)
end
end Mi

/-! Defs of classes by their texts; defs with defaults. -/
namespace Mi
open PySem L2 PySem.Spec PyProof.Rows
/-- a method as it stands -/
def Dm (K : PySem.W.Frag) (c m qual : Str) (st : Stmt) (ps : List Str) : Prop := ∃ C f fd, cmOf K c = some C ∧ Cls K C ∧ Meth K C m f ∧ Fun K m qual st f fd ∧ Binds K fd ps []
/-- an __init__ as it stands -/
def Di (K : PySem.W.Frag) (mg : Str → Option Value) (c qual : Str) (st : Stmt) (ps : List Str) : Prop := ∃ C f fd, cmOf K c = some C ∧ mg c = some (.ref C) ∧ Mk K C f ∧ Fun K "__init__" qual st f fd ∧ Binds K fd ps []
section
variable {P : Program} {w : World} {K : PySem.W.Frag} {mg : Str → Option Value} {base : Heap} {h : Heap}
theorem dm_mk {c m qual : Str} {st : Stmt} {ps : List Str} {C f : Addr} {oc : Value} {od an : Option Addr} {osl : Array (Option Value)} {kV doc pm cdv ct : Value}
    (a : PySem.W.nsIn K mainGlobals c = some (some (.ref C))) (hc : clsB K C = true) (hf : PySem.W.findIn K (.ref C) m = some (some (.ref f))) (hn : PySem.W.isFn K (.ref f) = true)
    (l : K.lookup f = some ⟨oc, od, .func (PySem.W.fnOf m qual (defArgs st) (defBody st) (defScope st) .none kV doc pm an cdv ct), osl⟩)
    (e : PySem.W.codeIn K cdv qual = true) (k : PySem.W.keepIn K (.ref f) = true)
    (hb : ∀ (kV doc pm : Value) (an : Option Addr) (cdv ct : Value) (us : List Value), us.length = ps.length → bindArgs (PySem.W.fnOf m qual (defArgs st) (defBody st) (defScope st) .none kV doc pm an cdv ct) ⟨us, []⟩ = pure (ps.zip us)) : Dm K c m qual st ps := by
  have F := fun_mk (st := st) l e k
  exact ⟨C, f, _, by unfold cmOf; rw [a], clsB_ok hc, ⟨hf, hn, k⟩, F, F.binds hb⟩
theorem di_mk {c qual : Str} {st : Stmt} {ps : List Str} {C f : Addr} {oc : Value} {od an : Option Addr} {osl : Array (Option Value)} {kV doc pm cdv ct : Value} (X : K.In h) (G : h.Ns mainGlobals mg)
    (a : PySem.W.nsIn K mainGlobals c = some (some (.ref C))) (hm : PySem.W.makesIn K C = true) (hf : PySem.W.findIn K (.ref C) "__init__" = some (some (.ref f))) (hn : PySem.W.isFn K (.ref f) = true) (hk : PySem.W.keepIn K (.ref C) = true)
    (l : K.lookup f = some ⟨oc, od, .func (PySem.W.fnOf "__init__" qual (defArgs st) (defBody st) (defScope st) .none kV doc pm an cdv ct), osl⟩)
    (e : PySem.W.codeIn K cdv qual = true) (k : PySem.W.keepIn K (.ref f) = true)
    (hb : ∀ (kV doc pm : Value) (an : Option Addr) (cdv ct : Value) (us : List Value), us.length = ps.length → bindArgs (PySem.W.fnOf "__init__" qual (defArgs st) (defBody st) (defScope st) .none kV doc pm an cdv ct) ⟨us, []⟩ = pure (ps.zip us)) : Di K mg c qual st ps := by
  have F := fun_mk (st := st) l e k
  exact ⟨C, f, _, by unfold cmOf; rw [a], PySem.W.mg_of X G a, ⟨hm, hf, hn, hk⟩, F, F.binds hb⟩
theorem mtof_mk {c m qual : Str} {st : Stmt} {N ps : List Str} {k : Nat} {body : MS} (d : Dm K c m qual st ps) (S : FnScope N ps (defScope st))
    (hb : ∀ (f : Addr) (cdv : Value) (A : Around) (outer : List Env) (s : Shared) (H : Hp) (E : XK), Room k (A.deeper (PyProof.Rows.envOfC qual (defScope st) s.heap.objs.size f cdv)) →
      PSs (cxOf (L2.CX P w) P w K mg base N qual (defScope st) f cdv A outer s H E) (defBody st) (tS (gOf w K) (fun c d _ H' => E c d H') body)) : MtOf P w K mg base c m (k + 1) (mFun ps.length N.length body) := by
  obtain ⟨C, f, fd, h1, h2, h3, F, b⟩ := d
  exact ⟨C, f, fd, ps, h1, h2, h3, fn_mk F S (hb f), b⟩
theorem mkof_mk {c qual : Str} {st : Stmt} {N ps : List Str} {k : Nat} {body : MS} (d : Di K mg c qual st ps) (S : FnScope N ps (defScope st))
    (hb : ∀ (f : Addr) (cdv : Value) (A : Around) (outer : List Env) (s : Shared) (H : Hp) (E : XK), Room k (A.deeper (PyProof.Rows.envOfC qual (defScope st) s.heap.objs.size f cdv)) →
      PSs (cxOf (L2.CX P w) P w K mg base N qual (defScope st) f cdv A outer s H E) (defBody st) (tS (gOf w K) (fun c d _ H' => E c d H') body)) : MkOf P w K mg base c (k + 1) (mFun ps.length N.length body) := by
  obtain ⟨C, f, fd, h1, h2, h3, F, b⟩ := d
  exact ⟨C, f, fd, ps, h1, h2, h3, fn_mk F S (hb f), b⟩
theorem MkOf.mono {c : Str} {F : List D → MH → R D} {j k : Nat} (e : MkOf P w K mg base c j F) (h : j ≤ k) : MkOf P w K mg base c k F := by
  obtain ⟨C, f, fd, ps, h1, h2, h3, h4, h5⟩ := e
  exact ⟨C, f, fd, ps, h1, h2, h3, h4.mono h, h5⟩
end
section
variable {P : Program} {w : World} {K : PySem.W.Frag} {mg : Str → Option Value} {base : Heap}
end
/-! ### defaults -/
def vOf : D → V
  | .non => .non | .bl b => .bl b | .int i => .int i | .str x => .str x | _ => .non
def DfD (K : PySem.W.Frag) (mg : Str → Option Value) (x : Str) (st : Stmt) (ps : List Str) (ds : List D) : Prop := ∃ f fd, FunD K x x (defArgs st) (defBody st) (defScope st) (ds.map vOf) [] f fd ∧ mg x = some (.ref f) ∧ ∀ j, j ≤ ds.length → ∃ uds, Vals ((ds.map vOf).drop j) uds ∧ Binds K fd ps uds
def CalD (P : Program) (w : World) (K : PySem.W.Frag) (mg : Str → Option Value) (base : Heap) (x : Str) (k : Nat) (F : List D → MH → R D) (ds : List D) : Prop :=
  ∃ f fd ps, FnOk P w K mg base (L2.CX P w) k f fd ps (spM (gOf w K) F) ∧ mg x = some (.ref f) ∧ PySem.W.keepIn K (.ref f) = true ∧ ∀ j, j ≤ ds.length → ∃ uds, Vals ((ds.map vOf).drop j) uds ∧ Binds K fd ps uds
def mCallD (F : List D → MH → R D) (ds : List D) (r : MA) : ME := fun ρ h => (r ρ h).bind fun xs h1 => F (xs ++ ds) h1
section
variable {P : Program} {w : World} {K : PySem.W.Frag} {mg : Str → Option Value} {base : Heap}
end
section
variable {X : Cx} {W : WX} {e : Expr} {es : List Expr} {mr : MA} {p pos : Pos}
end
end Mi

/-! The calculus for classes, dicts, defaults; cells of one's own of any kind. -/
namespace Mi
open PySem L2
/-! ### cells of any kind -/
abbrev CL := List (Nat × MO)
structure Cel (h0 h : MH) (L : CL) : Prop where
  pre : h0 <+: h
  cell : ∀ p ∈ L, h0.length ≤ p.1 ∧ h[p.1]? = some p.2
  nd : (L.map (·.1)).Nodup
section
variable {h0 h h' h1 : MH} {L M : CL} {i : Nat} {l l' : MO}
theorem Cel.nil (h : MH) : Cel h h [] := ⟨List.prefix_rfl, fun p hp => by simp at hp, List.nodup_nil⟩
theorem Cel.ext (o : Cel h0 h L) (p : h <+: h') : Cel h0 h' L := ⟨o.pre.trans p, fun q hq => ⟨(o.cell q hq).1, pre_get p (o.cell q hq).2⟩, o.nd⟩
theorem Cel.lt (o : Cel h0 h L) {p : Nat × MO} (hp : p ∈ L) : p.1 < h.length := (List.getElem?_eq_some_iff.mp (o.cell p hp).2).1
theorem Cel.add (o : Cel h0 h L) (hi : h0.length ≤ i) (e : h[i]? = some l) (n : ∀ p ∈ L, p.1 ≠ i) : Cel h0 h ((i, l) :: L) :=
  ⟨o.pre, fun q hq => by
    rcases List.mem_cons.mp hq with rfl | hq
    · exact ⟨hi, e⟩
    · exact o.cell q hq, List.nodup_cons.mpr ⟨fun hm => by
      obtain ⟨p, hp, rfl⟩ := List.mem_map.mp hm
      exact n p hp rfl, o.nd⟩⟩
theorem Cel.alloc (o : Cel h0 h L) (x : MO) : Cel h0 (h ++ [x]) ((h.length, x) :: L) :=
  (o.ext (List.prefix_append _ _)).add (o.pre.length_le) (by simp) fun p hp => Nat.ne_of_lt (o.lt hp)
theorem Cel.at (o : Cel h0 h L) (n : Nat) (e : L[n]? = some (i, l)) : h[i]? = some l := (o.cell _ (List.mem_of_getElem? e)).2
theorem Cel.atL {l : List D} (o : Cel h0 h L) (n : Nat) (e : L[n]? = some (i, .lst l)) : getL h i = some l := getL_of (o.at n e)
theorem Cel.isL {l : List D} (o : Cel h0 h L) (n : Nat) (e : L[n]? = some (i, .lst l)) : isListD (.ref i) h = true := by rw [isListD_ref, o.atL n e]; rfl
theorem Cel.setAt (o : Cel h0 h L) (n : Nat) (e : L[n]? = some (i, l)) (l' : MO) : Cel h0 (h.set i l') (L.set n (i, l')) := by
  have hn : n < L.length := (List.getElem?_eq_some_iff.mp e).1
  have en : L[n] = (i, l) := (List.getElem?_eq_some_iff.mp e).2
  have hi : i < h.length := o.lt (List.mem_of_getElem? e)
  have h0i : h0.length ≤ i := (o.cell _ (List.mem_of_getElem? e)).1
  have em : (L.set n (i, l')).map (·.1) = L.map (·.1) := by
    rw [List.map_set]
    refine List.ext_getElem (by simp) fun k h1 h2 => ?_
    rw [List.getElem_set]
    split
    · rename_i q
      subst q
      rw [List.getElem_map, en]
    · rfl
  refine ⟨?_, fun q hq => ?_, by rw [em]; exact o.nd⟩
  · obtain ⟨t, rfl⟩ := o.pre
    rw [List.set_append_right _ _ h0i]
    exact List.prefix_append _ _
  · obtain ⟨k, hk, e2⟩ := List.mem_iff_getElem.mp hq
    rw [List.getElem_set] at e2
    split at e2
    · subst e2
      exact ⟨h0i, by simp [hi]⟩
    · rename_i hne
      have hk' : k < L.length := by simpa using hk
      have hm : q ∈ L := e2 ▸ List.getElem_mem hk'
      refine ⟨(o.cell q hm).1, ?_⟩
      rw [List.getElem?_set_ne]
      · exact (o.cell q hm).2
      · intro z
        have h1 : (L.map (·.1))[n]'(by simpa using hn) = (L.map (·.1))[k]'(by simpa using hk') := by
          rw [List.getElem_map, List.getElem_map, en, e2]
          exact z
        exact hne ((List.getElem_inj o.nd).mp h1)
theorem Cel.trans (o : Cel h0 h L) (o' : Cel h h' M) : Cel h0 h' (M ++ L) := by
  have o2 := o.ext o'.pre
  refine ⟨o2.pre, fun q hq => ?_, ?_⟩
  · rcases List.mem_append.mp hq with hq | hq
    · exact ⟨Nat.le_trans o.pre.length_le (o'.cell q hq).1, (o'.cell q hq).2⟩
    · exact o2.cell q hq
  · rw [List.map_append, List.nodup_append]
    refine ⟨o'.nd, o.nd, fun a ha b hb => ?_⟩
    obtain ⟨p, hp, rfl⟩ := List.mem_map.mp ha
    obtain ⟨q, hq, rfl⟩ := List.mem_map.mp hb
    have h1 := (o'.cell p hp).1
    have h2 := o.lt hq
    omega
theorem Cel.sub (o : Cel h0 h L) (s : M.Sublist L) : Cel h0 h M := ⟨o.pre, fun p hp => o.cell p (s.subset hp), (s.map _).nodup o.nd⟩
theorem Cel.tail {p : Nat × MO} (o : Cel h0 h (p :: L)) : Cel h0 h L := o.sub (List.sublist_cons_self _ _)
theorem Cel.none (o : Cel h0 h L) : Cel h0 h [] := o.sub (List.nil_sublist _)
/-! ### rules -/
variable {Q : D → MH → Prop} {E : XE} {a b o : ME} {r : MA} {ρ : Slots} {N : SP} {T : D → MH → Prop} {B C : SP} {X : SX}
def fldK (cs : List Str) (f : Str) (x : D) (h1 : MH) : R D := match insOf h1 x with
  | some (_, c, fs) => if c ∈ cs then match fs.lookup f with
    | some v => .ok v h1
    | none => .bad else .bad
  | none => .bad
theorem w_fld {cs : List Str} {f : Str} (q : Sat (a ρ h) (fun x h1 => Sat (fldK cs f x h1) Q E) E) : Sat (mFld cs f a ρ h) Q E := Sat.bnd q
theorem insOf_of {c : Str} {fs : List (Str × D)} (e : h[i]? = some (.ins c fs)) : insOf h (.ref i) = some (i, c, fs) := by simp only [insOf, e]
theorem w_fldK {cs : List Str} {f c : Str} {fs : List (Str × D)} {v : D} (e : h[i]? = some (.ins c fs)) (hc : c ∈ cs) (hf : fs.lookup f = some v) (q : Q v h) : Sat (fldK cs f (.ref i) h) Q E := w_eq (by unfold fldK; rw [insOf_of e]; simp only [hc, if_true, hf]) q
def setFldK (cs : List Str) (f : Str) (d x : D) (ρ : Slots) (h2 : MH) : Out := match insOf h2 x with
  | some (i, c, fs) => if c ∈ cs ∧ fs.length < 1000 then .nx ρ (h2.set i (.ins c (putFD f d fs))) else .bad
  | none => .bad
theorem w_setFld {cs : List Str} {f : Str} (q : Sat (b ρ h) (fun d h1 => Sat (a ρ h1) (fun x h2 => OS (setFldK cs f d x ρ h2) N T B C X) fun x fs h => X x fs ρ h) fun x fs h => X x fs ρ h) : OS (mSetFld cs f a b ρ h) N T B C X :=
  Sat.ot (q.monoE (fun _ _ z => Sat.ot z) fun _ _ _ z => z)
theorem w_setFldK {cs : List Str} {f c : Str} {fs : List (Str × D)} {d : D} (e : h[i]? = some (.ins c fs)) (hc : c ∈ cs) (hl : fs.length < 1000) (q : N ρ (h.set i (.ins c (putFD f d fs)))) : OS (setFldK cs f d (.ref i) ρ h) N T B C X := by
  unfold setFldK
  rw [insOf_of e]
  simp only
  rw [if_pos ⟨hc, hl⟩]
  exact w_nx q
theorem w_new {c : Str} {F : List D → MH → R D} (q : Sat (r ρ h) (fun xs h1 => Sat (F (.ref h1.length :: xs) (h1 ++ [.ins c []])) (fun y h2 => y = .non ∧ Q (.ref h1.length) h2) E) E) : Sat (mNew c F r ρ h) Q E :=
  Sat.bnd (q.monoE (fun xs h1 z => Sat.bnd (z.monoE (fun y h2 z => by obtain ⟨rfl, z⟩ := z; exact w_ok z) fun _ _ _ z => z)) fun _ _ _ z => z)
def methK (m : Str) (tab : MTab) (r : MA) (ρ : Slots) (x : D) (h1 : MH) : R D := match insOf h1 x with
  | some (_, c, fs) => match tab.lookup c with
    | some F => if fs.lookup m = none then (r ρ h1).bind fun xs h2 => F (x :: xs) h2 else .bad
    | none => .bad
  | none => .bad
theorem w_methI {m : Str} {tab : MTab} (q : Sat (a ρ h) (fun x h1 => Sat (methK m tab r ρ x h1) Q E) E) : Sat (mMethI m tab a r ρ h) Q E := Sat.bnd q
theorem w_methK {m c : Str} {tab : MTab} {fs : List (Str × D)} {F : List D → MH → R D} (e : h[i]? = some (.ins c fs)) (hF : tab.lookup c = some F) (hl : fs.lookup m = none) (q : Sat (r ρ h) (fun xs h2 => Sat (F (.ref i :: xs) h2) Q E) E) : Sat (methK m tab r ρ (.ref i) h) Q E := by
  unfold methK
  rw [insOf_of e]
  simp only [hF]
  rw [if_pos hl]
  exact Sat.bnd q
def isCK (tab : List (Str × Bool)) (x : D) (h1 : MH) : R D := match insOf h1 x with
  | some (_, c, _) => match tab.lookup c with
    | some b => .ok (.bl b) h1
    | none => .bad
  | none => .bad
theorem w_isC {tab : List (Str × Bool)} (q : Sat (a ρ h) (fun x h1 => Sat (isCK tab x h1) Q E) E) : Sat (mIsC tab a ρ h) Q E := Sat.bnd q
theorem w_isCK {tab : List (Str × Bool)} {c : Str} {fs : List (Str × D)} {k : Bool} (e : h[i]? = some (.ins c fs)) (hk : tab.lookup c = some k) (q : Q (.bl k) h) : Sat (isCK tab (.ref i) h) Q E := w_eq (by unfold isCK; rw [insOf_of e]; simp only [hk]) q
theorem w_callD {F : List D → MH → R D} {ds : List D} (q : Sat (r ρ h) (fun xs h1 => Sat (F (xs ++ ds) h1) Q E) E) : Sat (mCallD F ds r ρ h) Q E := Sat.bnd q
theorem w_mDSet (q : Sat (b ρ h) (fun d h1 => Sat (a ρ h1) (fun x h2 => Sat (o ρ h2) (fun y h3 => Sat (dDSet x y d h3) (fun _ h4 => N ρ h4) fun x fs h => X x fs ρ h) fun x fs h => X x fs ρ h) fun x fs h => X x fs ρ h) fun x fs h => X x fs ρ h) : OS (mDSet a o b ρ h) N T B C X :=
  Sat.ot (q.monoE (fun _ _ z => Sat.ot (z.monoE (fun _ _ z => Sat.ot (z.monoE (fun _ _ z => Sat.ot (z.monoE (fun _ _ z => w_nx z) fun _ _ _ z => z)) fun _ _ _ z => z)) fun _ _ _ z => z)) fun _ _ _ z => z)
theorem mkA {x : Str} {k : List D → MH → R D} {l : MTab} : List.lookup x ((x, k) :: l) = some k := by simp [List.lookup]
theorem mkB {x y : Str} {b : List D → MH → R D} {l : MTab} {r : Option (List D → MH → R D)} (h : (x == y) = false) (q : List.lookup x l = r) : List.lookup x ((y, b) :: l) = r := by rw [List.lookup_cons, h]; exact q
theorem fkA {x : Str} {k : D} {l : List (Str × D)} : List.lookup x ((x, k) :: l) = some k := by simp [List.lookup]
theorem fkB {x y : Str} {b : D} {l : List (Str × D)} {r : Option D} (h : (x == y) = false) (q : List.lookup x l = r) : List.lookup x ((y, b) :: l) = r := by rw [List.lookup_cons, h]; exact q
theorem fkN {x : Str} : List.lookup x ([] : List (Str × D)) = none := rfl
theorem nN_non (h : MH) : dNotN .non .non h = .ok (.bl false) h := by rw [dNotN_ev]; rfl
theorem nN_int (i : Int) (h : MH) : dNotN (.int i) .non h = .ok (.bl true) h := by rw [dNotN_ev]; rfl
theorem nN_tup (l : List D) (h : MH) : dNotN (.tup l) .non h = .ok (.bl true) h := by rw [dNotN_ev]; rfl
theorem iN_tup (l : List D) (h : MH) : dIsN (.tup l) .non h = .ok (.bl false) h := by rw [dIsN_ev]; rfl
theorem iN_non (h : MH) : dIsN .non .non h = .ok (.bl true) h := by rw [dIsN_ev]; rfl
theorem iN_int (i : Int) (h : MH) : dIsN (.int i) .non h = .ok (.bl false) h := by rw [dIsN_ev]; rfl
theorem nN_ref (i : Nat) (h : MH) : dNotN (.ref i) .non h = .ok (.bl true) h := by unfold dNotN; simp
theorem iN_ref (i : Nat) (h : MH) : dIsN (.ref i) .non h = .ok (.bl false) h := by unfold dIsN; simp
end
end Mi

namespace Mi
open PySem L2
def m_doc_3ac0d : List D → MH → R D := mFun 3 8
 (mSeq (mAsg 3 (mCall (m_numbers_207ed) (mCons (mVar 0) (mCons (mBin dAdd (mVar 1) (mC (.int 1))) (mNil)))))
 (mSeq (mAsg 4 (mLc (mRange1 (mVar 1)) (mgName 6) (mYes) (mTup (mNil)) [6]))
 (mSeq (mAsg 5 (mC .non))
 (mSeq (mFor (mRev1 (mVar 1)) (mgName 6)
 (mSeq (mAsg 5 (mTup (mCons (mBin dIx (mVar 2) (mBin dMod (mBin dIx (mVar 3) (mVar 6)) (mCall dLen (mCons (mVar 2) (mNil))))) (mCons (mBin dIx (mVar 4) (mVar 6)) (mNil)))))
 (mIf (mB (mBin dGt (mVar 6) (mC (.int 0))))
 (mSeq (mAsg 7 (mBin dSub (mBin dSub (mVar 6) (mC (.int 1))) (mBin dMod (mBin dFdiv (mBin dIx (mVar 3) (mVar 6)) (mC (.int 64))) (mBin dIx (mLst (mCons (mVar 6) (mCons (mCall dMin (mCons (mVar 6) (mCons (mC (.int 2)) (mNil)))) (mCons (mCall dMin (mCons (mVar 6) (mCons (mC (.int 4)) (mNil)))) (mNil))))) (mBin dMod (mBin dIx (mVar 3) (mVar 1)) (mC (.int 3)))))))
 (mSetIx (mVar 4) (mVar 7) (mBin dAdd (mTup (mCons (mVar 5) (mNil))) (mBin dIx (mVar 4) (mVar 7)))))
 (mSkip))))
 (mRet (mVar 5))))))
def m_states_ee0d6 : Nat → List D → MH → R D
 | 0 => fun _ _ => .bad
 | n + 1 => mFun 3 7
    (mSeq (mAsg 3 (mBin dIx (mBin dIx (mVar 0) (mC (.int 2))) (mUn dNeg (mC (.int 1)))))
     (mSeq (mFor (mRange1 (mCall dLen (mCons (mBin dIx (mVar 0) (mC (.int 1))) (mNil)))) (mgName 4)
     (mIf (mB (mBin dEq (mBin dIx (mBin dIx (mVar 0) (mC (.int 1))) (mVar 4)) (mBin dIx (mVar 1) (mC (.int 0)))))
     (mAsg 3 (mBin dIx (mBin dIx (mVar 0) (mC (.int 2))) (mVar 4)))
     (mSkip)))
     (mSeq (mAsg 5 (mLst (mNil)))
     (mSeq (mFor (mRange1 (mCall dLen (mCons (mBin dIx (mVar 1) (mC (.int 1))) (mNil)))) (mgName 4)
     (mSeq (mAsg 6 (mCall (m_states_ee0d6 n) (mCons (mVar 0) (mCons (mBin dIx (mBin dIx (mVar 1) (mC (.int 1))) (mVar 4)) (mCons (mBin dAdd (mVar 2) (mTup (mCons (mVar 4) (mNil)))) (mNil))))))
     (mSeq (mAsg 3 (mBin dIx (mBin dIx (mBin dIx (mVar 0) (mC (.int 3))) (mVar 3)) (mBin dIx (mBin dIx (mVar 6) (mC (.int 0))) (mC (.int 1)))))
     (mAsg 5 (mBin dAdd (mVar 5) (mVar 6))))))
     (mRet (mBin dAdd (mLst (mCons (mTup (mCons (mVar 2) (mCons (mVar 3) (mNil)))) (mNil))) (mVar 5)))))))
def m_Spot___init___64891 : List D → MH → R D := mFun 4 4
 (mSeq (mSetFld [(Str.ofString "Spot")] (Str.ofString "name") (mVar 0) (mVar 1))
 (mSeq (mSetFld [(Str.ofString "Spot")] (Str.ofString "state") (mVar 0) (mVar 2))
 (mSetFld [(Str.ofString "Spot")] (Str.ofString "below") (mVar 0) (mVar 3))))
def m_state_by_14b94 : List D → MH → R D := mFun 3 5
 (mSeq (mAsg 3 (mCall (m_start_of_78275) (mCons (mVar 0) (mCons (mVar 1) (mNil)))))
 (mSeq (mFor (mIter (mVar 2)) (mgName 4)
 (mAsg 3 (mBin dIx (mBin dIx (mBin dIx (mVar 0) (mC (.int 3))) (mVar 3)) (mFld [(Str.ofString "Spot")] (Str.ofString "state") (mVar 4)))))
 (mRet (mVar 3))))
def m_spot_of_63ba3 : Nat → List D → MH → R D
 | 0 => fun _ _ => .bad
 | n + 1 => mFun 2 4
    (mSeq (mAsg 2 (mLc (mIter (mBin dIx (mVar 1) (mC (.int 1)))) (mgName 3) (mYes) (mCall (m_spot_of_63ba3 n) (mCons (mVar 0) (mCons (mVar 3) (mNil)))) [3]))
     (mRet (mNew (Str.ofString "Spot") (m_Spot___init___64891) (mCons (mBin dIx (mVar 1) (mC (.int 0))) (mCons (mCall (m_state_by_14b94) (mCons (mVar 0) (mCons (mBin dIx (mVar 1) (mC (.int 0))) (mCons (mVar 2) (mNil))))) (mCons (mVar 2) (mNil)))))))
def m_Kept___init___3777c : List D → MH → R D := mFun 3 3
 (mSeq (mSetFld [(Str.ofString "Kept")] (Str.ofString "machine") (mVar 0) (mVar 1))
 (mSeq (mSetFld [(Str.ofString "Kept")] (Str.ofString "top") (mVar 0) (mCall (m_spot_of_63ba3 100) (mCons (mVar 1) (mCons (mVar 2) (mNil)))))
 (mSetFld [(Str.ofString "Kept")] (Str.ofString "last") (mVar 0) (mLst (mNil)))))
def m_forms_below_4f6b1 : Nat → List D → MH → R D
 | 0 => fun _ _ => .bad
 | n + 1 => mFun 3 5
    (mSeq (mAsg 3 (mLst (mCons (mTup (mCons (mVar 2) (mCons (mCall (m_forms_of_305ad) (mCons (mVar 0) (mCons (mFld [(Str.ofString "Spot")] (Str.ofString "state") (mVar 1)) (mNil)))) (mNil)))) (mNil))))
     (mSeq (mFor (mRange1 (mCall dLen (mCons (mFld [(Str.ofString "Spot")] (Str.ofString "below") (mVar 1)) (mNil)))) (mgName 4)
     (mDrop (mMeth isListD dExtend (mVar 3) (mCons (mCall (m_forms_below_4f6b1 n) (mCons (mVar 0) (mCons (mBin dIx (mFld [(Str.ofString "Spot")] (Str.ofString "below") (mVar 1)) (mVar 4)) (mCons (mBin dAdd (mVar 2) (mTup (mCons (mVar 4) (mNil)))) (mNil))))) (mNil)))))
     (mRet (mVar 3))))
def m_Kept_all_forms_cad78 : List D → MH → R D := mFun 1 1
 (mRet (mCall (m_forms_below_4f6b1 100) (mCons (mFld [(Str.ofString "Kept")] (Str.ofString "machine") (mVar 0)) (mCons (mFld [(Str.ofString "Kept")] (Str.ofString "top") (mVar 0)) (mCons (mTup (mNil)) (mNil))))))
def m_words_27770 : List D → MH → R D := mFun 2 3
 (mSeq (mIf (mOr (mNot (mB (mIsi "list" (mVar 0)))) (mB (mBin dNe (mCall dLen (mCons (mVar 0) (mNil))) (mCall dLen (mCons (mVar 1) (mNil))))))
 (mRet (mC (.bl false)))
 (mSkip))
 (mSeq (mFor (mRange1 (mCall dLen (mCons (mVar 1) (mNil)))) (mgName 2)
 (mIf (mOr (mNot (mB (mIsi "str" (mBin dIx (mVar 0) (mVar 2))))) (mB (mBin dNe (mBin dIx (mVar 0) (mVar 2)) (mBin dIx (mVar 1) (mVar 2)))))
 (mRet (mC (.bl false)))
 (mSkip)))
 (mRet (mC (.bl true)))))
def m_place_2af87 : List D → MH → R D := mFun 2 3
 (mSeq (mIf (mOr (mNot (mB (mIsi "tuple" (mVar 0)))) (mB (mBin dNe (mCall dLen (mCons (mVar 0) (mNil))) (mCall dLen (mCons (mVar 1) (mNil))))))
 (mRet (mC (.bl false)))
 (mSkip))
 (mSeq (mFor (mRange1 (mCall dLen (mCons (mVar 1) (mNil)))) (mgName 2)
 (mIf (mOr (mNot (mB (mIsi "int" (mBin dIx (mVar 0) (mVar 2))))) (mOr (mB (mIsi "bool" (mBin dIx (mVar 0) (mVar 2)))) (mB (mBin dNe (mBin dIx (mVar 0) (mVar 2)) (mBin dIx (mVar 1) (mVar 2))))))
 (mRet (mC (.bl false)))
 (mSkip)))
 (mRet (mC (.bl true)))))
def m_forms_7f580 : List D → MH → R D := mFun 2 3
 (mRet (mLc (mRange1 (mCall dLen (mCons (mBin dIx (mVar 0) (mC (.int 0))) (mNil)))) (mgName 2) (mB (mBin dEq (mBin dMod (mBin dFdiv (mBin dIx (mBin dIx (mVar 0) (mC (.int 4))) (mVar 1)) (mBin dShl (mC (.int 1)) (mVar 2))) (mC (.int 2))) (mC (.int 1)))) (mBin dIx (mBin dIx (mVar 0) (mC (.int 0))) (mVar 2)) [2]))
def m_all_22e5f : List D → MH → R D := mFun 3 4
 (mSeq (mIf (mOr (mNot (mB (mIsi "list" (mVar 0)))) (mB (mBin dNe (mCall dLen (mCons (mVar 0) (mNil))) (mCall dLen (mCons (mVar 2) (mNil))))))
 (mRet (mC (.bl false)))
 (mSkip))
 (mSeq (mFor (mRange1 (mCall dLen (mCons (mVar 2) (mNil)))) (mgName 3)
 (mSeq (mIf (mOr (mNot (mB (mIsi "tuple" (mBin dIx (mVar 0) (mVar 3))))) (mOr (mB (mBin dNe (mCall dLen (mCons (mBin dIx (mVar 0) (mVar 3)) (mNil))) (mC (.int 2)))) (mNot (mB (mCall (m_place_2af87) (mCons (mBin dIx (mBin dIx (mVar 0) (mVar 3)) (mC (.int 0))) (mCons (mBin dIx (mBin dIx (mVar 2) (mVar 3)) (mC (.int 0))) (mNil))))))))
 (mRet (mC (.bl false)))
 (mSkip))
 (mIf (mNot (mB (mCall (m_words_27770) (mCons (mBin dIx (mBin dIx (mVar 0) (mVar 3)) (mC (.int 1))) (mCons (mCall (m_forms_7f580) (mCons (mVar 1) (mCons (mBin dIx (mBin dIx (mVar 2) (mVar 3)) (mC (.int 1))) (mNil)))) (mNil))))))
 (mRet (mC (.bl false)))
 (mSkip))))
 (mRet (mC (.bl true)))))
def m_Kept_spots_cf332 : List D → MH → R D := mFun 3 5
 (mSeq (mAsg 3 (mLst (mCons (mFld [(Str.ofString "Kept")] (Str.ofString "top") (mVar 0)) (mNil))))
 (mSeq (mFor (mIter (mVar 1)) (mgName 4)
 (mSeq (mIf (mOr (mB (mBin dLt (mVar 4) (mC (.int 0)))) (mB (mBin dGe (mVar 4) (mCall dLen (mCons (mFld [(Str.ofString "Spot")] (Str.ofString "below") (mBin dIx (mVar 3) (mUn dNeg (mC (.int 1))))) (mNil))))))
 (mRaise (Str.ofString "NoPlace") (Str.ofString "place") (mVar 2))
 (mSkip))
 (mDrop (mMeth isListD dAppend (mVar 3) (mCons (mBin dIx (mFld [(Str.ofString "Spot")] (Str.ofString "below") (mBin dIx (mVar 3) (mUn dNeg (mC (.int 1))))) (mVar 4)) (mNil))))))
 (mRet (mVar 3))))
def m_Kept_forms_at_a020f : List D → MH → R D := mFun 2 2
 (mRet (mCall (m_forms_of_305ad) (mCons (mFld [(Str.ofString "Kept")] (Str.ofString "machine") (mVar 0)) (mCons (mFld [(Str.ofString "Spot")] (Str.ofString "state") (mBin dIx (mMethI (Str.ofString "spots") [((Str.ofString "Kept"), (m_Kept_spots_cf332))] (mVar 0) (mCons (mVar 1) (mCons (mVar 1) (mNil)))) (mUn dNeg (mC (.int 1))))) (mNil)))))
def m_Kept_looked_024ca : List D → MH → R D := mFun 1 1
 (mRet (mCall dList (mCons (mFld [(Str.ofString "Kept")] (Str.ofString "last") (mVar 0)) (mNil))))
def m_doc_of_a1874 : Nat → List D → MH → R D
 | 0 => fun _ _ => .bad
 | n + 1 => mFun 1 2
    (mRet (mTup (mCons (mFld [(Str.ofString "Spot")] (Str.ofString "name") (mVar 0)) (mCons (mCall dTuple (mCons (mLc (mIter (mFld [(Str.ofString "Spot")] (Str.ofString "below") (mVar 0))) (mgName 1) (mYes) (mCall (m_doc_of_a1874 n) (mCons (mVar 1) (mNil))) [1]) (mNil))) (mNil)))))
def m_Kept_now_9db09 : List D → MH → R D := mFun 1 1
 (mRet (mCall (m_doc_of_a1874 100) (mCons (mFld [(Str.ofString "Kept")] (Str.ofString "top") (mVar 0)) (mNil))))
def m_right_d8964 : List D → MH → R D := mFun 4 8
 (mSeq (mIf (mOr (mNot (mB (mCall (m_same_49f62 100) (mCons (mMethI (Str.ofString "now") [((Str.ofString "Kept"), (m_Kept_now_9db09))] (mVar 0) (mNil)) (mCons (mVar 2) (mNil)))))) (mOr (mB (mBin dNe (mMethI (Str.ofString "looked") [((Str.ofString "Kept"), (m_Kept_looked_024ca))] (mVar 0) (mNil)) (mLst (mNil)))) (mNot (mB (mIsi "list" (mMethI (Str.ofString "looked") [((Str.ofString "Kept"), (m_Kept_looked_024ca))] (mVar 0) (mNil)))))))
 (mRet (mC (.bl false)))
 (mSkip))
 (mSeq (mAsg 4 (mMethI (Str.ofString "all_forms") [((Str.ofString "Kept"), (m_Kept_all_forms_cad78))] (mVar 0) (mNil)))
 (mSeq (mIf (mNot (mB (mCall (m_all_22e5f) (mCons (mVar 4) (mCons (mVar 1) (mCons (mVar 3) (mNil)))))))
 (mRet (mC (.bl false)))
 (mSkip))
 (mSeq (mDrop (mMeth isListD dAppend (mVar 4) (mCons (mBin dIx (mVar 4) (mC (.int 0))) (mNil))))
 (mSeq (mDrop (mMeth isListD dAppend (mBin dIx (mBin dIx (mVar 4) (mC (.int 0))) (mC (.int 1))) (mCons (mC (.str (Str.ofString "zq"))) (mNil))))
 (mSeq (mDrop (mMeth isListD dAppend (mMethI (Str.ofString "looked") [((Str.ofString "Kept"), (m_Kept_looked_024ca))] (mVar 0) (mNil)) (mCons (mTup (mNil)) (mNil))))
 (mSeq (mFor (mIter (mVar 3)) (mgTup (mgCons (mgName 5) (mgCons (mgName 6) (mgNil))))
 (mSeq (mAsg 7 (mMethI (Str.ofString "forms_at") [((Str.ofString "Kept"), (m_Kept_forms_at_a020f))] (mVar 0) (mCons (mVar 5) (mNil))))
 (mSeq (mIf (mNot (mB (mCall (m_words_27770) (mCons (mVar 7) (mCons (mCall (m_forms_7f580) (mCons (mVar 1) (mCons (mVar 6) (mNil)))) (mNil))))))
 (mRet (mC (.bl false)))
 (mSkip))
 (mSeq (mDrop (mMeth isListD dAppend (mVar 7) (mCons (mC (.str (Str.ofString "zq"))) (mNil))))
 (mIf (mNot (mB (mCall (m_words_27770) (mCons (mMethI (Str.ofString "forms_at") [((Str.ofString "Kept"), (m_Kept_forms_at_a020f))] (mVar 0) (mCons (mVar 5) (mNil))) (mCons (mCall (m_forms_7f580) (mCons (mVar 1) (mCons (mVar 6) (mNil)))) (mNil))))))
 (mRet (mC (.bl false)))
 (mSkip))))))
 (mRet (mC (.bl true))))))))))
def m_refused_a1d51 : List D → MH → R D := mFun 2 4
 (mSeq (mAsg 2 (mC .non))
 (mSeq (mTryK [((Str.ofString "NoPlace"), true)] 3 2 (mDrop (mMethI (Str.ofString "forms_at") [((Str.ofString "Kept"), (m_Kept_forms_at_a020f))] (mVar 0) (mCons (mVar 1) (mNil)))))
 (mSeq (mIf (mOr (mNot (mB (mIsX [((Str.ofString "NoPlace"), true)] (mVar 2)))) (mB (mIsX [((Str.ofString "NoPlace"), false)] (mVar 2))))
 (mRet (mC (.bl false)))
 (mSkip))
 (mRet (mAndV (mIsX [((Str.ofString "NoPlace"), true)] (mVar 2)) (mBin dEq (mXf [(Str.ofString "NoPlace")] (Str.ofString "place") (mVar 2)) (mVar 1)))))))
def m_law_51733 : List D → MH → R D := mFun 1 13
 (mSeq (mAsg 1 (mCall (m_pool_0b659) (mCons (mCall (m_cell_at_5ae90) (mCons (mVar 0) (mCons (mC (.int 0)) (mNil)))) (mCons (mBin dMod (mCall (m_cell_at_5ae90) (mCons (mVar 0) (mCons (mC (.int 1)) (mNil)))) (mC (.int 6))) (mNil)))))
 (mSeq (mAsg 2 (mCall dSorted (mCons (mCall (m_pool_0b659) (mCons (mCall (m_cell_at_5ae90) (mCons (mVar 0) (mCons (mC (.int 2)) (mNil)))) (mCons (mBin dMod (mBin dFdiv (mCall (m_cell_at_5ae90) (mCons (mVar 0) (mCons (mC (.int 1)) (mNil)))) (mC (.int 6))) (mC (.int 5))) (mNil)))) (mNil))))
 (mSeq (mAsg 3 (mCall (m_machine_128e4) (mCons (mVar 0) (mCons (mC (.int 5)) (mCons (mVar 1) (mCons (mVar 2) (mCons (mC (.int 6)) (mNil))))))))
 (mSeq (mAsg 4 (mLst (mCons (mCall (m_cell_at_5ae90) (mCons (mVar 0) (mCons (mC (.int 3)) (mNil)))) (mCons (mCall (m_cell_at_5ae90) (mCons (mVar 0) (mCons (mC (.int 4)) (mNil)))) (mNil)))))
 (mSeq (mAsg 5 (mLc (mIter (mVar 4)) (mgName 11) (mYes) (mCall (m_doc_3ac0d) (mCons (mBin dFdiv (mVar 11) (mC (.int 40))) (mCons (mBin dAdd (mC (.int 1)) (mBin dMod (mVar 11) (mC (.int 40)))) (mCons (mBin dAdd (mVar 2) (mLst (mCons (mC (.str (Str.ofString "zz"))) (mNil)))) (mNil))))) [11]))
 (mSeq (mAsg 6 (mLc (mIter (mVar 5)) (mgName 12) (mYes) (mCall (m_states_ee0d6 100) (mCons (mVar 3) (mCons (mVar 12) (mCons (mTup (mNil)) (mNil))))) [12]))
 (mSeq (mAsg 7 (mLc (mIter (mVar 5)) (mgName 12) (mYes) (mNew (Str.ofString "Kept") (m_Kept___init___3777c) (mCons (mVar 3) (mCons (mVar 12) (mNil)))) [12]))
 (mSeq (mFor (mIter (mLst (mCons (mC (.int 0)) (mCons (mC (.int 1)) (mCons (mC (.int 0)) (mNil)))))) (mgName 8)
 (mSeq (mIf (mNot (mB (mCall (m_right_d8964) (mCons (mBin dIx (mVar 7) (mVar 8)) (mCons (mVar 3) (mCons (mBin dIx (mVar 5) (mVar 8)) (mCons (mBin dIx (mVar 6) (mVar 8)) (mNil))))))))
 (mRet (mC (.bl false)))
 (mSkip))
 (mSeq (mAsg 9 (mBin dIx (mBin dIx (mBin dIx (mVar 6) (mVar 8)) (mBin dMod (mBin dIx (mVar 4) (mVar 8)) (mCall dLen (mCons (mBin dIx (mVar 6) (mVar 8)) (mNil))))) (mC (.int 0))))
 (mFor (mIter (mLst (mCons (mTup (mCons (mBin dAdd (mC (.int 41)) (mBin dMod (mBin dIx (mVar 4) (mBin dSub (mC (.int 1)) (mVar 8))) (mBin dPow (mC (.int 10)) (mC (.int 9))))) (mNil))) (mCons (mTup (mCons (mBin dSub (mUn dNeg (mC (.int 1))) (mBin dMod (mBin dIx (mVar 4) (mBin dSub (mC (.int 1)) (mVar 8))) (mC (.int 50)))) (mNil))) (mCons (mTup (mCons (mUn dNeg (mC (.int 1))) (mNil))) (mCons (mTup (mCons (mC (.int 50)) (mCons (mC (.int 0)) (mNil)))) (mNil))))))) (mgName 10)
 (mIf (mNot (mB (mCall (m_refused_a1d51) (mCons (mBin dIx (mVar 7) (mVar 8)) (mCons (mBin dAdd (mVar 9) (mVar 10)) (mNil))))))
 (mRet (mC (.bl false)))
 (mSkip))))))
 (mRet (mC (.bl true)))))))))))
end Mi

namespace Mi
open PySem L2
local macro_rules | `(tactic| walk_at "w") => `(tactic| first
  | with_reducible refine w_seq ?_
  | with_reducible refine w_asg ?_
  | with_reducible refine w_cons ?_
  | with_reducible refine w_nil ?_
  | with_reducible refine w_c ?_
  | ((with_reducible refine w_var (d := ?_) ?_ ?_); rotate_left; rfl)
  | with_reducible refine w_bin ?_
  | with_reducible refine w_call ?_
  | with_reducible refine w_if ?_
  | with_reducible refine w_B ?_
  | with_reducible refine w_unB ?_
  | with_reducible refine w_ret ?_
  | with_reducible refine w_drop ?_
  | with_reducible refine w_skip ?_
  | with_reducible refine w_eq (dAdd_int _ _ _) ?_
  | with_reducible refine w_eq (dSub_int _ _ _) ?_
  | with_reducible refine w_eq (dEq_int _ _ _) ?_
  | with_reducible refine w_eq (dEq_str _ _ _) ?_
  | with_reducible refine w_eq (dLt_int _ _ _) ?_
  | with_reducible refine w_eq (dLe_int _ _ _) ?_
  | with_reducible refine w_eq (dGt_int _ _ _) ?_
  | with_reducible refine w_eq (dGe_int _ _ _) ?_
  | with_reducible refine w_eq (dNe_int _ _ _) ?_
  | ((with_reducible refine w_mod ?_ ?_); (first | assumption | decide | omega))
  | ((with_reducible refine w_fdiv ?_ ?_); (first | assumption | decide | omega))
  | ((with_reducible refine w_mulS ?_ ?_); (first | decide | omega))
  | ((with_reducible refine w_addS ?_ ?_); (first | assumption | decide | omega))
  | ((with_reducible refine w_lenS ?_ ?_); (first | assumption | decide | omega))
  | ((with_reducible refine w_slS ?_ ?_); (first | assumption | decide | omega))
  | with_reducible refine w_eq (dLen_tup _ _) ?_
  | with_reducible refine w_eq (dSl_tup _ _ _ _) ?_
  | with_reducible refine w_eq (dMax_ev _ _ _) ?_
  | with_reducible refine w_eq (dMin_ev _ _ _) ?_
  | with_reducible refine w_eq (dAbs_ev _ _) ?_
  | with_reducible refine w_not ?_
  | with_reducible refine w_and ?_
  | with_reducible refine w_or ?_
  | with_reducible refine br_n ?_
  | with_reducible refine br_tt ?_
  | with_reducible refine br_ff ?_
  | ((with_reducible refine br_dt ?_ ?_); (first | assumption | omega))
  | ((with_reducible refine br_df ?_ ?_); (first | assumption | omega))
  | with_reducible refine w_tup ?_
  | ((with_reducible refine w_toTup ?_ ?_); (first | (simp; done)))
  | with_reducible refine w_lst ?_
  | with_reducible refine w_lc ?_
  | with_reducible refine w_for ?_
  | with_reducible refine w_range1 ?_
  | with_reducible refine w_range2 ?_
  | ((with_reducible refine w_dR1 ?_ ?_); (first | decide | omega))
  | ((with_reducible refine w_dR2 ?_ ?_); (first | decide | omega))
  | with_reducible refine w_iter ?_
  | with_reducible refine w_eq (iter1_tup _ _) ?_
  | with_reducible refine w_eq (iter1_str _ _) ?_
  | with_reducible refine w_sl ?_
  | with_reducible refine w_no ?_
  | with_reducible refine w_some ?_
  | with_reducible refine w_unI ?_
  | with_reducible refine w_meth ?_
  | with_reducible refine w_isi ?_
  | with_reducible refine w_zip ?_
  | with_reducible refine w_ifE ?_
  | with_reducible refine w_andV ?_
  | with_reducible refine w_orV ?_
  | with_reducible refine w_notV ?_
  | with_reducible refine w_andK ?_
  | with_reducible refine w_orK ?_
  | with_reducible refine w_notK ?_
  | with_reducible refine w_revL ?_
  | with_reducible refine w_listRg1 ?_
  | with_reducible refine w_tindex ?_
  | with_reducible refine w_setIx ?_
  | with_reducible refine w_un ?_
  | with_reducible refine w_rev1 ?_
  | with_reducible refine w_rev2 ?_
  | with_reducible refine w_chain ?_
  | with_reducible refine w_chK ?_
  | with_reducible refine w_retN ?_
  | with_reducible refine w_brk ?_
  | with_reducible refine w_cont ?_
  | with_reducible refine w_asgT ?_
  | with_reducible refine w_eq (isi_str_str _ _) ?_
  | with_reducible refine w_eq (isi_int_int _ _) ?_
  | with_reducible refine w_eq (isi_tup_tup _ _) ?_)
local macro_rules | `(tactic| walk_at "go") => `(tactic| (repeat (walk_at "w")); try dsimp only [List.set])
local macro_rules | `(tactic| walk_at "fn") => `(tactic| ((refine w_fun ?_); simp only [startD, List.map_cons, List.map_nil, List.reduceReplicate, Nat.reduceSub, List.cons_append, List.nil_append]; walk_at "go"))
theorem mod_in (x : Int) {n : Int} (h : 0 < n) : 0 ≤ x % n ∧ x % n < n := ⟨Int.emod_nonneg _ (by omega), Int.emod_lt_of_pos _ h⟩
def Cell (c : Int) : Prop := Builtin.Int.intBits c ≤ 1048576
def Tp (l : List D) : Prop := ∃ zs : List Int, l = zs.map .int ∧ ∀ z ∈ zs, 0 ≤ z ∧ z < 2147483648
theorem Tp.nil : Tp [] := ⟨[], rfl, fun z hz => by simp at hz⟩
theorem Tp.app {l : List D} {v : Int} (t : Tp l) (hv : 0 ≤ v ∧ v < 2147483648) : Tp (l ++ [.int v]) := by
  obtain ⟨zs, rfl, hz⟩ := t
  refine ⟨zs ++ [v], by simp, fun z hm => ?_⟩
  rcases List.mem_append.mp hm with hm | hm
  · exact hz z hm
  · rw [List.mem_singleton.mp hm]; exact hv
/-! equal lists of scalars -/
structure Scal {α : Type} (S : α → Prop) (f : α → D) (g : α → PyData) : Prop where
  py : ∀ n h a, pyOf (n + 1) h (f a) = some (g a)
  lay : ∀ a, S a → PyData.canLay0 (g a) = true
  dep : ∀ a, PyData.depth (g a) = 0
  ev : ∀ a b, PyData.eqv (g a) (g b) = true ↔ a = b
theorem Scal.all {α : Type} {S : α → Prop} {f : α → D} {g : α → PyData} (c : Scal S f g) : ∀ {l : List α}, (∀ a ∈ l, S a) → PyData.canLayAll0 (l.map g) = true ∧ PyData.depthAll (l.map g) = 0
  | [], _ => ⟨rfl, rfl⟩
  | a :: l, h => by
    obtain ⟨h1, h2⟩ := c.all (l := l) fun b hb => h b (List.mem_cons_of_mem _ hb)
    simp only [List.map_cons, PyData.canLayAll0, PyData.depthAll, c.lay a (h a List.mem_cons_self), h1, c.dep, h2]
    exact ⟨rfl, rfl⟩
theorem Scal.eq {α : Type} {S : α → Prop} {f : α → D} {g : α → PyData} (c : Scal S f g) [DecidableEq α] : ∀ {l m : List α}, PyData.eqvAll (l.map g) (m.map g) = decide (l = m)
  | [], [] => rfl
  | a :: l, [] => rfl
  | [], a :: l => rfl
  | a :: l, b :: m => by
    simp only [List.map_cons, PyData.eqvAll, c.eq (l := l) (m := m)]
    rw [Bool.eq_iff_iff, Bool.and_eq_true, c.ev, decide_eq_true_iff, decide_eq_true_iff, List.cons.injEq]
def OkS (x : Str) : Prop := ∀ c ∈ x.cps.toList, c < 1114112
/-! names -/
def Wd (n : Nat) (x : Str) : Prop := x.length ≤ n ∧ OkS x
theorem str_len (x : Str) : x.length = x.cps.toList.length := by rw [Array.length_toList]; rfl
theorem app_cps (x y : Str) : (x ++ y).cps.toList = x.cps.toList ++ y.cps.toList := by
  show (x.cps ++ y.cps).toList = _
  rw [Array.toList_append]
theorem app_len (x y : Str) : (x ++ y).length = x.length + y.length := by rw [str_len, str_len, str_len, app_cps, List.length_append]
theorem Wd.app {a b : Nat} {x y : Str} (hx : Wd a x) (hy : Wd b y) : Wd (a + b) (x ++ y) := ⟨by rw [app_len]; exact Nat.add_le_add hx.1 hy.1, fun c hc => by
  rw [app_cps] at hc
  rcases List.mem_append.mp hc with h | h
  · exact hx.2 c h
  · exact hy.2 c h⟩
theorem Wd.cut {a : Nat} {x : Str} (hx : Wd a x) (lo hi : Option Int) : Wd a (cutS x lo hi) := ⟨Nat.le_trans (cutS_length x lo hi) hx.1, fun c hc => hx.2 c (List.mem_of_mem_drop (List.mem_of_mem_take hc))⟩
theorem Wd.sign {a : Nat} {x : Str} (hx : Wd a x) {c : Nat} (hc : c ∈ x.cps.toList) : Wd 1 ⟨#[c]⟩ := ⟨Nat.le_refl 1, fun d hd => by
  have : d = c := by simpa using hd
  subst this
  exact hx.2 _ hc⟩
theorem Wd.le {a b : Nat} {x : Str} (hx : Wd a x) (h : a ≤ b) : Wd b x := ⟨Nat.le_trans hx.1 h, hx.2⟩
theorem joinL_nil : ∀ ps : List (List Nat), TL.joinL [] ps = ps.flatten
  | [] => rfl
  | [p] => by simp [TL.joinL]
  | p :: q :: r => by simp [TL.joinL, joinL_nil (q :: r)]
theorem join_cps (ys : List Str) : (Txt.join (Str.ofString "") ys).cps.toList = (ys.map fun y => y.cps.toList).flatten := by
  have e : Txt.join (Str.ofString "") ys = Str.join (Str.ofString "") ys := StrLaws.glued_eq_join _ _
  rw [e]
  exact (TL.tl_join _ _).trans (joinL_nil _)
theorem Wd.join : ∀ {ys : List Str}, (∀ y ∈ ys, Wd 1 y) → Wd ys.length (Txt.join (Str.ofString "") ys) := fun {ys} h => by
  constructor
  · rw [str_len, join_cps]
    induction ys with
    | nil => simp
    | cons y ys ih =>
      have h1 := (h y List.mem_cons_self).1
      have h2 := ih fun z hz => h z (List.mem_cons_of_mem _ hz)
      rw [str_len] at h1
      simp only [List.map_cons, List.flatten_cons, List.length_append, List.length_cons]
      omega
  · intro c hc
    rw [join_cps] at hc
    obtain ⟨l, hl, hc⟩ := List.mem_flatten.mp hc
    obtain ⟨y, hy, rfl⟩ := List.mem_map.mp hl
    exact (h y hy).2 c hc
theorem lt_len : (Str.ofString "abcdefghijklmnopqrstuvwxyz").length = 26 := by decide +kernel
def Wds (n : Nat) (l : List D) : Prop := ∃ ns : List Str, l = ns.map .str ∧ ∀ x ∈ ns, Wd n x
theorem Wds.app {n : Nat} {l m : List D} (hl : Wds n l) (hm : Wds n m) : Wds n (l ++ m) := by
  obtain ⟨a, rfl, ha⟩ := hl
  obtain ⟨b, rfl, hb⟩ := hm
  refine ⟨a ++ b, by simp, fun x hx => ?_⟩
  rcases List.mem_append.mp hx with h | h
  · exact ha x h
  · exact hb x h
theorem Wds.one {n : Nat} {x : Str} (h : Wd n x) : Wds n [.str x] := ⟨[x], rfl, fun y hy => by rw [List.mem_singleton.mp hy]; exact h⟩
/-! machines -/
def InL (n : Int) (l : List D) : Prop := ∀ d ∈ l, ∃ v, d = .int v ∧ 0 ≤ v ∧ v < n
theorem InL.nil (n : Int) : InL n [] := fun d hd => by simp at hd
theorem InL.app {n : Int} {l : List D} {v : Int} (h : InL n l) (h0 : 0 ≤ v) (h1 : v < n) : InL n (l ++ [.int v]) := fun d hd => by
  rcases List.mem_append.mp hd with q | q
  · exact h d q
  · exact ⟨v, List.mem_singleton.mp q, h0, h1⟩
theorem InL.of {n : Int} {ys : List D} (h : ∀ (i : Nat) y, ys[i]? = some y → ∃ v, y = .int v ∧ 0 ≤ v ∧ v < n) : InL n ys := fun d hd => by
  obtain ⟨k, hk⟩ := List.getElem?_of_mem hd
  exact h k d hk
theorem Wds.cut {n : Nat} {l : List D} (h : Wds n l) (lo hi : Option Int) : Wds n (cutD l lo hi) := by
  obtain ⟨ns, rfl, hn⟩ := h
  refine ⟨(ns.drop (HT.sIx ns.length 0 lo)).take (HT.sIx ns.length ns.length hi - HT.sIx ns.length 0 lo), ?_, fun x hx => hn x (List.mem_of_mem_drop (List.mem_of_mem_take hx))⟩
  unfold cutD
  rw [List.length_map, List.map_take, List.map_drop]
theorem sortS_mem {l : List Str} {x : Str} : x ∈ sortS l ↔ x ∈ l := (List.mergeSort_perm l leS).mem_iff
theorem sortS_len {l : List Str} : (sortS l).length = l.length := (List.mergeSort_perm l leS).length_eq
theorem br_mid {p : Prop} {oa ob : Out} {N T B C E} (mid : SP) (q : Br p (OS oa mid T B C E) (OS ob mid T B C E)) (k : ∀ ρ h, mid ρ h → N ρ h) : Br p (OS oa N T B C E) (OS ob N T B C E) :=
  ⟨fun n => (q.1 n).mono k (fun _ _ z => z) (fun _ _ z => z) (fun _ _ z => z) fun _ _ _ _ z => z, fun n => (q.2 n).mono k (fun _ _ z => z) (fun _ _ z => z) (fun _ _ z => z) fun _ _ _ _ z => z⟩
structure Mach (F N S T K : List D) (m : Int) : Prop where
  m1 : 1 ≤ m
  fs : Wds 20 F
  fl : F.length ≤ 9
  ns : Wds 20 N
  nl : N.length ≤ 9
  ss : InL m S
  sl : S.length = N.length + 1
  tl : (T.length : Int) = m
  ts : ∀ r ∈ T, ∃ l, r = .tup l ∧ (l.length : Int) = m ∧ InL m l
  kl : (K.length : Int) = m
  ks : InL (2 ^ F.length) K
end Mi

namespace Mi
open PySem L2
local macro_rules | `(tactic| walk_at "w") => `(tactic| first
  | with_reducible refine w_seq ?_
  | with_reducible refine w_asg ?_
  | with_reducible refine w_cons ?_
  | with_reducible refine w_nil ?_
  | with_reducible refine w_c ?_
  | ((with_reducible refine w_var (d := ?_) ?_ ?_); rotate_left; rfl)
  | with_reducible refine w_bin ?_
  | with_reducible refine w_call ?_
  | with_reducible refine w_if ?_
  | with_reducible refine w_B ?_
  | with_reducible refine w_unB ?_
  | with_reducible refine w_ret ?_
  | with_reducible refine w_drop ?_
  | with_reducible refine w_skip ?_
  | with_reducible refine w_eq (dAdd_int _ _ _) ?_
  | with_reducible refine w_eq (dSub_int _ _ _) ?_
  | with_reducible refine w_eq (dEq_int _ _ _) ?_
  | with_reducible refine w_eq (dEq_str _ _ _) ?_
  | with_reducible refine w_eq (dLt_int _ _ _) ?_
  | with_reducible refine w_eq (dLe_int _ _ _) ?_
  | with_reducible refine w_eq (dGt_int _ _ _) ?_
  | with_reducible refine w_eq (dGe_int _ _ _) ?_
  | with_reducible refine w_eq (dNe_int _ _ _) ?_
  | ((with_reducible refine w_mod ?_ ?_); (first | assumption | decide | omega))
  | ((with_reducible refine w_fdiv ?_ ?_); (first | assumption | decide | omega))
  | ((with_reducible refine w_mulS ?_ ?_); (first | decide | omega))
  | ((with_reducible refine w_addS ?_ ?_); (first | assumption | decide | omega))
  | ((with_reducible refine w_lenS ?_ ?_); (first | assumption | decide | omega))
  | ((with_reducible refine w_slS ?_ ?_); (first | assumption | decide | omega))
  | with_reducible refine w_eq (dLen_tup _ _) ?_
  | with_reducible refine w_eq (dSl_tup _ _ _ _) ?_
  | with_reducible refine w_eq (dMax_ev _ _ _) ?_
  | with_reducible refine w_eq (dMin_ev _ _ _) ?_
  | with_reducible refine w_eq (dAbs_ev _ _) ?_
  | with_reducible refine w_not ?_
  | with_reducible refine w_and ?_
  | with_reducible refine w_or ?_
  | with_reducible refine br_n ?_
  | with_reducible refine br_tt ?_
  | with_reducible refine br_ff ?_
  | ((with_reducible refine br_dt ?_ ?_); (first | assumption | omega))
  | ((with_reducible refine br_df ?_ ?_); (first | assumption | omega))
  | with_reducible refine w_tup ?_
  | ((with_reducible refine w_toTup ?_ ?_); exact (by simp))
  | with_reducible refine w_lst ?_
  | with_reducible refine w_lc ?_
  | with_reducible refine w_for ?_
  | with_reducible refine w_range1 ?_
  | with_reducible refine w_range2 ?_
  | ((with_reducible refine w_dR1 ?_ ?_); (first | decide | omega))
  | ((with_reducible refine w_dR2 ?_ ?_); (first | decide | omega))
  | with_reducible refine w_iter ?_
  | with_reducible refine w_eq (iter1_tup _ _) ?_
  | with_reducible refine w_eq (iter1_str _ _) ?_
  | with_reducible refine w_sl ?_
  | with_reducible refine w_no ?_
  | with_reducible refine w_some ?_
  | with_reducible refine w_unI ?_
  | with_reducible refine w_meth ?_
  | with_reducible refine w_isi ?_
  | with_reducible refine w_zip ?_
  | with_reducible refine w_ifE ?_
  | with_reducible refine w_andV ?_
  | with_reducible refine w_orV ?_
  | with_reducible refine w_notV ?_
  | with_reducible refine w_andK ?_
  | with_reducible refine w_orK ?_
  | with_reducible refine w_notK ?_
  | with_reducible refine w_revL ?_
  | with_reducible refine w_listRg1 ?_
  | with_reducible refine w_tindex ?_
  | with_reducible refine w_setIx ?_
  | with_reducible refine w_un ?_
  | with_reducible refine w_rev1 ?_
  | with_reducible refine w_rev2 ?_
  | with_reducible refine w_chain ?_
  | with_reducible refine w_chK ?_
  | with_reducible refine w_retN ?_
  | with_reducible refine w_brk ?_
  | with_reducible refine w_cont ?_
  | with_reducible refine w_asgT ?_
  | with_reducible refine w_eq (isi_str_str _ _) ?_
  | with_reducible refine w_eq (isi_int_int _ _) ?_
  | with_reducible refine w_eq (isi_tup_tup _ _) ?_)
local macro_rules | `(tactic| walk_at "go") => `(tactic| (repeat (walk_at "w")); try dsimp only [List.set])
local macro_rules | `(tactic| walk_at "fn") => `(tactic| ((refine w_fun ?_); simp only [startD, List.map_cons, List.map_nil, List.reduceReplicate, Nat.reduceSub, List.cons_append, List.nil_append]; walk_at "go"))
theorem Own.del {h0 h : MH} {L : LL} (o : Own h0 h L) (n : Nat) : Own h0 h (L.eraseIdx n) := o.sub (List.eraseIdx_sublist _ _)
end Mi

namespace Mi
open PySem L2
local macro_rules | `(tactic| walk_at "gl") => `(tactic| first
  | assumption
  | (refine Own.atL (h0 := ?_) (L := ?_) ?_ 0 ?_; rotate_left; rotate_left; assumption; rfl)
  | (refine Own.atL (h0 := ?_) (L := ?_) ?_ 1 ?_; rotate_left; rotate_left; assumption; rfl)
  | (refine Own.atL (h0 := ?_) (L := ?_) ?_ 2 ?_; rotate_left; rotate_left; assumption; rfl)
  | (refine Own.atL (h0 := ?_) (L := ?_) ?_ 3 ?_; rotate_left; rotate_left; assumption; rfl)
  | (refine Own.atL (h0 := ?_) (L := ?_) ?_ 4 ?_; rotate_left; rotate_left; assumption; rfl)
  | (refine Own.atL (h0 := ?_) (L := ?_) ?_ 5 ?_; rotate_left; rotate_left; assumption; rfl)
  | (refine Own.atL (h0 := ?_) (L := ?_) ?_ 6 ?_; rotate_left; rotate_left; assumption; rfl)
  | (refine Own.atL (h0 := ?_) (L := ?_) ?_ 7 ?_; rotate_left; rotate_left; assumption; rfl)
  | (refine Own.atL (h0 := ?_) (L := ?_) ?_ 8 ?_; rotate_left; rotate_left; assumption; rfl)
  | (refine Own.atL (h0 := ?_) (L := ?_) ?_ 9 ?_; rotate_left; rotate_left; assumption; rfl)
  | (refine Own.getL (h0 := ?_) (L := ?_) ?_ ?_; rotate_left; rotate_left; assumption; assumption))
local macro_rules | `(tactic| walk_at "il") => `(tactic| first
  | (refine Own.isL (h0 := ?_) (L := ?_) (l := ?_) ?_ 0 ?_; rotate_left; rotate_left; rotate_left; assumption; rfl)
  | (refine Own.isL (h0 := ?_) (L := ?_) (l := ?_) ?_ 1 ?_; rotate_left; rotate_left; rotate_left; assumption; rfl)
  | (refine Own.isL (h0 := ?_) (L := ?_) (l := ?_) ?_ 2 ?_; rotate_left; rotate_left; rotate_left; assumption; rfl)
  | (refine Own.isL (h0 := ?_) (L := ?_) (l := ?_) ?_ 3 ?_; rotate_left; rotate_left; rotate_left; assumption; rfl)
  | (refine Own.isL (h0 := ?_) (L := ?_) (l := ?_) ?_ 4 ?_; rotate_left; rotate_left; rotate_left; assumption; rfl)
  | (refine Own.isL (h0 := ?_) (L := ?_) (l := ?_) ?_ 5 ?_; rotate_left; rotate_left; rotate_left; assumption; rfl)
  | (refine Own.isL (h0 := ?_) (L := ?_) (l := ?_) ?_ 6 ?_; rotate_left; rotate_left; rotate_left; assumption; rfl)
  | (refine Own.isL (h0 := ?_) (L := ?_) (l := ?_) ?_ 7 ?_; rotate_left; rotate_left; rotate_left; assumption; rfl)
  | (refine Own.isL (h0 := ?_) (L := ?_) (l := ?_) ?_ 8 ?_; rotate_left; rotate_left; rotate_left; assumption; rfl)
  | (refine Own.isL (h0 := ?_) (L := ?_) (l := ?_) ?_ 9 ?_; rotate_left; rotate_left; rotate_left; assumption; rfl))
local macro_rules | `(tactic| walk_at "bd") => `(tactic| first | assumption | omega | (simp; done) | (simp; omega) | (simp [*]; done) | (simp [*]; omega))
local macro_rules | `(tactic| walk_at "w") => `(tactic| first
  | with_reducible refine w_seq ?_
  | with_reducible refine w_asg ?_
  | with_reducible refine w_cons ?_
  | with_reducible refine w_nil ?_
  | with_reducible refine w_c ?_
  | ((with_reducible refine w_var (d := ?_) ?_ ?_); rotate_left; rfl)
  | with_reducible refine w_bin ?_
  | with_reducible refine w_call ?_
  | with_reducible refine w_if ?_
  | with_reducible refine w_B ?_
  | with_reducible refine w_unB ?_
  | with_reducible refine w_ret ?_
  | with_reducible refine w_drop ?_
  | with_reducible refine w_skip ?_
  | with_reducible refine w_eq (dAdd_int _ _ _) ?_
  | with_reducible refine w_eq (dSub_int _ _ _) ?_
  | with_reducible refine w_eq (dEq_int _ _ _) ?_
  | with_reducible refine w_eq (dEq_str _ _ _) ?_
  | with_reducible refine w_eq (dNe_strs _ _ _) ?_
  | with_reducible refine w_eq (dEq_bls _ _ _) ?_
  | with_reducible refine w_eq (dNe_bls _ _ _) ?_
  | with_reducible refine w_eq (dLt_int _ _ _) ?_
  | with_reducible refine w_eq (dLe_int _ _ _) ?_
  | with_reducible refine w_eq (dGt_int _ _ _) ?_
  | with_reducible refine w_eq (dGe_int _ _ _) ?_
  | with_reducible refine w_eq (dNe_int _ _ _) ?_
  | ((with_reducible refine w_mod ?_ ?_); (first | assumption | decide | omega))
  | ((with_reducible refine w_fdiv ?_ ?_); (first | assumption | decide | omega))
  | ((with_reducible refine w_mulS ?_ ?_); (first | decide | omega))
  | ((with_reducible refine w_addS ?_ ?_); (first | assumption | decide | omega))
  | ((with_reducible refine w_lenS ?_ ?_); (first | assumption | decide | omega))
  | ((with_reducible refine w_slS ?_ ?_); (first | assumption | decide | omega))
  | with_reducible refine w_lenTm ?_
  | with_reducible refine w_eq (dLen_tup _ _) ?_
  | with_reducible refine w_eq (dSl_tup _ _ _ _) ?_
  | with_reducible refine w_eq (dMax_ev _ _ _) ?_
  | with_reducible refine w_eq (dMin_ev _ _ _) ?_
  | with_reducible refine w_eq (dAbs_ev _ _) ?_
  | with_reducible refine w_not ?_
  | with_reducible refine w_and ?_
  | with_reducible refine w_or ?_
  | with_reducible refine br_n ?_
  | with_reducible refine br_tt ?_
  | with_reducible refine br_ff ?_
  | ((with_reducible refine br_dt ?_ ?_); (first | assumption | omega | rfl))
  | ((with_reducible refine br_df ?_ ?_); (first | assumption | omega))
  | with_reducible refine w_tup ?_
  | ((with_reducible refine w_toTup ?_ ?_); exact (by simp))
  | with_reducible refine w_lst ?_
  | with_reducible refine w_lc ?_
  | with_reducible refine w_for ?_
  | with_reducible refine w_range1 ?_
  | with_reducible refine w_range2 ?_
  | ((with_reducible refine w_dR1 ?_ ?_); (first | decide | omega))
  | ((with_reducible refine w_dR2 ?_ ?_); (first | decide | omega))
  | with_reducible refine w_iter ?_
  | with_reducible refine w_eq (iter1_tup _ _) ?_
  | with_reducible refine w_eq (iter1_str _ _) ?_
  | with_reducible refine w_sl ?_
  | with_reducible refine w_no ?_
  | with_reducible refine w_some ?_
  | with_reducible refine w_unI ?_
  | with_reducible refine w_meth ?_
  | with_reducible refine w_isi ?_
  | with_reducible refine w_zip ?_
  | with_reducible refine w_ifE ?_
  | with_reducible refine w_andV ?_
  | with_reducible refine w_orV ?_
  | with_reducible refine w_notV ?_
  | with_reducible refine w_andK ?_
  | with_reducible refine w_orK ?_
  | with_reducible refine w_notK ?_
  | with_reducible refine w_revL ?_
  | with_reducible refine w_listRg1 ?_
  | with_reducible refine w_tindex ?_
  | with_reducible refine w_setIx ?_
  | with_reducible refine w_un ?_
  | with_reducible refine w_rev1 ?_
  | with_reducible refine w_rev2 ?_
  | with_reducible refine w_chain ?_
  | with_reducible refine w_chK ?_
  | with_reducible refine w_retN ?_
  | with_reducible refine w_brk ?_
  | with_reducible refine w_cont ?_
  | with_reducible refine w_asgT ?_
  | with_reducible refine w_eq (isi_str_str _ _) ?_
  | with_reducible refine w_eq (isi_int_int _ _) ?_
  | with_reducible refine w_eq (isi_tup_tup _ _) ?_
  | with_reducible refine w_eq (isi_bool_int _ _) ?_
  | with_reducible refine w_eq (isi_str_int _ _) ?_
  | ((with_reducible refine w_lenLm (α := ?_) (f := ?_) (l := ?_) ?_ ?_); rotate_left; rotate_left; rotate_left; walk_at "gl")
  | ((with_reducible refine w_lenL (l := ?_) ?_ ?_); rotate_left; walk_at "gl")
  | ((with_reducible refine w_iterL (l := ?_) ?_ ?_); rotate_left; walk_at "gl"; dsimp only)
  | ((with_reducible refine w_tupL (l := ?_) ?_ ?_); rotate_left; walk_at "gl")
  | ((with_reducible refine w_ixT (d := ?_) ?_ ?_); rotate_left; (first | with_reducible assumption | rfl))
  | ((with_reducible refine w_ixL (l := ?_) (d := ?_) ?_ ?_ ?_); rotate_left; rotate_left; walk_at "gl"; (first | with_reducible assumption | rfl))
  | ((with_reducible refine w_addT ?_ ?_); walk_at "bd")
  | ((with_reducible refine ⟨?_, ?_⟩); (with_reducible (show isListD (.ref _) _ = true)); walk_at "il")
  | with_reducible refine w_tryK ?_
  | with_reducible refine w_raise ?_
  | with_reducible refine w_raise0 ?_
  | with_reducible refine w_isX ?_
  | ((with_reducible refine w_isXK (k := ?_) ?_ ?_); rotate_left; (first | with_reducible exact lkA | (apply lkB; decide +kernel; exact lkA) | (apply lkB; decide +kernel; apply lkB; decide +kernel; exact lkA) | (apply lkB; decide +kernel; apply lkB; decide +kernel; apply lkB; decide +kernel; exact lkA)))
  | with_reducible refine w_xf ?_
  | ((with_reducible refine w_xfK ?_ ?_ ?_); (exact List.mem_cons_self); (decide))
  | with_reducible refine w_eq (isN_xo _) ?_
  | with_reducible refine w_eq (dNeg_int _ _) ?_)
local macro_rules | `(tactic| walk_at "go") => `(tactic| (repeat (walk_at "w")); try dsimp only [List.set])
local macro_rules | `(tactic| walk_at "fn") => `(tactic| ((refine w_fun ?_); simp only [startD, List.map_cons, List.map_nil, List.reduceReplicate, Nat.reduceSub, List.cons_append, List.nil_append]; walk_at "go"))
/-! ### cells, names, parents -/
theorem bits_abs (z : Int) : Builtin.Int.intBits (if z < 0 then -z else z) = Builtin.Int.intBits z := by
  refine Nat.le_antisymm (bits_mono ?_) (bits_mono ?_) <;> split <;> omega
theorem cell_small {c : Int} (h0 : 0 ≤ c) (h1 : c < 2147483648) : Cell c := Nat.le_trans (bits_small (by omega) (by omega)) (by decide)
def CellP (c : Int) : Prop := Cell c ∧ 0 ≤ c
theorem cc_at {ns : List Int} (hb : ∀ z ∈ ns, Cell z) {h : MH} {i : Nat} (hl : getL h i = some (ns.map D.int)) {k : Int} (h0 : 0 ≤ k) : Sat (m_cell_at_5ae90 [.ref i, .int k] h) (fun d h' => h' = h ∧ ∃ c, d = .int c ∧ CellP c) noX := by
  walk_at "fn"
  refine br_mid (fun ρ h' => h' = h ∧ ∃ c, ρ = [some (.ref i), some (.int k), some (.int c)] ∧ CellP c) ?_ ?_
  · refine br_d (fun c => ?_) (fun c => ?_)
    · walk_at "go"
      obtain ⟨d, e1, e2⟩ := atI_in (l := ns.map D.int) h0 (by simpa using c)
      rw [List.getElem?_map, Option.map_eq_some_iff] at e2
      obtain ⟨z, e3, rfl⟩ := e2
      walk_at "go"
      refine ⟨rfl, _, rfl, ?_, ?_⟩
      · unfold Cell; rw [bits_abs]; exact hb z (List.mem_of_getElem? e3)
      · split <;> omega
    · walk_at "go"
      exact ⟨rfl, 0, rfl, show Builtin.Int.intBits 0 ≤ 1048576 by decide, by omega⟩
  rintro ρ h1 ⟨rfl, c, rfl, hc⟩
  walk_at "go"
  refine w_pow (n := 18) (by decide) ?_
  walk_at "go"
  refine br_d (fun q => ?_) (fun q => ?_)
  · walk_at "go"
    have := mod_in c (n := 2147483647) (by decide)
    exact ⟨rfl, _, rfl, cell_small this.1 (by omega), this.1⟩
  · walk_at "go"
    exact ⟨rfl, c, rfl, hc⟩

theorem ints_all {S : Int → Prop} : ∀ {ys : List D}, (∀ (i : Nat) y, ys[i]? = some y → ∃ c, y = .int c ∧ S c) → ∃ cs : List Int, ys = cs.map .int ∧ ∀ c ∈ cs, S c
  | [], _ => ⟨[], rfl, fun c hc => by simp at hc⟩
  | y :: ys, h => by
    obtain ⟨c, rfl, hc⟩ := h 0 y rfl
    obtain ⟨cs, rfl, hcs⟩ := ints_all (ys := ys) fun i z e => h (i + 1) z (by simpa using e)
    exact ⟨c :: cs, rfl, fun d hd => by
      rcases List.mem_cons.mp hd with rfl | q
      · exact hc
      · exact hcs d q⟩
theorem mem_app {α : Type} {S : α → Prop} {l : List α} {x : α} (h : ∀ a ∈ l, S a) (hx : S x) : ∀ a ∈ l ++ [x], S a := fun a ha => by
  rcases List.mem_append.mp ha with q | q
  · exact h a q
  · rw [List.mem_singleton.mp q]; exact hx
theorem map_app1 {α β : Type} (f : α → β) (l : List α) (x : α) : l.map f ++ [f x] = (l ++ [x]).map f := by simp
/-! names -/
def Ltr (c : Nat) : Prop := 97 ≤ c ∧ c ≤ 122
def Nm (x : Str) : Prop := 1 ≤ x.length ∧ x.length ≤ 8 ∧ ∀ c ∈ x.cps.toList, Ltr c
def Ls (n : Nat) (x : Str) : Prop := x.length = n ∧ ∀ c ∈ x.cps.toList, Ltr c
theorem Ls.app {a b : Nat} {x y : Str} (hx : Ls a x) (hy : Ls b y) : Ls (a + b) (x ++ y) := ⟨by rw [app_len, hx.1, hy.1], fun c hc => by
  rw [app_cps] at hc
  rcases List.mem_append.mp hc with q | q
  · exact hx.2 c q
  · exact hy.2 c q⟩
theorem Ls.nm {n : Nat} {x : Str} (h : Ls n x) (h1 : 1 ≤ n) (h8 : n ≤ 8) : Nm x := ⟨by rw [h.1]; exact h1, by rw [h.1]; exact h8, h.2⟩
theorem ltrs_all : ∀ c ∈ (Str.ofString "abcdefghijklmnopqrstuvwxyz").cps.toList, Ltr c := by unfold Ltr; decide +kernel
theorem w_ltr {i : Int} {h : MH} {Q : D → MH → Prop} {E : XE} (q : ∀ c, Ls 1 ⟨#[c]⟩ → Q (.str ⟨#[c]⟩) h) : Sat (dIx (.str (Str.ofString "abcdefghijklmnopqrstuvwxyz")) (.int (i % 26)) h) Q E := by
  have hm := mod_in i (n := 26) (by decide)
  obtain ⟨c, e1, e2⟩ := atI_in (l := (Str.ofString "abcdefghijklmnopqrstuvwxyz").cps.toList) hm.1 (by rw [← str_len, lt_len]; exact hm.2)
  refine w_ixS (by rw [lt_len]; decide) e1 (q c ⟨rfl, fun d hd => ?_⟩)
  have : d = c := by simpa using hd
  rw [this]
  exact ltrs_all c (List.mem_of_getElem? e2)
theorem w_addLs {a b : Nat} {x y : Str} {h : MH} {Q : D → MH → Prop} {E : XE} (hx : Ls a x) (hy : Ls b y) (c : a + b ≤ 1000) (q : Ls (a + b) (x ++ y) → Q (.str (x ++ y)) h) : Sat (dAdd (.str x) (.str y) h) Q E :=
  w_addS (by rw [hx.1, hy.1]; omega) (q (hx.app hy))
theorem emp_cps : (Str.ofString "").cps.toList = [] := by decide +kernel
theorem cc_spelled {c n : Int} (hn : 1 ≤ n ∧ n ≤ 8) {h : MH} : Sat (m_spelled_7a0ca [.int c, .int n] h) (fun d h' => h' = h ∧ ∃ x, d = .str x ∧ Nm x) noX := by
  walk_at "fn"
  refine w_loop0 (fun k ρ h' => h' = h ∧ ∃ c x o, ρ = [some (.int c), some (.int n), some (.str x), o] ∧ Ls k x) ⟨rfl, c, _, none, rfl, rfl, fun c hc => by rw [emp_cps] at hc; simp at hc⟩ (fun _ _ _ _ => rfl) ?_ ?_
  · rintro k d ρ h' hd ⟨rfl, c, x, o, rfl, hx⟩
    obtain ⟨hk, rfl⟩ := rangeD_get hd
    refine ⟨_, rfl, ?_⟩
    dsimp only [List.set]
    walk_at "go"
    refine w_ltr fun z hz => ?_
    refine w_addLs hx hz (by omega) fun hxz => ?_
    walk_at "go"
    exact ⟨rfl, _, _, _, rfl, hxz⟩
  · rintro ρ h' ⟨rfl, c, x, o, rfl, hx⟩
    rw [rangeD_length] at hx
    walk_at "go"
    exact ⟨rfl, x, rfl, hx.nm (by omega) (by omega)⟩

theorem n_ls {j : Int} (h0 : 0 ≤ j) (h1 : j ≤ 8) : Ls j.toNat (Txt.mul (Str.ofString "n") j) := by
  have : j = 0 ∨ j = 1 ∨ j = 2 ∨ j = 3 ∨ j = 4 ∨ j = 5 ∨ j = 6 ∨ j = 7 ∨ j = 8 := by omega
  rcases this with rfl | rfl | rfl | rfl | rfl | rfl | rfl | rfl | rfl <;> (unfold Ls Ltr; decide +kernel)
theorem w_mulN {j : Int} {h : MH} {Q : D → MH → Prop} {E : XE} (h0 : 0 ≤ j) (h1 : j ≤ 8) (q : ∀ x, Ls j.toNat x → Q (.str x) h) : Sat (dMul (.str (Str.ofString "n")) (.int j) h) Q E :=
  w_eq (by rw [dMul_str, if_pos]; have : (Str.ofString "n").length = 1 := by decide +kernel
           rw [this]; omega) (q _ (n_ls h0 h1))
/-! parents -/
def Par (ps : List Int) : Prop := ps[0]? = some 0 ∧ ∀ (k : Nat) p, 0 < k → ps[k]? = some p → 0 ≤ p ∧ p < (k : Int)
theorem Par.app {ps : List Int} {p : Int} (h : Par ps) (hl : 0 < ps.length) (h0 : 0 ≤ p) (h1 : p < (ps.length : Int)) : Par (ps ++ [p]) := ⟨by rw [List.getElem?_append_left hl]; exact h.1, fun k q hk e => by
  rcases Nat.lt_or_ge k ps.length with z | z
  · rw [List.getElem?_append_left z] at e
    exact h.2 k q hk e
  · rw [List.getElem?_append_right z] at e
    have : k - ps.length = 0 := by
      have := (List.getElem?_eq_some_iff.mp e).1
      simp at this; omega
    rw [this] at e
    simp at e
    omega⟩
theorem map_at {f : Int → D} {l : List Int} {k : Int} (h0 : 0 ≤ k) (h1 : k < (l.length : Int)) : ∃ c, atI (l.map f) k = some (f c) ∧ l[k.toNat]? = some c := by
  obtain ⟨d, e1, e2⟩ := atI_in (l := l.map f) (i := k) h0 (by simpa using h1)
  rw [List.getElem?_map, Option.map_eq_some_iff] at e2
  obtain ⟨c, e2, rfl⟩ := e2
  exact ⟨c, e1, e2⟩
/-! ### documents -/
inductive Doc where
  | mk (x : Str) (ks : List Doc)
def Doc.nm : Doc → Str
  | .mk x _ => x
def Doc.ks : Doc → List Doc
  | .mk _ l => l
mutual
def Doc.toD : Doc → D
  | .mk x l => .tup [.str x, .tup (Doc.toDs l)]
def Doc.toDs : List Doc → List D
  | [] => []
  | d :: l => d.toD :: Doc.toDs l
end
theorem toDs_map : ∀ l : List Doc, Doc.toDs l = l.map Doc.toD
  | [] => rfl
  | d :: l => by rw [Doc.toDs, toDs_map l, List.map_cons]
theorem toD_mk (x : Str) (l : List Doc) : (Doc.mk x l).toD = .tup [.str x, .tup (l.map Doc.toD)] := by rw [Doc.toD, toDs_map]
theorem toD_eq (d : Doc) : d.toD = .tup [.str d.nm, .tup (d.ks.map Doc.toD)] := by cases d; exact toD_mk _ _
def Doc.ok : Nat → Doc → Prop
  | 0, _ => False
  | n + 1, .mk x l => Nm x ∧ l.length ≤ 1000 ∧ ∀ k ∈ l, k.ok n
def Doc.at : Doc → List Int → Option Doc
  | d, [] => some d
  | d, k :: r => if 0 ≤ k then match d.ks[k.toNat]? with
    | some c => c.at r
    | none => none else none
theorem at_app : ∀ (d : Doc) (a b : List Int), d.at (a ++ b) = (d.at a).bind fun c => c.at b
  | d, [], b => by simp [Doc.at]
  | d, k :: r, b => by
    rw [List.cons_append, Doc.at, Doc.at]
    split
    · split
      · rename_i c e
        exact at_app c r b
      · rfl
    · rfl
theorem at_one (d : Doc) (k : Int) : d.at [k] = if 0 ≤ k then d.ks[k.toNat]? else none := by
  rw [Doc.at]
  split
  · split
    · rename_i c e; rw [e, Doc.at]
    · rename_i e; rw [e]
  · rfl
/-- the children of the k-th -/
def isKid (pn : Nat → Nat) (k j : Nat) : Bool := decide (0 < j ∧ pn j = k)
def kids (pn : Nat → Nat) (n k : Nat) : List Nat := (List.range n).filter (isKid pn k)
def kidsF (pn : Nat → Nat) (n m k : Nat) : List Nat := (List.range' m (n - m)).filter (isKid pn k)
def cntF (pn : Nat → Nat) (k p : Nat) : Nat := ((List.range k).filter (isKid pn p)).length
def PnOk (pn : Nat → Nat) (n : Nat) : Prop := ∀ j, 0 < j → j < n → pn j < j
theorem kids_mem {pn : Nat → Nat} {n k j : Nat} (h : j ∈ kids pn n k) : j < n ∧ 0 < j ∧ pn j = k := by
  unfold kids at h
  rw [List.mem_filter, List.mem_range] at h
  exact ⟨h.1, of_decide_eq_true h.2⟩
theorem range_cut {k n : Nat} (h : k ≤ n) : List.range n = List.range k ++ List.range' k (n - k) := by
  have e : n = k + (n - k) := by omega
  rw [List.range_eq_range', List.range_eq_range']
  have := List.range'_append_1 (s := 0) (m := k) (n := n - k)
  rw [Nat.zero_add, ← e] at this
  exact this.symm
theorem kid_at {pn : Nat → Nat} {n k : Nat} (h0 : 0 < k) (h1 : k < n) : (kids pn n (pn k))[cntF pn k (pn k)]? = some k := by
  unfold kids cntF
  rw [range_cut (Nat.le_of_lt h1), List.filter_append, List.getElem?_append_right (Nat.le_refl _), Nat.sub_self]
  have e : n - k = (n - (k + 1)) + 1 := by omega
  have t : isKid pn (pn k) k = true := by unfold isKid; simp [h0]
  rw [e, List.range'_succ, List.filter_cons, if_pos t]
  rfl
theorem cnt_le {pn : Nat → Nat} {k p : Nat} : cntF pn k p ≤ k := by
  unfold cntF
  have := List.length_filter_le (isKid pn p) (List.range k)
  simpa using this
theorem kids_len {pn : Nat → Nat} {n k : Nat} : (kids pn n k).length ≤ n := cnt_le
/-- documents by their children -/
def DocsF (pn : Nat → Nat) (n m : Nat) (f : Nat → Doc) : Prop := ∀ j, m ≤ j → j < n → ∃ x, Nm x ∧ f j = .mk x ((kids pn n j).map f)
theorem DocsF.put {pn : Nat → Nat} {n m : Nat} {f : Nat → Doc} (hp : PnOk pn n) (h : DocsF pn n (m + 1) f) {x : Str} (hx : Nm x) : DocsF pn n m (fun i => if i = m then .mk x ((kids pn n m).map f) else f i) := fun j h1 h2 => by
  have key : (kids pn n j).map (fun i => if i = m then .mk x ((kids pn n m).map f) else f i) = (kids pn n j).map f := by
    refine List.map_congr_left fun i hi => ?_
    obtain ⟨a, b, c⟩ := kids_mem hi
    have := hp i b a
    rw [if_neg (by omega)]
  by_cases e : j = m
  · subst e
    rw [key]
    dsimp only
    rw [if_pos rfl]
    exact ⟨x, hx, rfl⟩
  · rw [key]
    dsimp only
    rw [if_neg e]
    exact h j (by omega) h2
theorem DocsF.ok {pn : Nat → Nat} {n : Nat} {f : Nat → Doc} (hp : PnOk pn n) (hn : n ≤ 1000) (h : DocsF pn n 0 f) : ∀ (t j : Nat), n ≤ j + t → j < n → (f j).ok t
  | 0, j, h1, h2 => by omega
  | t + 1, j, h1, h2 => by
    obtain ⟨x, hx, e⟩ := h j (Nat.zero_le _) h2
    rw [e]
    refine ⟨hx, ?_, ?_⟩
    · rw [List.length_map]
      exact Nat.le_trans kids_len hn
    · intro k hk
      obtain ⟨i, hi, rfl⟩ := List.mem_map.mp hk
      obtain ⟨a, b, c⟩ := kids_mem hi
      have := hp i b a
      exact DocsF.ok hp hn h t i (by omega) a
/-- places -/
def PlF (pn : Nat → Nat) (n : Nat) (q : Nat → List Int) : Prop := q 0 = [] ∧ ∀ k, 0 < k → k < n → q k = q (pn k) ++ [(cntF pn k (pn k) : Int)]
theorem PlF.put {pn : Nat → Nat} {n : Nat} {q : Nat → List Int} (hp : PnOk pn (n + 1)) (hn : 0 < n) (h : PlF pn n q) : PlF pn (n + 1) (fun i => if i = n then q (pn n) ++ [(cntF pn n (pn n) : Int)] else q i) := ⟨by dsimp only; rw [if_neg (by omega)]; exact h.1, fun k h0 h1 => by
  dsimp only
  have := hp k h0 h1
  by_cases e : k = n
  · subst e
    rw [if_pos rfl, if_neg (by omega)]
  · rw [if_neg e, if_neg (by omega)]
    exact h.2 k h0 (by omega)⟩
theorem stands {pn : Nat → Nat} {n : Nat} {f : Nat → Doc} {q : Nat → List Int} (hp : PnOk pn n) (hf : DocsF pn n 0 f) (hq : PlF pn n q) : ∀ (m k : Nat), k ≤ m → k < n → (f 0).at (q k) = some (f k)
  | 0, k, h1, h2 => by
    have : k = 0 := by omega
    subst this
    rw [hq.1, Doc.at]
  | m + 1, k, h1, h2 => by
    by_cases h0 : k = 0
    · subst h0
      rw [hq.1, Doc.at]
    · have hk := hp k (by omega) h2
      rw [hq.2 k (by omega) h2, at_app, stands hp hf hq m (pn k) (by omega) (by omega), Option.bind_some, at_one, if_pos (by omega)]
      obtain ⟨x, _, e⟩ := hf (pn k) (Nat.zero_le _) (by omega)
      rw [e]
      show ((kids pn n (pn k)).map f)[((cntF pn k (pn k) : Nat) : Int).toNat]? = some (f k)
      rw [Int.toNat_natCast, List.getElem?_map, kid_at (by omega) h2]
      rfl
end Mi

namespace Mi
open PySem L2
local macro_rules | `(tactic| walk_at "gl") => `(tactic| first
  | assumption
  | (refine Own.atL (h0 := ?_) (L := ?_) ?_ 0 ?_; rotate_left; rotate_left; assumption; rfl)
  | (refine Own.atL (h0 := ?_) (L := ?_) ?_ 1 ?_; rotate_left; rotate_left; assumption; rfl)
  | (refine Own.atL (h0 := ?_) (L := ?_) ?_ 2 ?_; rotate_left; rotate_left; assumption; rfl)
  | (refine Own.atL (h0 := ?_) (L := ?_) ?_ 3 ?_; rotate_left; rotate_left; assumption; rfl)
  | (refine Own.atL (h0 := ?_) (L := ?_) ?_ 4 ?_; rotate_left; rotate_left; assumption; rfl)
  | (refine Own.atL (h0 := ?_) (L := ?_) ?_ 5 ?_; rotate_left; rotate_left; assumption; rfl)
  | (refine Own.atL (h0 := ?_) (L := ?_) ?_ 6 ?_; rotate_left; rotate_left; assumption; rfl)
  | (refine Own.atL (h0 := ?_) (L := ?_) ?_ 7 ?_; rotate_left; rotate_left; assumption; rfl)
  | (refine Own.atL (h0 := ?_) (L := ?_) ?_ 8 ?_; rotate_left; rotate_left; assumption; rfl)
  | (refine Own.atL (h0 := ?_) (L := ?_) ?_ 9 ?_; rotate_left; rotate_left; assumption; rfl)
  | (refine Own.getL (h0 := ?_) (L := ?_) ?_ ?_; rotate_left; rotate_left; assumption; assumption))
local macro_rules | `(tactic| walk_at "il") => `(tactic| first
  | (refine Own.isL (h0 := ?_) (L := ?_) (l := ?_) ?_ 0 ?_; rotate_left; rotate_left; rotate_left; assumption; rfl)
  | (refine Own.isL (h0 := ?_) (L := ?_) (l := ?_) ?_ 1 ?_; rotate_left; rotate_left; rotate_left; assumption; rfl)
  | (refine Own.isL (h0 := ?_) (L := ?_) (l := ?_) ?_ 2 ?_; rotate_left; rotate_left; rotate_left; assumption; rfl)
  | (refine Own.isL (h0 := ?_) (L := ?_) (l := ?_) ?_ 3 ?_; rotate_left; rotate_left; rotate_left; assumption; rfl)
  | (refine Own.isL (h0 := ?_) (L := ?_) (l := ?_) ?_ 4 ?_; rotate_left; rotate_left; rotate_left; assumption; rfl)
  | (refine Own.isL (h0 := ?_) (L := ?_) (l := ?_) ?_ 5 ?_; rotate_left; rotate_left; rotate_left; assumption; rfl)
  | (refine Own.isL (h0 := ?_) (L := ?_) (l := ?_) ?_ 6 ?_; rotate_left; rotate_left; rotate_left; assumption; rfl)
  | (refine Own.isL (h0 := ?_) (L := ?_) (l := ?_) ?_ 7 ?_; rotate_left; rotate_left; rotate_left; assumption; rfl)
  | (refine Own.isL (h0 := ?_) (L := ?_) (l := ?_) ?_ 8 ?_; rotate_left; rotate_left; rotate_left; assumption; rfl)
  | (refine Own.isL (h0 := ?_) (L := ?_) (l := ?_) ?_ 9 ?_; rotate_left; rotate_left; rotate_left; assumption; rfl))
local macro_rules | `(tactic| walk_at "bd") => `(tactic| first | assumption | omega | (simp; done) | (simp; omega) | (simp [*]; done) | (simp [*]; omega))
local macro_rules | `(tactic| walk_at "w") => `(tactic| first
  | with_reducible refine w_seq ?_
  | with_reducible refine w_asg ?_
  | with_reducible refine w_cons ?_
  | with_reducible refine w_nil ?_
  | with_reducible refine w_c ?_
  | ((with_reducible refine w_var (d := ?_) ?_ ?_); rotate_left; rfl)
  | with_reducible refine w_bin ?_
  | with_reducible refine w_call ?_
  | with_reducible refine w_if ?_
  | with_reducible refine w_B ?_
  | with_reducible refine w_unB ?_
  | with_reducible refine w_ret ?_
  | with_reducible refine w_drop ?_
  | with_reducible refine w_skip ?_
  | with_reducible refine w_eq (dAdd_int _ _ _) ?_
  | with_reducible refine w_eq (dSub_int _ _ _) ?_
  | with_reducible refine w_eq (dEq_int _ _ _) ?_
  | with_reducible refine w_eq (dEq_str _ _ _) ?_
  | with_reducible refine w_eq (dNe_strs _ _ _) ?_
  | with_reducible refine w_eq (dEq_bls _ _ _) ?_
  | with_reducible refine w_eq (dNe_bls _ _ _) ?_
  | with_reducible refine w_eq (dLt_int _ _ _) ?_
  | with_reducible refine w_eq (dLe_int _ _ _) ?_
  | with_reducible refine w_eq (dGt_int _ _ _) ?_
  | with_reducible refine w_eq (dGe_int _ _ _) ?_
  | with_reducible refine w_eq (dNe_int _ _ _) ?_
  | ((with_reducible refine w_mod ?_ ?_); (first | assumption | decide | omega))
  | ((with_reducible refine w_fdiv ?_ ?_); (first | assumption | decide | omega))
  | ((with_reducible refine w_mulS ?_ ?_); (first | decide | omega))
  | ((with_reducible refine w_addS ?_ ?_); (first | assumption | decide | omega))
  | ((with_reducible refine w_lenS ?_ ?_); (first | assumption | decide | omega))
  | ((with_reducible refine w_slS ?_ ?_); (first | assumption | decide | omega))
  | with_reducible refine w_lenTm ?_
  | with_reducible refine w_eq (dLen_tup _ _) ?_
  | with_reducible refine w_eq (dSl_tup _ _ _ _) ?_
  | with_reducible refine w_eq (dMax_ev _ _ _) ?_
  | with_reducible refine w_eq (dMin_ev _ _ _) ?_
  | with_reducible refine w_eq (dAbs_ev _ _) ?_
  | with_reducible refine w_not ?_
  | with_reducible refine w_and ?_
  | with_reducible refine w_or ?_
  | with_reducible refine br_n ?_
  | with_reducible refine br_tt ?_
  | with_reducible refine br_ff ?_
  | ((with_reducible refine br_dt ?_ ?_); (first | assumption | omega | rfl))
  | ((with_reducible refine br_df ?_ ?_); (first | assumption | omega))
  | with_reducible refine w_tup ?_
  | ((with_reducible refine w_toTup ?_ ?_); exact (by simp))
  | with_reducible refine w_lst ?_
  | with_reducible refine w_lc ?_
  | with_reducible refine w_for ?_
  | with_reducible refine w_range1 ?_
  | with_reducible refine w_range2 ?_
  | ((with_reducible refine w_dR1 ?_ ?_); (first | decide | omega))
  | ((with_reducible refine w_dR2 ?_ ?_); (first | decide | omega))
  | with_reducible refine w_iter ?_
  | with_reducible refine w_eq (iter1_tup _ _) ?_
  | with_reducible refine w_eq (iter1_str _ _) ?_
  | with_reducible refine w_sl ?_
  | with_reducible refine w_no ?_
  | with_reducible refine w_some ?_
  | with_reducible refine w_unI ?_
  | with_reducible refine w_meth ?_
  | with_reducible refine w_isi ?_
  | with_reducible refine w_zip ?_
  | with_reducible refine w_ifE ?_
  | with_reducible refine w_andV ?_
  | with_reducible refine w_orV ?_
  | with_reducible refine w_notV ?_
  | with_reducible refine w_andK ?_
  | with_reducible refine w_orK ?_
  | with_reducible refine w_notK ?_
  | with_reducible refine w_revL ?_
  | with_reducible refine w_listRg1 ?_
  | with_reducible refine w_tindex ?_
  | with_reducible refine w_setIx ?_
  | with_reducible refine w_un ?_
  | with_reducible refine w_rev1 ?_
  | with_reducible refine w_rev2 ?_
  | with_reducible refine w_chain ?_
  | with_reducible refine w_chK ?_
  | with_reducible refine w_retN ?_
  | with_reducible refine w_brk ?_
  | with_reducible refine w_cont ?_
  | with_reducible refine w_asgT ?_
  | with_reducible refine w_eq (isi_str_str _ _) ?_
  | with_reducible refine w_eq (isi_int_int _ _) ?_
  | with_reducible refine w_eq (isi_tup_tup _ _) ?_
  | with_reducible refine w_eq (isi_bool_int _ _) ?_
  | with_reducible refine w_eq (isi_str_int _ _) ?_
  | ((with_reducible refine w_lenLm (α := ?_) (f := ?_) (l := ?_) ?_ ?_); rotate_left; rotate_left; rotate_left; walk_at "gl")
  | ((with_reducible refine w_lenL (l := ?_) ?_ ?_); rotate_left; walk_at "gl")
  | ((with_reducible refine w_iterL (l := ?_) ?_ ?_); rotate_left; walk_at "gl"; dsimp only)
  | ((with_reducible refine w_tupL (l := ?_) ?_ ?_); rotate_left; walk_at "gl")
  | ((with_reducible refine w_ixT (d := ?_) ?_ ?_); rotate_left; (first | with_reducible assumption | rfl))
  | ((with_reducible refine w_ixL (l := ?_) (d := ?_) ?_ ?_ ?_); rotate_left; rotate_left; walk_at "gl"; (first | with_reducible assumption | rfl))
  | ((with_reducible refine w_addT ?_ ?_); walk_at "bd")
  | ((with_reducible refine ⟨?_, ?_⟩); (with_reducible (show isListD (.ref _) _ = true)); walk_at "il")
  | with_reducible refine w_tryK ?_
  | with_reducible refine w_raise ?_
  | with_reducible refine w_raise0 ?_
  | with_reducible refine w_isX ?_
  | ((with_reducible refine w_isXK (k := ?_) ?_ ?_); rotate_left; (first | with_reducible exact lkA | (apply lkB; decide +kernel; exact lkA) | (apply lkB; decide +kernel; apply lkB; decide +kernel; exact lkA) | (apply lkB; decide +kernel; apply lkB; decide +kernel; apply lkB; decide +kernel; exact lkA)))
  | with_reducible refine w_xf ?_
  | ((with_reducible refine w_xfK ?_ ?_ ?_); (exact List.mem_cons_self); (decide))
  | with_reducible refine w_eq (isN_xo _) ?_
  | with_reducible refine w_eq (dNeg_int _ _) ?_)
local macro_rules | `(tactic| walk_at "go") => `(tactic| (repeat (walk_at "w")); try dsimp only [List.set])
local macro_rules | `(tactic| walk_at "fn") => `(tactic| ((refine w_fun ?_); simp only [startD, List.map_cons, List.map_nil, List.reduceReplicate, Nat.reduceSub, List.cons_append, List.nil_append]; walk_at "go"))
def pnOf (ps : List Int) : Nat → Nat := fun j => (ps.getD j 0).toNat
theorem Par.pn {ps : List Int} (h : Par ps) : PnOk (pnOf ps) ps.length := fun j h0 h1 => by
  have e := List.getElem?_eq_getElem (l := ps) (i := j) h1
  have := h.2 j _ h0 e
  unfold pnOf
  rw [List.getD_eq_getElem?_getD, e]
  simp; omega
theorem Par.val {ps : List Int} (h : Par ps) {j : Nat} {p : Int} (e : ps[j]? = some p) : p = (pnOf ps j : Int) := by
  unfold pnOf
  rw [List.getD_eq_getElem?_getD, e]
  rcases Nat.eq_zero_or_pos j with z | z
  · subst z
    rw [h.1] at e
    cases e
    rfl
  · have := h.2 j p z e
    simp; omega
theorem getE {α : Type} {l : List α} {i : Nat} (h : i < l.length) : l[i]? = some l[i] := List.getElem?_eq_getElem h
/-! ### the program's defs -/
theorem ok_ks {n : Nat} {d : Doc} (h : d.ok (n + 1)) : d.ks.length ≤ 1000 ∧ ∀ k ∈ d.ks, k.ok n := by
  cases d
  exact ⟨h.2.1, h.2.2⟩
theorem cc_same : ∀ (n : Nat) (d : Doc) (h : MH), d.ok n → Sat (m_same_49f62 n [d.toD, d.toD] h) (fun r h' => r = .bl true ∧ h' = h) noX
  | 0, d, h, hd => hd.elim
  | n + 1, d, h, hd => by
    obtain ⟨hl, hk⟩ := ok_ks hd
    unfold m_same_49f62
    rw [toD_eq]
    walk_at "fn"
    rw [Int.toNat_natCast]
    refine w_loop0 (fun k ρ h' => h' = h ∧ ∃ o2, ρ = [some (.tup [.str d.nm, .tup (d.ks.map Doc.toD)]), some (.tup [.str d.nm, .tup (d.ks.map Doc.toD)]), o2]) ⟨rfl, none, rfl⟩ (fun _ _ _ _ => rfl) ?_ ?_
    · rintro k x ρ h' hx ⟨rfl, o2, rfl⟩
      obtain ⟨hkl, rfl⟩ := rangeD_get hx
      refine ⟨_, rfl, ?_⟩
      dsimp only [List.set]
      rw [Int.zero_add]
      have e := getE (l := d.ks) hkl
      have a1 : atI (d.ks.map Doc.toD) (k : Int) = some d.ks[k].toD := atI_at (by rw [List.getElem?_map, e]; rfl)
      walk_at "go"
      refine (cc_same n d.ks[k] h' (hk _ (List.getElem_mem hkl))).mono ?_
      rintro r h2 ⟨rfl, rfl⟩
      walk_at "go"
      exact ⟨rfl, _, rfl⟩
    · rintro ρ h' ⟨rfl, o2, rfl⟩
      walk_at "go"
      exact ⟨rfl, rfl⟩
end Mi

namespace Mi
open PySem L2
local macro_rules | `(tactic| walk_at "gl") => `(tactic| first
  | assumption
  | (refine Own.atL (h0 := ?_) (L := ?_) ?_ 0 ?_; rotate_left; rotate_left; assumption; rfl)
  | (refine Own.atL (h0 := ?_) (L := ?_) ?_ 1 ?_; rotate_left; rotate_left; assumption; rfl)
  | (refine Own.atL (h0 := ?_) (L := ?_) ?_ 2 ?_; rotate_left; rotate_left; assumption; rfl)
  | (refine Own.atL (h0 := ?_) (L := ?_) ?_ 3 ?_; rotate_left; rotate_left; assumption; rfl)
  | (refine Own.atL (h0 := ?_) (L := ?_) ?_ 4 ?_; rotate_left; rotate_left; assumption; rfl)
  | (refine Own.atL (h0 := ?_) (L := ?_) ?_ 5 ?_; rotate_left; rotate_left; assumption; rfl)
  | (refine Own.atL (h0 := ?_) (L := ?_) ?_ 6 ?_; rotate_left; rotate_left; assumption; rfl)
  | (refine Own.atL (h0 := ?_) (L := ?_) ?_ 7 ?_; rotate_left; rotate_left; assumption; rfl)
  | (refine Own.atL (h0 := ?_) (L := ?_) ?_ 8 ?_; rotate_left; rotate_left; assumption; rfl)
  | (refine Own.atL (h0 := ?_) (L := ?_) ?_ 9 ?_; rotate_left; rotate_left; assumption; rfl)
  | (refine Own.getL (h0 := ?_) (L := ?_) ?_ ?_; rotate_left; rotate_left; assumption; assumption))
local macro_rules | `(tactic| walk_at "il") => `(tactic| first
  | (refine Own.isL (h0 := ?_) (L := ?_) (l := ?_) ?_ 0 ?_; rotate_left; rotate_left; rotate_left; assumption; rfl)
  | (refine Own.isL (h0 := ?_) (L := ?_) (l := ?_) ?_ 1 ?_; rotate_left; rotate_left; rotate_left; assumption; rfl)
  | (refine Own.isL (h0 := ?_) (L := ?_) (l := ?_) ?_ 2 ?_; rotate_left; rotate_left; rotate_left; assumption; rfl)
  | (refine Own.isL (h0 := ?_) (L := ?_) (l := ?_) ?_ 3 ?_; rotate_left; rotate_left; rotate_left; assumption; rfl)
  | (refine Own.isL (h0 := ?_) (L := ?_) (l := ?_) ?_ 4 ?_; rotate_left; rotate_left; rotate_left; assumption; rfl)
  | (refine Own.isL (h0 := ?_) (L := ?_) (l := ?_) ?_ 5 ?_; rotate_left; rotate_left; rotate_left; assumption; rfl)
  | (refine Own.isL (h0 := ?_) (L := ?_) (l := ?_) ?_ 6 ?_; rotate_left; rotate_left; rotate_left; assumption; rfl)
  | (refine Own.isL (h0 := ?_) (L := ?_) (l := ?_) ?_ 7 ?_; rotate_left; rotate_left; rotate_left; assumption; rfl)
  | (refine Own.isL (h0 := ?_) (L := ?_) (l := ?_) ?_ 8 ?_; rotate_left; rotate_left; rotate_left; assumption; rfl)
  | (refine Own.isL (h0 := ?_) (L := ?_) (l := ?_) ?_ 9 ?_; rotate_left; rotate_left; rotate_left; assumption; rfl))
local macro_rules | `(tactic| walk_at "bd") => `(tactic| first | assumption | omega | (simp; done) | (simp; omega) | (simp [*]; done) | (simp [*]; omega))
local macro_rules | `(tactic| walk_at "w") => `(tactic| first
  | with_reducible refine w_seq ?_
  | with_reducible refine w_asg ?_
  | with_reducible refine w_cons ?_
  | with_reducible refine w_nil ?_
  | with_reducible refine w_c ?_
  | ((with_reducible refine w_var (d := ?_) ?_ ?_); rotate_left; rfl)
  | with_reducible refine w_bin ?_
  | with_reducible refine w_call ?_
  | with_reducible refine w_if ?_
  | with_reducible refine w_B ?_
  | with_reducible refine w_unB ?_
  | with_reducible refine w_ret ?_
  | with_reducible refine w_drop ?_
  | with_reducible refine w_skip ?_
  | with_reducible refine w_eq (dAdd_int _ _ _) ?_
  | with_reducible refine w_eq (dSub_int _ _ _) ?_
  | with_reducible refine w_eq (dEq_int _ _ _) ?_
  | with_reducible refine w_eq (dEq_str _ _ _) ?_
  | with_reducible refine w_eq (dNe_strs _ _ _) ?_
  | with_reducible refine w_eq (dEq_bls _ _ _) ?_
  | with_reducible refine w_eq (dNe_bls _ _ _) ?_
  | with_reducible refine w_eq (dLt_int _ _ _) ?_
  | with_reducible refine w_eq (dLe_int _ _ _) ?_
  | with_reducible refine w_eq (dGt_int _ _ _) ?_
  | with_reducible refine w_eq (dGe_int _ _ _) ?_
  | with_reducible refine w_eq (dNe_int _ _ _) ?_
  | ((with_reducible refine w_mod ?_ ?_); (first | assumption | decide | omega))
  | ((with_reducible refine w_fdiv ?_ ?_); (first | assumption | decide | omega))
  | ((with_reducible refine w_mulS ?_ ?_); (first | decide | omega))
  | ((with_reducible refine w_addS ?_ ?_); (first | assumption | decide | omega))
  | ((with_reducible refine w_lenS ?_ ?_); (first | assumption | decide | omega))
  | ((with_reducible refine w_slS ?_ ?_); (first | assumption | decide | omega))
  | with_reducible refine w_lenTm ?_
  | with_reducible refine w_eq (dLen_tup _ _) ?_
  | with_reducible refine w_eq (dSl_tup _ _ _ _) ?_
  | with_reducible refine w_eq (dMax_ev _ _ _) ?_
  | with_reducible refine w_eq (dMin_ev _ _ _) ?_
  | with_reducible refine w_eq (dAbs_ev _ _) ?_
  | with_reducible refine w_not ?_
  | with_reducible refine w_and ?_
  | with_reducible refine w_or ?_
  | with_reducible refine br_n ?_
  | with_reducible refine br_tt ?_
  | with_reducible refine br_ff ?_
  | ((with_reducible refine br_dt ?_ ?_); (first | assumption | omega | rfl))
  | ((with_reducible refine br_df ?_ ?_); (first | assumption | omega))
  | with_reducible refine w_tup ?_
  | ((with_reducible refine w_toTup ?_ ?_); exact (by simp))
  | with_reducible refine w_lst ?_
  | with_reducible refine w_lc ?_
  | with_reducible refine w_for ?_
  | with_reducible refine w_range1 ?_
  | with_reducible refine w_range2 ?_
  | ((with_reducible refine w_dR1 ?_ ?_); (first | decide | omega))
  | ((with_reducible refine w_dR2 ?_ ?_); (first | decide | omega))
  | with_reducible refine w_iter ?_
  | with_reducible refine w_eq (iter1_tup _ _) ?_
  | with_reducible refine w_eq (iter1_str _ _) ?_
  | with_reducible refine w_sl ?_
  | with_reducible refine w_no ?_
  | with_reducible refine w_some ?_
  | with_reducible refine w_unI ?_
  | with_reducible refine w_meth ?_
  | with_reducible refine w_isi ?_
  | with_reducible refine w_zip ?_
  | with_reducible refine w_ifE ?_
  | with_reducible refine w_andV ?_
  | with_reducible refine w_orV ?_
  | with_reducible refine w_notV ?_
  | with_reducible refine w_andK ?_
  | with_reducible refine w_orK ?_
  | with_reducible refine w_notK ?_
  | with_reducible refine w_revL ?_
  | with_reducible refine w_listRg1 ?_
  | with_reducible refine w_tindex ?_
  | with_reducible refine w_setIx ?_
  | with_reducible refine w_un ?_
  | with_reducible refine w_rev1 ?_
  | with_reducible refine w_rev2 ?_
  | with_reducible refine w_chain ?_
  | with_reducible refine w_chK ?_
  | with_reducible refine w_retN ?_
  | with_reducible refine w_brk ?_
  | with_reducible refine w_cont ?_
  | with_reducible refine w_asgT ?_
  | with_reducible refine w_eq (isi_str_str _ _) ?_
  | with_reducible refine w_eq (isi_int_int _ _) ?_
  | with_reducible refine w_eq (isi_tup_tup _ _) ?_
  | with_reducible refine w_eq (isi_bool_int _ _) ?_
  | with_reducible refine w_eq (isi_str_int _ _) ?_
  | ((with_reducible refine w_lenLm (α := ?_) (f := ?_) (l := ?_) ?_ ?_); rotate_left; rotate_left; rotate_left; walk_at "gl")
  | ((with_reducible refine w_lenL (l := ?_) ?_ ?_); rotate_left; walk_at "gl")
  | ((with_reducible refine w_iterL (l := ?_) ?_ ?_); rotate_left; walk_at "gl"; dsimp only)
  | ((with_reducible refine w_tupL (l := ?_) ?_ ?_); rotate_left; walk_at "gl")
  | ((with_reducible refine w_ixT (d := ?_) ?_ ?_); rotate_left; (first | with_reducible assumption | rfl))
  | ((with_reducible refine w_ixL (l := ?_) (d := ?_) ?_ ?_ ?_); rotate_left; rotate_left; walk_at "gl"; (first | with_reducible assumption | rfl))
  | ((with_reducible refine w_addT ?_ ?_); walk_at "bd")
  | ((with_reducible refine ⟨?_, ?_⟩); (with_reducible (show isListD (.ref _) _ = true)); walk_at "il")
  | with_reducible refine w_tryK ?_
  | with_reducible refine w_raise ?_
  | with_reducible refine w_raise0 ?_
  | with_reducible refine w_isX ?_
  | ((with_reducible refine w_isXK (k := ?_) ?_ ?_); rotate_left; (first | with_reducible exact lkA | (apply lkB; decide +kernel; exact lkA) | (apply lkB; decide +kernel; apply lkB; decide +kernel; exact lkA) | (apply lkB; decide +kernel; apply lkB; decide +kernel; apply lkB; decide +kernel; exact lkA)))
  | with_reducible refine w_xf ?_
  | ((with_reducible refine w_xfK ?_ ?_ ?_); (exact List.mem_cons_self); (decide))
  | with_reducible refine w_eq (isN_xo _) ?_
  | with_reducible refine w_eq (dNeg_int _ _) ?_)
local macro_rules | `(tactic| walk_at "go") => `(tactic| (repeat (walk_at "w")); try dsimp only [List.set])
local macro_rules | `(tactic| walk_at "fn") => `(tactic| ((refine w_fun ?_); simp only [startD, List.map_cons, List.map_nil, List.reduceReplicate, Nat.reduceSub, List.cons_append, List.nil_append]; walk_at "go"))
theorem CellP.div {c k : Int} (h : CellP c) (hk : 0 < k) : CellP (c / k) := by
  have h1 : 0 ≤ c / k := Int.ediv_nonneg h.2 (by omega)
  refine ⟨Nat.le_trans (bits_mono ?_) h.1, h1⟩
  have := Int.ediv_le_self k h.2
  have h2 := h.2
  omega
theorem CellP.small {c : Int} (h0 : 0 ≤ c) (h1 : c < 2147483648) : CellP c := ⟨cell_small h0 h1, h0⟩
def Smalls (zs : List Int) : Prop := ∀ z ∈ zs, 0 ≤ z ∧ z < 1000000000
/-- a little more than a cell -/
def CellQ (c : Int) : Prop := Builtin.Int.intBits c ≤ 1048576 + 64 ∧ 0 ≤ c
theorem CellP.q {c : Int} (h : CellP c) : CellQ c := ⟨Nat.le_trans h.1 (by decide), h.2⟩
theorem CellQ.small {c : Int} (h0 : 0 ≤ c) (h1 : c < 2147483648) : CellQ c := (CellP.small h0 h1).q
theorem CellQ.div {c k : Int} (h : CellQ c) (hk : 0 < k) : CellQ (c / k) := by
  have h1 : 0 ≤ c / k := Int.ediv_nonneg h.2 (by omega)
  refine ⟨Nat.le_trans (bits_mono ?_) h.1, h1⟩
  have := Int.ediv_le_self k h.2
  have h2 := h.2
  omega
theorem bits_lt' (n : Nat) : n < 2 ^ Builtin.Int.intBits (n : Int) := by
  unfold Builtin.Int.intBits
  split
  · rename_i hz
    have : n = 0 := by simpa using hz
    subst this
    decide
  · rename_i hz
    rw [Int.natAbs_natCast]
    exact Nat.lt_log2_self
theorem pow_more {n k B : Nat} (h : n < 2 ^ B) (hk : k < 2147483648) : n + k < 2 ^ (B + 64) := by
  rw [Nat.pow_add]
  have e2 : (1 : Nat) ≤ 2 ^ B := Nat.one_le_two_pow
  have h64 : (2 : Nat) ^ 64 = 18446744073709551616 := by decide
  rw [h64]
  omega
theorem CellP.add {c k : Int} (h : CellP c) (h0 : 0 ≤ k) (h1 : k < 2147483648) : CellQ (c + k) := by
  have hc := h.2
  refine ⟨bits_lt ?_, by omega⟩
  have e := bits_lt' c.toNat
  rw [Int.toNat_of_nonneg hc] at e
  have e1 := pow_more (k := k.toNat) (Nat.lt_of_lt_of_le e (Nat.pow_le_pow_right (n := 2) (by decide) h.1)) (by omega)
  have e2 : (c + k).natAbs = c.toNat + k.toNat := by omega
  rw [e2]
  exact e1
theorem cc_numbersQ {c n : Int} (hc : CellQ c) (hn : 0 ≤ n ∧ n ≤ 1000) {h : MH} : Sat (m_numbers_207ed [.int c, .int n] h) (fun d h' => ∃ (j : Nat) (zs : List Int), d = .ref j ∧ Own h h' [(j, zs.map .int)] ∧ (zs.length : Int) = n ∧ Smalls zs) noX := by
  walk_at "fn"
  refine o_new (Own.nil h) (by simp) fun iL h2 o2 => ?_
  walk_at "go"
  refine w_pow (n := 18) (by decide) ?_
  walk_at "go"
  refine w_eq (dInt_bl _ _) ?_
  refine w_mulB (a := 1048576 + 64) (b := 64) hc.1 (bits_small (by split <;> decide) (by split <;> decide)) (by decide) ?_
  have hr : ∃ rest, c * (if decide (c ≥ 10 ^ 18) = true then 1 else 0) = rest ∧ CellQ rest := ⟨_, rfl, by
    split
    · rw [Int.mul_one]; exact hc
    · rw [Int.mul_zero]; exact CellQ.small (by decide) (by decide)⟩
  obtain ⟨rest, er, hrest⟩ := hr
  rw [er]
  walk_at "go"
  refine w_mulB (a := 1048576 + 64) (b := 64) hc.1 (bits_small (by decide) (by decide)) (by decide) ?_
  walk_at "go"
  have hz0 := mod_in (c * 16807) (n := 2147483629) (by decide)
  generalize c * 16807 % 2147483629 = z0 at *
  refine w_loop0 (fun k ρ h' => ∃ (rest z : Int) (o5 : Option D) (zs : List Int), ρ = [some (.int c), some (.int n), some (.ref iL), some (.int rest), some (.int z), o5] ∧ Own h h' [(iL, zs.map .int)] ∧ zs.length = k ∧ Smalls zs ∧ CellQ rest ∧ 0 ≤ z ∧ z < 2147483648) ⟨rest, z0, none, [], rfl, o2, rfl, fun z hz => by simp at hz, hrest, hz0.1, by omega⟩ (fun _ _ _ _ => rfl) ?_ ?_
  · rintro k d ρ h' hd ⟨rest, z, o5, zs, rfl, o, hk, hzs, hr, hz⟩
    obtain ⟨hk', rfl⟩ := rangeD_get hd
    refine ⟨_, rfl, ?_⟩
    dsimp only [List.set]
    walk_at "go"
    refine br_d (fun q => ?_) (fun q => ?_)
    · walk_at "go"
      refine w_pow (n := 9) (by decide) ?_
      walk_at "go"
      have hm := mod_in rest (n := 10 ^ 9) (by decide)
      refine o_app o 0 rfl (by simp; omega) fun h5 o5 => ?_
      rw [List.set_cons_zero, map_app1] at o5
      walk_at "go"
      refine w_pow (n := 9) (by decide) ?_
      refine w_fdiv (by decide) ?_
      exact ⟨_, _, _, _, rfl, o5, by simp [hk], mem_app hzs ⟨hm.1, hm.2⟩, hr.div (by decide), hz⟩
    · walk_at "go"
      have hm := mod_in (z * 48271 + 12345 + (0 + (k : Int))) (n := 2147483647) (by decide)
      generalize (z * 48271 + 12345 + (0 + (k : Int))) % 2147483647 = v at *
      refine o_app o 0 rfl (by simp; omega) fun h5 o5 => ?_
      rw [List.set_cons_zero, map_app1] at o5
      exact ⟨_, _, _, _, rfl, o5, by simp [hk], mem_app hzs (by omega), hr, by omega, by omega⟩
  · rintro ρ h' ⟨rest, z, o5, zs, rfl, o, hk, hzs, hr, hz⟩
    rw [rangeD_length] at hk
    walk_at "go"
    exact ⟨iL, zs, rfl, o, by omega, hzs⟩
theorem cc_name2Q {c : Int} (hc : CellQ c) {h : MH} : Sat (m_name_81bef [.int c] h) (fun d h' => h <+: h' ∧ ∃ x, d = .str x ∧ Nm x) noX := by
  have hm := mod_in c (n := 8) (by decide)
  walk_at "fn"
  refine w_pow (n := 18) (by decide) ?_
  walk_at "go"
  have hn8 : 1 ≤ 1 + c % 8 ∧ 1 + c % 8 ≤ 8 := by omega
  generalize 1 + c % 8 = n at *
  refine br_d (fun q => ?_) (fun q => ?_)
  · walk_at "go"
    exact (cc_spelled (by omega)).mono fun d h' hh => ⟨by rw [hh.1]; exact List.prefix_rfl, hh.2⟩
  walk_at "go"
  refine br_d (fun q => ?_) (fun q => ?_)
  · walk_at "go"
    have hm2 := mod_in (c / 16) (n := n) (by omega)
    generalize c / 16 % n = t at *
    refine w_mulN hm2.1 (by omega) fun x hx => ?_
    walk_at "go"
    refine w_ltr fun z hz => ?_
    refine w_addLs hx hz (by omega) fun hxz => ?_
    walk_at "go"
    refine w_mulN (by omega) (by omega) fun y hy => ?_
    refine w_addLs hxz hy (by omega) fun hxy => ?_
    exact ⟨List.prefix_rfl, _, rfl, hxy.nm (by omega) (by omega)⟩
  walk_at "go"
  refine (cc_numbersQ hc (by omega)).mono ?_
  rintro d h2 ⟨iN, zs, rfl, o2, hzl, hzs⟩
  walk_at "go"
  refine w_loop0 (fun k ρ h' => h' = h2 ∧ ∃ x o4, ρ = [some (.int c), some (.str (Str.ofString "abcdefghijklmnopqrstuvwxyz")), some (.int n), some (.str x), o4, none] ∧ Ls k x) ⟨rfl, _, none, rfl, ⟨rfl, fun c hc => by rw [emp_cps] at hc; simp at hc⟩⟩ (fun _ _ _ hh => by rw [hh.1]; simp [o2.atL 0 rfl]) ?_ ?_
  · rintro k d ρ h' hd ⟨rfl, x, o6, rfl, hx⟩
    rw [List.getElem?_map, Option.map_eq_some_iff] at hd
    obtain ⟨z, ez, rfl⟩ := hd
    have hk := (List.getElem?_eq_some_iff.mp ez).1
    refine ⟨_, rfl, ?_⟩
    dsimp only [List.set]
    walk_at "go"
    refine w_ltr fun l hl => ?_
    refine w_addLs hx hl (by omega) fun hxz => ?_
    exact ⟨rfl, _, _, rfl, hxz⟩
  · rintro ρ h' ⟨rfl, x, o6, rfl, hx⟩
    rw [List.length_map] at hx
    walk_at "go"
    exact ⟨o2.pre, x, rfl, hx.nm (by omega) (by omega)⟩
theorem cc_numbers {c n : Int} (hc : CellP c) (hn : 0 ≤ n ∧ n ≤ 1000) {h : MH} : Sat (m_numbers_207ed [.int c, .int n] h) (fun d h' => ∃ (j : Nat) (zs : List Int), d = .ref j ∧ Own h h' [(j, zs.map .int)] ∧ (zs.length : Int) = n ∧ Smalls zs) noX := cc_numbersQ hc.q hn
end Mi

namespace Mi
open PySem L2
local macro_rules | `(tactic| walk_at "gl") => `(tactic| first
  | assumption
  | (refine Own.atL (h0 := ?_) (L := ?_) ?_ 0 ?_; rotate_left; rotate_left; assumption; rfl)
  | (refine Own.atL (h0 := ?_) (L := ?_) ?_ 1 ?_; rotate_left; rotate_left; assumption; rfl)
  | (refine Own.atL (h0 := ?_) (L := ?_) ?_ 2 ?_; rotate_left; rotate_left; assumption; rfl)
  | (refine Own.atL (h0 := ?_) (L := ?_) ?_ 3 ?_; rotate_left; rotate_left; assumption; rfl)
  | (refine Own.atL (h0 := ?_) (L := ?_) ?_ 4 ?_; rotate_left; rotate_left; assumption; rfl)
  | (refine Own.atL (h0 := ?_) (L := ?_) ?_ 5 ?_; rotate_left; rotate_left; assumption; rfl)
  | (refine Own.atL (h0 := ?_) (L := ?_) ?_ 6 ?_; rotate_left; rotate_left; assumption; rfl)
  | (refine Own.atL (h0 := ?_) (L := ?_) ?_ 7 ?_; rotate_left; rotate_left; assumption; rfl)
  | (refine Own.atL (h0 := ?_) (L := ?_) ?_ 8 ?_; rotate_left; rotate_left; assumption; rfl)
  | (refine Own.atL (h0 := ?_) (L := ?_) ?_ 9 ?_; rotate_left; rotate_left; assumption; rfl)
  | (refine Own.getL (h0 := ?_) (L := ?_) ?_ ?_; rotate_left; rotate_left; assumption; assumption))
local macro_rules | `(tactic| walk_at "il") => `(tactic| first
  | (refine Own.isL (h0 := ?_) (L := ?_) (l := ?_) ?_ 0 ?_; rotate_left; rotate_left; rotate_left; assumption; rfl)
  | (refine Own.isL (h0 := ?_) (L := ?_) (l := ?_) ?_ 1 ?_; rotate_left; rotate_left; rotate_left; assumption; rfl)
  | (refine Own.isL (h0 := ?_) (L := ?_) (l := ?_) ?_ 2 ?_; rotate_left; rotate_left; rotate_left; assumption; rfl)
  | (refine Own.isL (h0 := ?_) (L := ?_) (l := ?_) ?_ 3 ?_; rotate_left; rotate_left; rotate_left; assumption; rfl)
  | (refine Own.isL (h0 := ?_) (L := ?_) (l := ?_) ?_ 4 ?_; rotate_left; rotate_left; rotate_left; assumption; rfl)
  | (refine Own.isL (h0 := ?_) (L := ?_) (l := ?_) ?_ 5 ?_; rotate_left; rotate_left; rotate_left; assumption; rfl)
  | (refine Own.isL (h0 := ?_) (L := ?_) (l := ?_) ?_ 6 ?_; rotate_left; rotate_left; rotate_left; assumption; rfl)
  | (refine Own.isL (h0 := ?_) (L := ?_) (l := ?_) ?_ 7 ?_; rotate_left; rotate_left; rotate_left; assumption; rfl)
  | (refine Own.isL (h0 := ?_) (L := ?_) (l := ?_) ?_ 8 ?_; rotate_left; rotate_left; rotate_left; assumption; rfl)
  | (refine Own.isL (h0 := ?_) (L := ?_) (l := ?_) ?_ 9 ?_; rotate_left; rotate_left; rotate_left; assumption; rfl))
local macro_rules | `(tactic| walk_at "bd") => `(tactic| first | assumption | omega | (simp; done) | (simp; omega) | (simp [*]; done) | (simp [*]; omega))
local macro_rules | `(tactic| walk_at "w") => `(tactic| first
  | with_reducible refine w_seq ?_
  | with_reducible refine w_asg ?_
  | with_reducible refine w_cons ?_
  | with_reducible refine w_nil ?_
  | with_reducible refine w_c ?_
  | ((with_reducible refine w_var (d := ?_) ?_ ?_); rotate_left; rfl)
  | with_reducible refine w_bin ?_
  | with_reducible refine w_call ?_
  | with_reducible refine w_if ?_
  | with_reducible refine w_B ?_
  | with_reducible refine w_unB ?_
  | with_reducible refine w_ret ?_
  | with_reducible refine w_drop ?_
  | with_reducible refine w_skip ?_
  | with_reducible refine w_eq (dAdd_int _ _ _) ?_
  | with_reducible refine w_eq (dSub_int _ _ _) ?_
  | with_reducible refine w_eq (dEq_int _ _ _) ?_
  | with_reducible refine w_eq (dEq_str _ _ _) ?_
  | with_reducible refine w_eq (dNe_strs _ _ _) ?_
  | with_reducible refine w_eq (dEq_bls _ _ _) ?_
  | with_reducible refine w_eq (dNe_bls _ _ _) ?_
  | with_reducible refine w_eq (dLt_int _ _ _) ?_
  | with_reducible refine w_eq (dLe_int _ _ _) ?_
  | with_reducible refine w_eq (dGt_int _ _ _) ?_
  | with_reducible refine w_eq (dGe_int _ _ _) ?_
  | with_reducible refine w_eq (dNe_int _ _ _) ?_
  | ((with_reducible refine w_mod ?_ ?_); (first | assumption | decide | omega))
  | ((with_reducible refine w_fdiv ?_ ?_); (first | assumption | decide | omega))
  | ((with_reducible refine w_mulS ?_ ?_); (first | decide | omega))
  | ((with_reducible refine w_addS ?_ ?_); (first | assumption | decide | omega))
  | ((with_reducible refine w_lenS ?_ ?_); (first | assumption | decide | omega))
  | ((with_reducible refine w_slS ?_ ?_); (first | assumption | decide | omega))
  | with_reducible refine w_lenTm ?_
  | with_reducible refine w_eq (dLen_tup _ _) ?_
  | with_reducible refine w_eq (dSl_tup _ _ _ _) ?_
  | with_reducible refine w_eq (dMax_ev _ _ _) ?_
  | with_reducible refine w_eq (dMin_ev _ _ _) ?_
  | with_reducible refine w_eq (dAbs_ev _ _) ?_
  | with_reducible refine w_not ?_
  | with_reducible refine w_and ?_
  | with_reducible refine w_or ?_
  | with_reducible refine br_n ?_
  | with_reducible refine br_tt ?_
  | with_reducible refine br_ff ?_
  | ((with_reducible refine br_dt ?_ ?_); (first | assumption | omega | rfl))
  | ((with_reducible refine br_df ?_ ?_); (first | assumption | omega))
  | with_reducible refine w_tup ?_
  | ((with_reducible refine w_toTup ?_ ?_); exact (by simp))
  | with_reducible refine w_lst ?_
  | with_reducible refine w_lc ?_
  | with_reducible refine w_for ?_
  | with_reducible refine w_range1 ?_
  | with_reducible refine w_range2 ?_
  | ((with_reducible refine w_dR1 ?_ ?_); (first | decide | omega))
  | ((with_reducible refine w_dR2 ?_ ?_); (first | decide | omega))
  | with_reducible refine w_iter ?_
  | with_reducible refine w_eq (iter1_tup _ _) ?_
  | with_reducible refine w_eq (iter1_str _ _) ?_
  | with_reducible refine w_sl ?_
  | with_reducible refine w_no ?_
  | with_reducible refine w_some ?_
  | with_reducible refine w_unI ?_
  | with_reducible refine w_meth ?_
  | with_reducible refine w_isi ?_
  | with_reducible refine w_zip ?_
  | with_reducible refine w_ifE ?_
  | with_reducible refine w_andV ?_
  | with_reducible refine w_orV ?_
  | with_reducible refine w_notV ?_
  | with_reducible refine w_andK ?_
  | with_reducible refine w_orK ?_
  | with_reducible refine w_notK ?_
  | with_reducible refine w_revL ?_
  | with_reducible refine w_listRg1 ?_
  | with_reducible refine w_tindex ?_
  | with_reducible refine w_setIx ?_
  | with_reducible refine w_un ?_
  | with_reducible refine w_rev1 ?_
  | with_reducible refine w_rev2 ?_
  | with_reducible refine w_chain ?_
  | with_reducible refine w_chK ?_
  | with_reducible refine w_retN ?_
  | with_reducible refine w_brk ?_
  | with_reducible refine w_cont ?_
  | with_reducible refine w_asgT ?_
  | with_reducible refine w_eq (isi_str_str _ _) ?_
  | with_reducible refine w_eq (isi_int_int _ _) ?_
  | with_reducible refine w_eq (isi_tup_tup _ _) ?_
  | with_reducible refine w_eq (isi_bool_int _ _) ?_
  | with_reducible refine w_eq (isi_str_int _ _) ?_
  | ((with_reducible refine w_lenLm (α := ?_) (f := ?_) (l := ?_) ?_ ?_); rotate_left; rotate_left; rotate_left; walk_at "gl")
  | ((with_reducible refine w_lenL (l := ?_) ?_ ?_); rotate_left; walk_at "gl")
  | ((with_reducible refine w_iterL (l := ?_) ?_ ?_); rotate_left; walk_at "gl"; dsimp only)
  | ((with_reducible refine w_tupL (l := ?_) ?_ ?_); rotate_left; walk_at "gl")
  | ((with_reducible refine w_ixT (d := ?_) ?_ ?_); rotate_left; (first | with_reducible assumption | rfl))
  | ((with_reducible refine w_ixL (l := ?_) (d := ?_) ?_ ?_ ?_); rotate_left; rotate_left; walk_at "gl"; (first | with_reducible assumption | rfl))
  | ((with_reducible refine w_addT ?_ ?_); walk_at "bd")
  | ((with_reducible refine ⟨?_, ?_⟩); (with_reducible (show isListD (.ref _) _ = true)); walk_at "il")
  | with_reducible refine w_tryK ?_
  | with_reducible refine w_raise ?_
  | with_reducible refine w_raise0 ?_
  | with_reducible refine w_isX ?_
  | ((with_reducible refine w_isXK (k := ?_) ?_ ?_); rotate_left; (first | with_reducible exact lkA | (apply lkB; decide +kernel; exact lkA) | (apply lkB; decide +kernel; apply lkB; decide +kernel; exact lkA) | (apply lkB; decide +kernel; apply lkB; decide +kernel; apply lkB; decide +kernel; exact lkA)))
  | with_reducible refine w_xf ?_
  | ((with_reducible refine w_xfK ?_ ?_ ?_); (exact List.mem_cons_self); (decide))
  | with_reducible refine w_eq (isN_xo _) ?_
  | with_reducible refine w_eq (dNeg_int _ _) ?_)
local macro_rules | `(tactic| walk_at "go") => `(tactic| (repeat (walk_at "w")); try dsimp only [List.set])
local macro_rules | `(tactic| walk_at "fn") => `(tactic| ((refine w_fun ?_); simp only [startD, List.map_cons, List.map_nil, List.reduceReplicate, Nat.reduceSub, List.cons_append, List.nil_append]; walk_at "go"))
theorem inD_strs {x : Str} {l : List Str} {b : D} {h : MH} (e : seqOf h b = some (l.map .str)) (hb : ∀ z, b ≠ .str z) : inD (.str x) b h = some (decide (x ∈ l)) := by
  have h1 : ((l.map D.str).all flatD) = true := by
    rw [List.all_eq_true]
    intro d hd
    obtain ⟨y, _, rfl⟩ := List.mem_map.mp hd
    rfl
  have h2 : ((l.map D.str).any fun y => eqF y (.str x)) = decide (x ∈ l) := by
    rw [Bool.eq_iff_iff, List.any_eq_true, decide_eq_true_iff]
    constructor
    · rintro ⟨d, hd, e⟩
      obtain ⟨y, hy, rfl⟩ := List.mem_map.mp hd
      have : y = x := by simpa [eqF] using e
      exact this ▸ hy
    · intro hx
      exact ⟨.str x, List.mem_map.mpr ⟨x, hx, rfl⟩, by simp [eqF]⟩
  cases b with
  | str z => exact absurd rfl (hb z)
  | _ => simp only [inD, e, flatD, h1, and_self, if_true, h2]
section
variable {x : Str} {l : List Str} {h : MH} {Q : D → MH → Prop} {E : XE}
theorem w_ninLs {i : Nat} (e : getL h i = some (l.map .str)) (q : Q (.bl (!decide (x ∈ l))) h) : Sat (dNotIn (.str x) (.ref i) h) Q E := w_eq (by simp only [dNotIn, inD_strs (x := x) (l := l) (b := .ref i) (h := h) e (fun z => by simp)]) q
end
/-- names drawn, none twice -/
theorem cc_pool {c n : Int} (hc : CellQ c) (hn : 0 ≤ n ∧ n ≤ 1000) {h : MH} : Sat (m_pool_0b659 [.int c, .int n] h) (fun d h' => ∃ (j : Nat) (xs : List Str), d = .ref j ∧ Own h h' [(j, xs.map .str)] ∧ (∀ x ∈ xs, Nm x) ∧ xs.Nodup ∧ (xs.length : Int) ≤ n ∧ (0 < n → 0 < xs.length)) noX := by
  walk_at "fn"
  refine o_new (Own.nil h) (by simp) fun iL h1 o1 => ?_
  walk_at "go"
  refine (cc_numbersQ hc hn).mono ?_
  rintro d h2 ⟨jn, zs, rfl, o2', hzl, hzs⟩
  have o2 := o1.trans o2'
  walk_at "go"
  refine w_loop0 (fun k ρ h' => ∃ (c : Int) (o3 o4 : Option D) (xs : List Str), ρ = [some (.int c), some (.int n), some (.ref iL), o3, o4] ∧ CellQ c ∧ Own h h' [(jn, zs.map .int), (iL, xs.map .str)] ∧ (∀ x ∈ xs, Nm x) ∧ xs.Nodup ∧ xs.length ≤ k ∧ (0 < k → 0 < xs.length)) ⟨c, none, none, [], rfl, hc, o2, fun x hx => by simp at hx, List.nodup_nil, Nat.le_refl _, fun z => z⟩ (fun _ _ _ hh => by obtain ⟨_, _, _, _, _, _, o, _⟩ := hh; simp [o.atL 0 rfl]) ?_ ?_
  · rintro k d ρ h' hd ⟨c, o3, o4, xs, rfl, hc, o, hnm, hnd, hl, hp⟩
    rw [List.getElem?_map, Option.map_eq_some_iff] at hd
    obtain ⟨z, ez, rfl⟩ := hd
    have hk := (List.getElem?_eq_some_iff.mp ez).1
    have hz := hzs z (List.mem_of_getElem? ez)
    refine ⟨_, rfl, ?_⟩
    dsimp only [List.set]
    walk_at "go"
    refine (cc_name2Q (CellQ.small hz.1 (by omega))).mono ?_
    rintro d h3 ⟨p3, x, rfl, hx⟩
    have o3 := o.ext p3
    walk_at "go"
    refine w_pow (n := 18) (by decide) ?_
    walk_at "go"
    refine br_mid (fun ρ h' => Own h h' [(jn, zs.map .int), (iL, xs.map .str)] ∧ ∃ (c : Int) (x : Str), ρ = [some (.int c), some (.int n), some (.ref iL), some (.int z), some (.str x)] ∧ CellQ c ∧ Nm x) ?_ ?_
    · refine br_d (fun q => ?_) (fun q => ?_)
      · walk_at "go"
        refine (cc_name2Q hc).mono ?_
        rintro d h4 ⟨p4, y, rfl, hy⟩
        walk_at "go"
        refine w_pow (n := 8) (by decide) ?_
        walk_at "go"
        exact ⟨o3.ext p4, _, y, rfl, hc.div (by decide), hy⟩
      · walk_at "go"
        exact ⟨o3, c, x, rfl, hc, hx⟩
    rintro ρ h4 ⟨o4, c', x, rfl, hc', hx⟩
    walk_at "go"
    refine w_ninLs (o4.atL 1 rfl) ?_
    walk_at "go"
    by_cases hm : x ∈ xs
    · rw [decide_eq_true hm]
      walk_at "go"
      exact ⟨c', _, _, xs, rfl, hc', o4, hnm, hnd, by omega, fun _ => List.length_pos_of_mem hm⟩
    · rw [decide_eq_false hm]
      walk_at "go"
      refine o_app o4 1 rfl (by simp; omega) fun h5 o5 => ?_
      refine ⟨c', _, _, xs ++ [x], rfl, hc', ?_, mem_app hnm hx, ?_, by simp; omega, fun _ => by simp⟩
      · rw [List.map_append]; exact o5
      · rw [List.nodup_append]
        exact ⟨hnd, by simp, fun a ha b hb => by rw [List.mem_singleton.mp hb]; rintro rfl; exact hm ha⟩
  · rintro ρ h' ⟨c, o3, o4, xs, rfl, hc, o, hnm, hnd, hl, hp⟩
    rw [List.length_map] at hl hp
    walk_at "go"
    exact ⟨iL, xs, rfl, o.tail, hnm, hnd, by omega, fun z => hp (by omega)⟩
theorem cc_step {w p q n z : Int} (hp : 0 ≤ p ∧ p < n) (hq : 0 ≤ q ∧ q < n) (hz : 0 ≤ z) {h : MH} : Sat (m_step_08124 [.int w, .int p, .int q, .int n, .int z] h) (fun d h' => h' = h ∧ ∃ r, d = .int r ∧ 0 ≤ r ∧ r < n) noX := by
  walk_at "fn"
  refine br_d (fun c => ?_) (fun c => ?_)
  · walk_at "go"
    have := mod_in z (n := if n - 2 > 1 then n - 2 else 1) (by split <;> omega)
    refine ⟨rfl, _, rfl, this.1, ?_⟩
    have h2 := this.2
    split at h2 <;> omega
  walk_at "go"
  refine br_b ?_ (fun c b => ?_)
  rotate_left
  · walk_at "go"
    refine br_d (fun c2 => ?_) (fun c2 => ?_)
    · walk_at "go"
      refine ⟨rfl, _, rfl, ?_, ?_⟩ <;> (repeat' split) <;> omega
    · exact b
  walk_at "go"
  refine br_d (fun c => ?_) (fun c => ?_)
  · walk_at "go"
    have := mod_in z (n := (if q < p then q else p) + 1) (by split <;> omega)
    refine ⟨rfl, _, rfl, this.1, ?_⟩
    have h2 := this.2
    split at h2 <;> omega
  walk_at "go"
  refine br_d (fun c => ?_) (fun c => ?_)
  · walk_at "go"
    have := mod_in z (n := 2) (by decide)
    refine ⟨rfl, _, rfl, ?_, ?_⟩ <;> (repeat' split) <;> omega
  walk_at "go"
  exact ⟨rfl, _, rfl, mod_in z (by omega)⟩
end Mi

namespace Mi
open PySem L2
local macro_rules | `(tactic| walk_at "gl") => `(tactic| first
  | assumption
  | (refine Own.atL (h0 := ?_) (L := ?_) ?_ 0 ?_; rotate_left; rotate_left; assumption; rfl)
  | (refine Own.atL (h0 := ?_) (L := ?_) ?_ 1 ?_; rotate_left; rotate_left; assumption; rfl)
  | (refine Own.atL (h0 := ?_) (L := ?_) ?_ 2 ?_; rotate_left; rotate_left; assumption; rfl)
  | (refine Own.atL (h0 := ?_) (L := ?_) ?_ 3 ?_; rotate_left; rotate_left; assumption; rfl)
  | (refine Own.atL (h0 := ?_) (L := ?_) ?_ 4 ?_; rotate_left; rotate_left; assumption; rfl)
  | (refine Own.atL (h0 := ?_) (L := ?_) ?_ 5 ?_; rotate_left; rotate_left; assumption; rfl)
  | (refine Own.atL (h0 := ?_) (L := ?_) ?_ 6 ?_; rotate_left; rotate_left; assumption; rfl)
  | (refine Own.atL (h0 := ?_) (L := ?_) ?_ 7 ?_; rotate_left; rotate_left; assumption; rfl)
  | (refine Own.atL (h0 := ?_) (L := ?_) ?_ 8 ?_; rotate_left; rotate_left; assumption; rfl)
  | (refine Own.atL (h0 := ?_) (L := ?_) ?_ 9 ?_; rotate_left; rotate_left; assumption; rfl)
  | (refine Own.getL (h0 := ?_) (L := ?_) ?_ ?_; rotate_left; rotate_left; assumption; assumption))
local macro_rules | `(tactic| walk_at "il") => `(tactic| first
  | (refine Own.isL (h0 := ?_) (L := ?_) (l := ?_) ?_ 0 ?_; rotate_left; rotate_left; rotate_left; assumption; rfl)
  | (refine Own.isL (h0 := ?_) (L := ?_) (l := ?_) ?_ 1 ?_; rotate_left; rotate_left; rotate_left; assumption; rfl)
  | (refine Own.isL (h0 := ?_) (L := ?_) (l := ?_) ?_ 2 ?_; rotate_left; rotate_left; rotate_left; assumption; rfl)
  | (refine Own.isL (h0 := ?_) (L := ?_) (l := ?_) ?_ 3 ?_; rotate_left; rotate_left; rotate_left; assumption; rfl)
  | (refine Own.isL (h0 := ?_) (L := ?_) (l := ?_) ?_ 4 ?_; rotate_left; rotate_left; rotate_left; assumption; rfl)
  | (refine Own.isL (h0 := ?_) (L := ?_) (l := ?_) ?_ 5 ?_; rotate_left; rotate_left; rotate_left; assumption; rfl)
  | (refine Own.isL (h0 := ?_) (L := ?_) (l := ?_) ?_ 6 ?_; rotate_left; rotate_left; rotate_left; assumption; rfl)
  | (refine Own.isL (h0 := ?_) (L := ?_) (l := ?_) ?_ 7 ?_; rotate_left; rotate_left; rotate_left; assumption; rfl)
  | (refine Own.isL (h0 := ?_) (L := ?_) (l := ?_) ?_ 8 ?_; rotate_left; rotate_left; rotate_left; assumption; rfl)
  | (refine Own.isL (h0 := ?_) (L := ?_) (l := ?_) ?_ 9 ?_; rotate_left; rotate_left; rotate_left; assumption; rfl))
local macro_rules | `(tactic| walk_at "bd") => `(tactic| first | assumption | omega | (simp; done) | (simp; omega) | (simp [*]; done) | (simp [*]; omega))
local macro_rules | `(tactic| walk_at "w") => `(tactic| first
  | with_reducible refine w_seq ?_
  | with_reducible refine w_asg ?_
  | with_reducible refine w_cons ?_
  | with_reducible refine w_nil ?_
  | with_reducible refine w_c ?_
  | ((with_reducible refine w_var (d := ?_) ?_ ?_); rotate_left; rfl)
  | with_reducible refine w_bin ?_
  | with_reducible refine w_call ?_
  | with_reducible refine w_if ?_
  | with_reducible refine w_B ?_
  | with_reducible refine w_unB ?_
  | with_reducible refine w_ret ?_
  | with_reducible refine w_drop ?_
  | with_reducible refine w_skip ?_
  | with_reducible refine w_eq (dAdd_int _ _ _) ?_
  | with_reducible refine w_eq (dSub_int _ _ _) ?_
  | with_reducible refine w_eq (dEq_int _ _ _) ?_
  | with_reducible refine w_eq (dEq_str _ _ _) ?_
  | with_reducible refine w_eq (dNe_strs _ _ _) ?_
  | with_reducible refine w_eq (dEq_bls _ _ _) ?_
  | with_reducible refine w_eq (dNe_bls _ _ _) ?_
  | with_reducible refine w_eq (dLt_int _ _ _) ?_
  | with_reducible refine w_eq (dLe_int _ _ _) ?_
  | with_reducible refine w_eq (dGt_int _ _ _) ?_
  | with_reducible refine w_eq (dGe_int _ _ _) ?_
  | with_reducible refine w_eq (dNe_int _ _ _) ?_
  | ((with_reducible refine w_mod ?_ ?_); (first | assumption | decide | omega))
  | ((with_reducible refine w_fdiv ?_ ?_); (first | assumption | decide | omega))
  | ((with_reducible refine w_mulS ?_ ?_); (first | decide | omega))
  | ((with_reducible refine w_addS ?_ ?_); (first | assumption | decide | omega))
  | ((with_reducible refine w_lenS ?_ ?_); (first | assumption | decide | omega))
  | ((with_reducible refine w_slS ?_ ?_); (first | assumption | decide | omega))
  | with_reducible refine w_lenTm ?_
  | with_reducible refine w_eq (dLen_tup _ _) ?_
  | with_reducible refine w_eq (dSl_tup _ _ _ _) ?_
  | with_reducible refine w_eq (dMax_ev _ _ _) ?_
  | with_reducible refine w_eq (dMin_ev _ _ _) ?_
  | with_reducible refine w_eq (dAbs_ev _ _) ?_
  | with_reducible refine w_not ?_
  | with_reducible refine w_and ?_
  | with_reducible refine w_or ?_
  | with_reducible refine br_n ?_
  | with_reducible refine br_tt ?_
  | with_reducible refine br_ff ?_
  | ((with_reducible refine br_dt ?_ ?_); (first | assumption | omega | rfl))
  | ((with_reducible refine br_df ?_ ?_); (first | assumption | omega))
  | with_reducible refine w_tup ?_
  | ((with_reducible refine w_toTup ?_ ?_); exact (by simp))
  | with_reducible refine w_lst ?_
  | with_reducible refine w_lc ?_
  | with_reducible refine w_for ?_
  | with_reducible refine w_range1 ?_
  | with_reducible refine w_range2 ?_
  | ((with_reducible refine w_dR1 ?_ ?_); (first | decide | omega))
  | ((with_reducible refine w_dR2 ?_ ?_); (first | decide | omega))
  | with_reducible refine w_iter ?_
  | with_reducible refine w_eq (iter1_tup _ _) ?_
  | with_reducible refine w_eq (iter1_str _ _) ?_
  | with_reducible refine w_sl ?_
  | with_reducible refine w_no ?_
  | with_reducible refine w_some ?_
  | with_reducible refine w_unI ?_
  | with_reducible refine w_meth ?_
  | with_reducible refine w_isi ?_
  | with_reducible refine w_zip ?_
  | with_reducible refine w_ifE ?_
  | with_reducible refine w_andV ?_
  | with_reducible refine w_orV ?_
  | with_reducible refine w_notV ?_
  | with_reducible refine w_andK ?_
  | with_reducible refine w_orK ?_
  | with_reducible refine w_notK ?_
  | with_reducible refine w_revL ?_
  | with_reducible refine w_listRg1 ?_
  | with_reducible refine w_tindex ?_
  | with_reducible refine w_setIx ?_
  | with_reducible refine w_un ?_
  | with_reducible refine w_rev1 ?_
  | with_reducible refine w_rev2 ?_
  | with_reducible refine w_chain ?_
  | with_reducible refine w_chK ?_
  | with_reducible refine w_retN ?_
  | with_reducible refine w_brk ?_
  | with_reducible refine w_cont ?_
  | with_reducible refine w_asgT ?_
  | with_reducible refine w_eq (isi_str_str _ _) ?_
  | with_reducible refine w_eq (isi_int_int _ _) ?_
  | with_reducible refine w_eq (isi_tup_tup _ _) ?_
  | with_reducible refine w_eq (isi_bool_int _ _) ?_
  | with_reducible refine w_eq (isi_str_int _ _) ?_
  | ((with_reducible refine w_lenLm (α := ?_) (f := ?_) (l := ?_) ?_ ?_); rotate_left; rotate_left; rotate_left; walk_at "gl")
  | ((with_reducible refine w_lenL (l := ?_) ?_ ?_); rotate_left; walk_at "gl")
  | ((with_reducible refine w_iterL (l := ?_) ?_ ?_); rotate_left; walk_at "gl"; dsimp only)
  | ((with_reducible refine w_tupL (l := ?_) ?_ ?_); rotate_left; walk_at "gl")
  | ((with_reducible refine w_ixT (d := ?_) ?_ ?_); rotate_left; (first | with_reducible assumption | rfl))
  | ((with_reducible refine w_ixL (l := ?_) (d := ?_) ?_ ?_ ?_); rotate_left; rotate_left; walk_at "gl"; (first | with_reducible assumption | rfl))
  | ((with_reducible refine w_addT ?_ ?_); walk_at "bd")
  | ((with_reducible refine ⟨?_, ?_⟩); (with_reducible (show isListD (.ref _) _ = true)); walk_at "il")
  | with_reducible refine w_tryK ?_
  | with_reducible refine w_raise ?_
  | with_reducible refine w_raise0 ?_
  | with_reducible refine w_isX ?_
  | ((with_reducible refine w_isXK (k := ?_) ?_ ?_); rotate_left; (first | with_reducible exact lkA | (apply lkB; decide +kernel; exact lkA) | (apply lkB; decide +kernel; apply lkB; decide +kernel; exact lkA) | (apply lkB; decide +kernel; apply lkB; decide +kernel; apply lkB; decide +kernel; exact lkA)))
  | with_reducible refine w_xf ?_
  | ((with_reducible refine w_xfK ?_ ?_ ?_); (exact List.mem_cons_self); (decide))
  | with_reducible refine w_eq (isN_xo _) ?_
  | with_reducible refine w_eq (dNeg_int _ _) ?_)
local macro_rules | `(tactic| walk_at "go") => `(tactic| (repeat (walk_at "w")); try dsimp only [List.set])
local macro_rules | `(tactic| walk_at "fn") => `(tactic| ((refine w_fun ?_); simp only [startD, List.map_cons, List.map_nil, List.reduceReplicate, Nat.reduceSub, List.cons_append, List.nil_append]; walk_at "go"))
def gmD (fs ns : List Str) (st : List Int) (sp : List (List Int)) (mk : List Int) : D := .tup [.tup (fs.map .str), .tup (ns.map .str), .tup (st.map .int), .tup (sp.map fun r => .tup (r.map .int)), .tup (mk.map .int)]
structure GOk (m : Nat) (fs ns : List Str) (st : List Int) (sp : List (List Int)) (mk : List Int) : Prop where
  n1 : 1 ≤ sp.length
  nm : sp.length ≤ m
  row : ∀ r ∈ sp, r.length = sp.length ∧ ∀ z ∈ r, 0 ≤ z ∧ z < (sp.length : Int)
  stl : st.length = ns.length + 1
  stv : ∀ z ∈ st, 0 ≤ z ∧ z < (sp.length : Int)
  mkl : mk.length = sp.length
  mkv : ∀ z ∈ mk, 0 ≤ z ∧ z < 2 ^ fs.length
theorem cutTi {l : List D} {z : Int} (h : 0 ≤ z) : cutD l none (some z) = l.take z.toNat := by
  obtain ⟨k, rfl⟩ := Int.eq_ofNat_of_zero_le h
  rw [Int.toNat_natCast]
  unfold cutD
  rw [HT.sIx_none, HT.sIx_nat, List.drop_zero, Nat.sub_zero]
  rcases Nat.lt_or_ge k l.length with z | z
  · rw [Nat.min_eq_left (Nat.le_of_lt z)]
  · rw [Nat.min_eq_right z, List.take_length, List.take_of_length_le z]
theorem cutDi {l : List D} {z : Int} (h : 0 ≤ z) : cutD l (some z) none = l.drop z.toNat := by
  obtain ⟨k, rfl⟩ := Int.eq_ofNat_of_zero_le h
  rw [Int.toNat_natCast]
  unfold cutD
  rw [HT.sIx_none, HT.sIx_nat]
  rcases Nat.lt_or_ge k l.length with z | z
  · rw [Nat.min_eq_left (Nat.le_of_lt z), List.take_of_length_le (by simp)]
  · rw [Nat.min_eq_right z, List.drop_of_length_le z, List.drop_length, List.take_nil]
theorem cc_machine {zs : List Int} (hb : ∀ z ∈ zs, Cell z) {h : MH} {i jf jn : Nat} (hl : getL h i = some (zs.map D.int)) {s m : Int} (hs : 0 ≤ s) (hm : 0 < m ∧ m ≤ 20) {fs ns : List Str} (hf : getL h jf = some (fs.map .str)) (hn : getL h jn = some (ns.map .str)) (hfl : fs.length ≤ 60) (hnl : ns.length ≤ 60) :
    Sat (m_machine_128e4 [.ref i, .int s, .ref jf, .ref jn, .int m] h) (fun d h' => h <+: h' ∧ ∃ st sp mk, d = gmD fs ns st sp mk ∧ GOk m.toNat fs ns st sp mk) noX := by
  walk_at "fn"
  refine (cc_at hb hl hs).mono ?_
  rintro d h1 ⟨rfl, c, rfl, hc⟩
  have hmm := mod_in c (n := m) hm.1
  have hway := mod_in (c / m) (n := 5) (by decide)
  walk_at "go"
  generalize hn0 : 1 + c % m = n at *
  generalize c / m % 5 = way at *
  have hn1 : 1 ≤ n ∧ n ≤ m := by omega
  have hnn : n * n ≤ 400 := by
    have := Int.mul_le_mul (a := n) (b := n) (c := 20) (d := 20) (by omega) (by omega) (by omega) (by omega)
    omega
  have hnn0 : 0 ≤ n * n := Int.mul_nonneg (by omega) (by omega)
  walk_at "go"
  refine (cc_numbers (hc.div (by omega)) (by omega)).mono ?_
  rintro d h2 ⟨jb, bl, rfl, o2, hbl, hbs⟩
  walk_at "go"
  refine o_comp (fun _ y => ∃ z, y = .int z ∧ 0 ≤ z) o2 (by rw [rangeD_length]; omega) (fun _ _ => rfl) ?_ ?_
  · intro k d h' hd hp
    obtain ⟨hk, rfl⟩ := rangeD_get hd
    refine ⟨_, rfl, ?_⟩
    dsimp only [wipeD, List.set]
    rw [Int.toNat_natCast] at hk
    obtain ⟨b, eb, eb'⟩ := map_at (f := D.int) (l := bl) (k := 0 + (k : Int)) (by omega) (by omega)
    have hb0 := hbs b (List.mem_of_getElem? eb')
    have g1 := pre_getL hp (o2.atL 0 rfl)
    have g2 := pre_getL hp (pre_getL o2.pre hl)
    walk_at "go"
    refine (cc_at hb g2 (by omega)).mono ?_
    rintro d h3 ⟨rfl, c3, rfl, hc3⟩
    walk_at "go"
    exact ⟨rfl, _, rfl, by have := hc3.2; omega⟩
  intro ys hy hys jd h3 o3
  obtain ⟨dr, rfl, hdr⟩ := ints_all hys
  rw [List.length_map, rangeD_length, Int.toNat_natCast] at hy
  walk_at "go"
  refine o_new o3 (by simp) fun js h4 o4 => ?_
  walk_at "go"
  refine w_loop0 (fun k ρ h' => ∃ (o11 : Option D) (sp : List (List Int)), ρ = [some (.ref i), some (.int s), some (.ref jf), some (.ref jn), some (.int m), some (.int c), some (.int n), some (.int way), some (.ref jb), some (.ref jd), some (.ref js), o11, none, none, none, none, none, none, none] ∧ Own h1 h' [(js, sp.map fun r => D.tup (r.map .int)), (jd, dr.map .int), (jb, bl.map .int)] ∧ sp.length = k ∧ ∀ r ∈ sp, (r.length : Int) = n ∧ ∀ z ∈ r, 0 ≤ z ∧ z < n) ⟨none, [], rfl, o4, rfl, fun r hr => by simp at hr⟩ (fun _ _ _ _ => rfl) ?_ ?_
  · rintro k d ρ h' hd ⟨o11, sp, rfl, o, hk, hsp⟩
    obtain ⟨hkn, rfl⟩ := rangeD_get hd
    refine ⟨_, rfl, ?_⟩
    dsimp only [List.set]
    walk_at "go"
    refine o_comp (fun _ y => ∃ z, y = .int z ∧ (0 ≤ z ∧ z < n)) o (by rw [rangeD_length]; omega) (fun _ _ => rfl) ?_ ?_
    · intro q d h5 hd hp
      obtain ⟨hq, rfl⟩ := rangeD_get hd
      refine ⟨_, rfl, ?_⟩
      dsimp only [wipeD, List.set]
      have hle : ((k : Int) + 1) * n ≤ n * n := Int.mul_le_mul_of_nonneg_right (by omega) (by omega)
      have hle2 : 0 ≤ (k : Int) * n := Int.mul_nonneg (by omega) (by omega)
      rw [Int.add_mul, Int.one_mul] at hle
      obtain ⟨b, eb, eb'⟩ := map_at (f := D.int) (l := dr) (k := (0 + (k : Int)) * n + (0 + (q : Int))) (by rw [Int.zero_add]; omega) (by rw [Int.zero_add]; omega)
      have hb0 := hdr b (List.mem_of_getElem? eb')
      have g1 := pre_getL hp (o.atL 1 rfl)
      walk_at "go"
      refine (cc_step (by omega) (by omega) hb0).mono ?_
      rintro d h6 ⟨rfl, r, rfl, hr⟩
      exact ⟨rfl, r, rfl, hr⟩
    intro ys hy hys jr h5 o5
    obtain ⟨r, rfl, hr⟩ := ints_all hys
    rw [List.length_map, rangeD_length] at hy
    walk_at "go"
    refine o_app o5.tail 0 rfl (by simp; omega) fun h6 o6 => ?_
    refine ⟨_, sp ++ [r], rfl, ?_, by simp [hk], mem_app hsp ⟨by omega, hr⟩⟩
    rw [List.map_append]
    exact o6
  rintro ρ h5 ⟨o11, sp, rfl, o5, hsl, hsp⟩
  rw [rangeD_length] at hsl
  walk_at "go"
  refine o_sl o5 (o5.atL 1 rfl) fun jc h6 o6 => ?_
  rw [cutDi (by omega)] at o6
  obtain ⟨rs, hrs⟩ : ∃ rs, rs = dr.drop (n * n).toNat := ⟨_, rfl⟩
  rw [← List.map_drop, ← hrs] at o6
  have hrl : (rs.length : Int) = n + (ns.length : Int) + 1 := by rw [hrs, List.length_drop]; omega
  walk_at "go"
  refine o_sl o6 (o6.atL 0 rfl) fun jt h7 o7 => ?_
  rw [cutTi (by omega), ← List.map_take] at o7
  walk_at "go"
  refine o_comp (fun _ y => ∃ z, y = .int z ∧ (0 ≤ z ∧ z < 2 ^ fs.length)) o7 (by rw [List.length_map, List.length_take]; omega) (fun h' hp => by simp [pre_getL hp (o7.atL 0 rfl)]) ?_ ?_
  · intro q d h8 hd hp
    rw [List.getElem?_map, Option.map_eq_some_iff] at hd
    obtain ⟨z, ez, rfl⟩ := hd
    refine ⟨_, rfl, ?_⟩
    dsimp only [wipeD, List.set]
    have g1 := pre_getL hp (pre_getL o7.pre hf)
    walk_at "go"
    refine w_shl ⟨by omega, by decide⟩ ?_
    rw [Int.one_mul]
    have h2p : (0 : Int) < 2 ^ fs.length := Int.pow_pos (by decide)
    walk_at "go"
    exact ⟨rfl, _, rfl, mod_in _ h2p⟩
  intro ys hyl hys2 jm h8 o8
  obtain ⟨mk, rfl, hmk⟩ := ints_all hys2
  rw [List.length_map, List.length_map, List.length_take] at hyl
  walk_at "go"
  refine o_new o8 (by simp) fun jl h9 o9 => ?_
  walk_at "go"
  obtain ⟨low, elow, hlow⟩ : ∃ low : Int, atI [D.int n, .int (if n - 2 > 1 then n - 2 else 1), .int 1, .int (if n / 2 > 1 then n / 2 else 1), .int n] way = some (.int low) ∧ 1 ≤ low ∧ low ≤ n := by
    have : way = 0 ∨ way = 1 ∨ way = 2 ∨ way = 3 ∨ way = 4 := by omega
    rcases this with rfl | rfl | rfl | rfl | rfl
    · exact ⟨_, rfl, by omega, by omega⟩
    · exact ⟨_, rfl, by split <;> omega, by split <;> omega⟩
    · exact ⟨_, rfl, by omega, by omega⟩
    · exact ⟨_, rfl, by split <;> omega, by split <;> omega⟩
    · exact ⟨_, rfl, by omega, by omega⟩
  refine w_ixL (o9.atL 0 rfl) elow ?_
  walk_at "go"
  refine o_sl o9 (o9.atL 3 rfl) fun ju h10 o10 => ?_
  rw [cutDi (by omega), ← List.map_drop] at o10
  walk_at "go"
  refine o_comp (fun _ y => ∃ z, y = .int z ∧ (0 ≤ z ∧ z < low)) o10 (by rw [List.length_map, List.length_drop]; omega) (fun h' hp => by simp [pre_getL hp (o10.atL 0 rfl)]) ?_ ?_
  · intro q d h8 hd hp
    rw [List.getElem?_map, Option.map_eq_some_iff] at hd
    obtain ⟨z, ez, rfl⟩ := hd
    refine ⟨_, rfl, ?_⟩
    dsimp only [wipeD, List.set]
    walk_at "go"
    exact ⟨rfl, _, rfl, mod_in _ (by omega)⟩
  intro ys hyl2 hys3 jv h11 o11'
  obtain ⟨st, rfl, hst⟩ := ints_all hys3
  rw [List.length_map, List.length_map, List.length_drop] at hyl2
  have gf := pre_getL o11'.pre hf
  have gn := pre_getL o11'.pre hn
  walk_at "go"
  have hsn : (sp.length : Int) = n := by omega
  refine ⟨o11'.pre, st, sp, mk, rfl, by omega, by omega, fun r hr => ?_, by omega, fun z hz => ?_, by omega, hmk⟩
  · obtain ⟨a, b⟩ := hsp r hr
    rw [hsn]
    exact ⟨by omega, b⟩
  · have := hst z hz
    omega
end Mi

namespace Mi
open PySem L2
local macro_rules | `(tactic| walk_at "gl") => `(tactic| first
  | assumption
  | (refine Own.atL (h0 := ?_) (L := ?_) ?_ 0 ?_; rotate_left; rotate_left; assumption; rfl)
  | (refine Own.atL (h0 := ?_) (L := ?_) ?_ 1 ?_; rotate_left; rotate_left; assumption; rfl)
  | (refine Own.atL (h0 := ?_) (L := ?_) ?_ 2 ?_; rotate_left; rotate_left; assumption; rfl)
  | (refine Own.atL (h0 := ?_) (L := ?_) ?_ 3 ?_; rotate_left; rotate_left; assumption; rfl)
  | (refine Own.atL (h0 := ?_) (L := ?_) ?_ 4 ?_; rotate_left; rotate_left; assumption; rfl)
  | (refine Own.atL (h0 := ?_) (L := ?_) ?_ 5 ?_; rotate_left; rotate_left; assumption; rfl)
  | (refine Own.atL (h0 := ?_) (L := ?_) ?_ 6 ?_; rotate_left; rotate_left; assumption; rfl)
  | (refine Own.atL (h0 := ?_) (L := ?_) ?_ 7 ?_; rotate_left; rotate_left; assumption; rfl)
  | (refine Own.atL (h0 := ?_) (L := ?_) ?_ 8 ?_; rotate_left; rotate_left; assumption; rfl)
  | (refine Own.atL (h0 := ?_) (L := ?_) ?_ 9 ?_; rotate_left; rotate_left; assumption; rfl)
  | (refine Own.getL (h0 := ?_) (L := ?_) ?_ ?_; rotate_left; rotate_left; assumption; assumption))
local macro_rules | `(tactic| walk_at "il") => `(tactic| first
  | (refine Own.isL (h0 := ?_) (L := ?_) (l := ?_) ?_ 0 ?_; rotate_left; rotate_left; rotate_left; assumption; rfl)
  | (refine Own.isL (h0 := ?_) (L := ?_) (l := ?_) ?_ 1 ?_; rotate_left; rotate_left; rotate_left; assumption; rfl)
  | (refine Own.isL (h0 := ?_) (L := ?_) (l := ?_) ?_ 2 ?_; rotate_left; rotate_left; rotate_left; assumption; rfl)
  | (refine Own.isL (h0 := ?_) (L := ?_) (l := ?_) ?_ 3 ?_; rotate_left; rotate_left; rotate_left; assumption; rfl)
  | (refine Own.isL (h0 := ?_) (L := ?_) (l := ?_) ?_ 4 ?_; rotate_left; rotate_left; rotate_left; assumption; rfl)
  | (refine Own.isL (h0 := ?_) (L := ?_) (l := ?_) ?_ 5 ?_; rotate_left; rotate_left; rotate_left; assumption; rfl)
  | (refine Own.isL (h0 := ?_) (L := ?_) (l := ?_) ?_ 6 ?_; rotate_left; rotate_left; rotate_left; assumption; rfl)
  | (refine Own.isL (h0 := ?_) (L := ?_) (l := ?_) ?_ 7 ?_; rotate_left; rotate_left; rotate_left; assumption; rfl)
  | (refine Own.isL (h0 := ?_) (L := ?_) (l := ?_) ?_ 8 ?_; rotate_left; rotate_left; rotate_left; assumption; rfl)
  | (refine Own.isL (h0 := ?_) (L := ?_) (l := ?_) ?_ 9 ?_; rotate_left; rotate_left; rotate_left; assumption; rfl))
local macro_rules | `(tactic| walk_at "bd") => `(tactic| first | assumption | omega | (simp; done) | (simp; omega) | (simp [*]; done) | (simp [*]; omega))
local macro_rules | `(tactic| walk_at "w") => `(tactic| first
  | with_reducible refine w_seq ?_
  | with_reducible refine w_asg ?_
  | with_reducible refine w_cons ?_
  | with_reducible refine w_nil ?_
  | with_reducible refine w_c ?_
  | ((with_reducible refine w_var (d := ?_) ?_ ?_); rotate_left; rfl)
  | with_reducible refine w_bin ?_
  | with_reducible refine w_call ?_
  | with_reducible refine w_if ?_
  | with_reducible refine w_B ?_
  | with_reducible refine w_unB ?_
  | with_reducible refine w_ret ?_
  | with_reducible refine w_drop ?_
  | with_reducible refine w_skip ?_
  | with_reducible refine w_eq (dAdd_int _ _ _) ?_
  | with_reducible refine w_eq (dSub_int _ _ _) ?_
  | with_reducible refine w_eq (dEq_int _ _ _) ?_
  | with_reducible refine w_eq (dEq_str _ _ _) ?_
  | with_reducible refine w_eq (dNe_strs _ _ _) ?_
  | with_reducible refine w_eq (dEq_bls _ _ _) ?_
  | with_reducible refine w_eq (dNe_bls _ _ _) ?_
  | with_reducible refine w_eq (dLt_int _ _ _) ?_
  | with_reducible refine w_eq (dLe_int _ _ _) ?_
  | with_reducible refine w_eq (dGt_int _ _ _) ?_
  | with_reducible refine w_eq (dGe_int _ _ _) ?_
  | with_reducible refine w_eq (dNe_int _ _ _) ?_
  | ((with_reducible refine w_mod ?_ ?_); (first | assumption | decide | omega))
  | ((with_reducible refine w_fdiv ?_ ?_); (first | assumption | decide | omega))
  | ((with_reducible refine w_mulS ?_ ?_); (first | decide | omega))
  | ((with_reducible refine w_addS ?_ ?_); (first | assumption | decide | omega))
  | ((with_reducible refine w_lenS ?_ ?_); (first | assumption | decide | omega))
  | ((with_reducible refine w_slS ?_ ?_); (first | assumption | decide | omega))
  | with_reducible refine w_lenTm ?_
  | with_reducible refine w_eq (dLen_tup _ _) ?_
  | with_reducible refine w_eq (dSl_tup _ _ _ _) ?_
  | with_reducible refine w_eq (dMax_ev _ _ _) ?_
  | with_reducible refine w_eq (dMin_ev _ _ _) ?_
  | with_reducible refine w_eq (dAbs_ev _ _) ?_
  | with_reducible refine w_not ?_
  | with_reducible refine w_and ?_
  | with_reducible refine w_or ?_
  | with_reducible refine br_n ?_
  | with_reducible refine br_tt ?_
  | with_reducible refine br_ff ?_
  | ((with_reducible refine br_dt ?_ ?_); (first | assumption | omega | rfl))
  | ((with_reducible refine br_df ?_ ?_); (first | assumption | omega))
  | with_reducible refine w_tup ?_
  | ((with_reducible refine w_toTup ?_ ?_); exact (by simp))
  | with_reducible refine w_lst ?_
  | with_reducible refine w_lc ?_
  | with_reducible refine w_for ?_
  | with_reducible refine w_range1 ?_
  | with_reducible refine w_range2 ?_
  | ((with_reducible refine w_dR1 ?_ ?_); (first | decide | omega))
  | ((with_reducible refine w_dR2 ?_ ?_); (first | decide | omega))
  | with_reducible refine w_iter ?_
  | with_reducible refine w_eq (iter1_tup _ _) ?_
  | with_reducible refine w_eq (iter1_str _ _) ?_
  | with_reducible refine w_sl ?_
  | with_reducible refine w_no ?_
  | with_reducible refine w_some ?_
  | with_reducible refine w_unI ?_
  | with_reducible refine w_meth ?_
  | with_reducible refine w_isi ?_
  | with_reducible refine w_zip ?_
  | with_reducible refine w_ifE ?_
  | with_reducible refine w_andV ?_
  | with_reducible refine w_orV ?_
  | with_reducible refine w_notV ?_
  | with_reducible refine w_andK ?_
  | with_reducible refine w_orK ?_
  | with_reducible refine w_notK ?_
  | with_reducible refine w_revL ?_
  | with_reducible refine w_listRg1 ?_
  | with_reducible refine w_tindex ?_
  | with_reducible refine w_setIx ?_
  | with_reducible refine w_un ?_
  | with_reducible refine w_rev1 ?_
  | with_reducible refine w_rev2 ?_
  | with_reducible refine w_chain ?_
  | with_reducible refine w_chK ?_
  | with_reducible refine w_retN ?_
  | with_reducible refine w_brk ?_
  | with_reducible refine w_cont ?_
  | with_reducible refine w_asgT ?_
  | with_reducible refine w_eq (isi_str_str _ _) ?_
  | with_reducible refine w_eq (isi_int_int _ _) ?_
  | with_reducible refine w_eq (isi_tup_tup _ _) ?_
  | with_reducible refine w_eq (isi_bool_int _ _) ?_
  | with_reducible refine w_eq (isi_str_int _ _) ?_
  | ((with_reducible refine w_lenLm (α := ?_) (f := ?_) (l := ?_) ?_ ?_); rotate_left; rotate_left; rotate_left; walk_at "gl")
  | ((with_reducible refine w_lenL (l := ?_) ?_ ?_); rotate_left; walk_at "gl")
  | ((with_reducible refine w_iterL (l := ?_) ?_ ?_); rotate_left; walk_at "gl"; dsimp only)
  | ((with_reducible refine w_tupL (l := ?_) ?_ ?_); rotate_left; walk_at "gl")
  | ((with_reducible refine w_ixT (d := ?_) ?_ ?_); rotate_left; (first | with_reducible assumption | rfl))
  | ((with_reducible refine w_ixL (l := ?_) (d := ?_) ?_ ?_ ?_); rotate_left; rotate_left; walk_at "gl"; (first | with_reducible assumption | rfl))
  | ((with_reducible refine w_addT ?_ ?_); walk_at "bd")
  | ((with_reducible refine ⟨?_, ?_⟩); (with_reducible (show isListD (.ref _) _ = true)); walk_at "il")
  | with_reducible refine w_tryK ?_
  | with_reducible refine w_raise ?_
  | with_reducible refine w_raise0 ?_
  | with_reducible refine w_isX ?_
  | ((with_reducible refine w_isXK (k := ?_) ?_ ?_); rotate_left; (first | with_reducible exact lkA | (apply lkB; decide +kernel; exact lkA) | (apply lkB; decide +kernel; apply lkB; decide +kernel; exact lkA) | (apply lkB; decide +kernel; apply lkB; decide +kernel; apply lkB; decide +kernel; exact lkA)))
  | with_reducible refine w_xf ?_
  | ((with_reducible refine w_xfK ?_ ?_ ?_); (exact List.mem_cons_self); (decide))
  | with_reducible refine w_eq (isN_xo _) ?_
  | with_reducible refine w_eq (dNeg_int _ _) ?_)
local macro_rules | `(tactic| walk_at "go") => `(tactic| (repeat (walk_at "w")); try dsimp only [List.set])
local macro_rules | `(tactic| walk_at "fn") => `(tactic| ((refine w_fun ?_); simp only [startD, List.map_cons, List.map_nil, List.reduceReplicate, Nat.reduceSub, List.cons_append, List.nil_append]; walk_at "go"))
local macro_rules | `(tactic| walk_at "lk") => `(tactic| first | with_reducible exact lkA | (apply lkB; decide +kernel; walk_at "lk"))
local macro_rules | `(tactic| walk_at "mk") => `(tactic| first | with_reducible exact mkA | (apply mkB; decide +kernel; walk_at "mk"))
local macro_rules | `(tactic| walk_at "fk") => `(tactic| first | with_reducible exact fkA | exact fkN | (apply fkB; decide +kernel; walk_at "fk"))
local macro_rules | `(tactic| walk_at "cs") => `(tactic| first | exact List.mem_cons_self | (apply List.mem_cons_of_mem; walk_at "cs"))
local macro_rules | `(tactic| walk_at "w") => `(tactic| first
  | with_reducible refine w_fld ?_
  | ((with_reducible refine w_fldK (c := ?_) (fs := ?_) (v := ?_) ?_ ?_ ?_ ?_); rotate_left; rotate_left; rotate_left; (with_reducible assumption); (walk_at "cs"); (walk_at "fk"))
  | with_reducible refine w_setFld ?_
  | with_reducible refine w_new ?_
  | with_reducible refine w_methI ?_
  | ((with_reducible refine w_methK (c := ?_) (fs := ?_) (F := ?_) ?_ ?_ ?_ ?_); rotate_left; rotate_left; rotate_left; (with_reducible assumption); (walk_at "mk"); (walk_at "fk"))
  | with_reducible refine w_isC ?_
  | ((with_reducible refine w_isCK (c := ?_) (fs := ?_) (k := ?_) ?_ ?_ ?_); rotate_left; rotate_left; rotate_left; (with_reducible assumption); (walk_at "lk"))
  | with_reducible refine w_callD ?_
  | with_reducible refine w_mDSet ?_
  | with_reducible refine w_eq (nN_non _) ?_
  | with_reducible refine w_eq (nN_int _ _) ?_
  | with_reducible refine w_eq (nN_tup _ _) ?_
  | with_reducible refine w_eq (nN_ref _ _) ?_
  | with_reducible refine w_eq (iN_non _) ?_
  | with_reducible refine w_eq (iN_int _ _) ?_
  | with_reducible refine w_eq (iN_tup _ _) ?_
  | with_reducible refine w_eq (iN_ref _ _) ?_)
/-! ### documents drawn -/
mutual
def Doc.szk : Doc → Nat
  | .mk _ l => 1 + Doc.szks l
def Doc.szks : List Doc → Nat
  | [] => 0
  | d :: l => d.szk + Doc.szks l
end
mutual
def Doc.good : Doc → Prop
  | .mk x l => Nm x ∧ Doc.goods l
def Doc.goods : List Doc → Prop
  | [] => True
  | d :: l => d.good ∧ Doc.goods l
end
theorem goods_iff : ∀ {l : List Doc}, Doc.goods l ↔ ∀ d ∈ l, d.good
  | [] => by simp [Doc.goods]
  | d :: l => by rw [Doc.goods, goods_iff (l := l)]; simp
theorem szks_mem {d : Doc} : ∀ {l : List Doc}, d ∈ l → d.szk ≤ Doc.szks l
  | [], h => by simp at h
  | e :: l, h => by
    rw [Doc.szks]
    rcases List.mem_cons.mp h with rfl | h
    · omega
    · have := szks_mem h; omega
theorem szk_pos (d : Doc) : 1 ≤ d.szk := by cases d; rw [Doc.szk]; omega
theorem szks_len : ∀ l : List Doc, l.length ≤ Doc.szks l
  | [] => by simp
  | d :: l => by rw [Doc.szks, List.length_cons]; have := szk_pos d; have := szks_len l; omega
theorem ok_good : ∀ (n : Nat) (d : Doc), d.good → d.szk ≤ n → n ≤ 1000 → d.ok n
  | 0, d, _, h, _ => by have := szk_pos d; omega
  | n + 1, .mk x l, g, h, hn => by
    rw [Doc.szk] at h
    have := szks_len l
    refine ⟨g.1, by omega, fun k hk => ok_good n k (goods_iff.mp g.2 k hk) ?_ (by omega)⟩
    have := szks_mem hk
    omega
/-- the sizes of the first m rows -/
def rowsSz (rs : List (List Doc)) (m : Nat) : Nat := ((rs.take m).map Doc.szks).sum
theorem rowsSz_succ {rs : List (List Doc)} {m : Nat} {l : List Doc} (e : rs[m]? = some l) : rowsSz rs (m + 1) = rowsSz rs m + Doc.szks l := by
  unfold rowsSz
  rw [List.take_succ, e, List.map_append, List.sum_append]
  simp
theorem rowsSz_nil : ∀ N m : Nat, rowsSz (List.replicate N []) m = 0
  | 0, m => by simp [rowsSz]
  | N + 1, 0 => by simp [rowsSz]
  | N + 1, m + 1 => by
    have := rowsSz_nil N m
    unfold rowsSz at this ⊢
    rw [List.replicate_succ, List.take_succ_cons, List.map_cons, List.sum_cons, this, Doc.szks]
theorem rowsSz_set : ∀ {rs : List (List Doc)} {m u : Nat} {l : List Doc} {d : Doc}, rs[u]? = some l → u < m → rowsSz (rs.set u (d :: l)) m = rowsSz rs m + d.szk
  | [], m, u, l, d, e, _ => by simp at e
  | r :: rs, 0, u, l, d, _, h => by omega
  | r :: rs, m + 1, 0, l, d, e, _ => by
    simp at e
    subst e
    simp [rowsSz, Doc.szks]
    omega
  | r :: rs, m + 1, u + 1, l, d, e, h => by
    have ih := rowsSz_set (rs := rs) (m := m) (u := u) (l := l) (d := d) (by simpa using e) (by omega)
    unfold rowsSz at ih ⊢
    rw [List.set_cons_succ, List.take_succ_cons, List.take_succ_cons, List.map_cons, List.map_cons, List.sum_cons, List.sum_cons, ih]
    omega
theorem rowsSz_le : ∀ {rs : List (List Doc)} {m u : Nat} {l : List Doc}, rs[u]? = some l → u < m → Doc.szks l ≤ rowsSz rs m
  | [], m, u, l, e, _ => by simp at e
  | r :: rs, 0, u, l, _, h => by omega
  | r :: rs, m + 1, 0, l, e, _ => by
    simp at e
    subst e
    simp [rowsSz]
  | r :: rs, m + 1, u + 1, l, e, h => by
    have ih := rowsSz_le (rs := rs) (m := m) (u := u) (l := l) (by simpa using e) (by omega)
    unfold rowsSz at ih ⊢
    rw [List.take_succ_cons, List.map_cons, List.sum_cons]
    omega
def rowD (l : List Doc) : D := .tup (l.map Doc.toD)
theorem atP61 {l : List D} {i k : Int} (hl : ∀ d ∈ l, ∃ v : Int, d = .int v ∧ 0 < v ∧ v ≤ k) (h0 : 0 ≤ i) (h1 : i < (l.length : Int)) : ∃ v : Int, atI l i = some (.int v) ∧ 0 < v ∧ v ≤ k := by
  obtain ⟨y, a1, a2⟩ := atI_in h0 h1
  obtain ⟨v, rfl, hv⟩ := hl y (List.mem_of_getElem? a2)
  exact ⟨v, a1, hv⟩
theorem cc_doc61 {c n : Int} (hc : CellQ c) (hn : 1 ≤ n ∧ n ≤ 40) {h : MH} {iN : Nat} {nm : List Str} (hN : getL h iN = some (nm.map .str)) (hnm : ∀ x ∈ nm, Nm x) (hnl : 1 ≤ nm.length ∧ nm.length ≤ 100) :
    Sat (m_doc_3ac0d [.int c, .int n, .ref iN] h) (fun y h' => h <+: h' ∧ ∃ d : Doc, y = d.toD ∧ d.good ∧ d.szk ≤ 40) noX := by
  obtain ⟨N, rfl⟩ := Int.eq_ofNat_of_zero_le (show 0 ≤ n by omega)
  walk_at "fn"
  refine (cc_numbersQ hc (by omega)).mono ?_
  rintro y h1 ⟨iZ, zs, rfl, o1, hzl, hzs⟩
  have hN1 := pre_getL o1.pre hN
  have hzl' : zs.length = N + 1 := by omega
  walk_at "go"
  refine o_comp (fun _ y => y = .tup []) o1 (by simp; omega) (fun _ _ => rfl) ?_ ?_
  · intro k d h' hd hp
    refine ⟨(_ : Slots), by obtain ⟨hk, rfl⟩ := rangeD_get hd; rfl, ?_⟩
    walk_at "go"
    exact ⟨rfl, rfl⟩
  rintro ys hy hp iR h2 o2
  have hys : ys = (List.replicate N ([] : List Doc)).map rowD := by
    refine List.ext_getElem? fun i => ?_
    rw [List.getElem?_map, List.getElem?_replicate]
    have hyN : ys.length = N := by simpa using hy
    rcases Nat.lt_or_ge i N with z | z
    · rw [if_pos z, List.getElem?_eq_getElem (by omega), hp i ys[i] (List.getElem?_eq_getElem (by omega))]
      rfl
    · rw [if_neg (by omega), List.getElem?_eq_none (by omega)]; rfl
  subst hys
  walk_at "go"
  refine w_loop0 (fun k ρ h' => ∃ (rs : List (List Doc)) (o5 o7 : Option D) (o6 : Option D), ρ = [some (.int c), some (.int (N : Int)), some (.ref iN), some (.ref iZ), some (.ref iR), o5, o6, o7] ∧ Own h h' [(iR, rs.map rowD), (iZ, zs.map .int)] ∧ rs.length = N ∧ (∀ l ∈ rs, ∀ d ∈ l, d.good) ∧ rowsSz rs (N - k) + (N - k) ≤ N ∧ (k = N → ∃ d : Doc, o5 = some d.toD ∧ d.good ∧ d.szk ≤ 40))
    ⟨List.replicate N [], _, _, _, rfl, o2, by simp, fun l hl d hd => by rw [(List.mem_replicate.mp hl).2] at hd; simp at hd, ?_, fun z => by omega⟩ (fun _ _ _ _ => rfl) ?_ ?_
  · have := rowsSz_nil N (N - 0)
    omega
  · rintro i d ρ h' hd' ⟨rs, o5, o7, o6, rfl, o, hrl, hg, hsz, -⟩
    obtain ⟨hi, rfl⟩ := revRangeD_get hd'
    have hi2 : i < N := by simpa using hi
    obtain ⟨k, hk⟩ : ∃ k : Nat, N - i = k + 1 := ⟨N - i - 1, by omega⟩
    have ek : (0 : Int) + (((N : Int)).toNat : Int) - 1 - (i : Int) = (k : Int) := by omega
    rw [ek]
    have hkN : k < N := by omega
    have eNk : N - (i + 1) = k := by omega
    have hN' := pre_getL o.pre hN
    obtain ⟨z, az, ez⟩ := map_at (f := D.int) (l := zs) (k := (k : Int)) (by omega) (by omega)
    have hz := hzs z (List.mem_of_getElem? ez)
    have hxm := mod_in z (n := (nm.length : Int)) (by omega)
    obtain ⟨x, ax, hx⟩ : ∃ x : Str, atI (nm.map D.str) (z % (nm.length : Int)) = some (.str x) ∧ Nm x := by
      obtain ⟨y, b1, b2⟩ := atI_in (l := nm.map D.str) hxm.1 (by simpa using hxm.2)
      rw [List.getElem?_map, Option.map_eq_some_iff] at b2
      obtain ⟨x, e1, rfl⟩ := b2
      exact ⟨x, b1, hnm x (List.mem_of_getElem? e1)⟩
    have er : rs[k]? = some rs[k] := List.getElem?_eq_getElem (by omega)
    have ar : atI (rs.map rowD) (k : Int) = some (rowD rs[k]) := atI_at (by rw [List.getElem?_map, er]; rfl)
    have hgk := hg _ (List.getElem_mem (show k < rs.length by omega))
    have hst := rowsSz_succ er
    rw [hk, hst] at hsz
    generalize rs[k] = lk at er ar hgk hst hsz
    have hgd : (Doc.mk x lk).good := ⟨hx, goods_iff.mpr hgk⟩
    have hed : D.tup [.str x, rowD lk] = (Doc.mk x lk).toD := by rw [toD_mk]; rfl
    have hdz : (Doc.mk x lk).szk = 1 + Doc.szks lk := by rw [Doc.szk]
    refine ⟨_, rfl, ?_⟩
    dsimp only [List.set]
    walk_at "go"
    rw [hed]
    generalize Doc.mk x lk = made at *
    refine br_d (fun q => ?_) (fun q => ?_)
    · walk_at "go"
      obtain ⟨zN, aN, eN⟩ := map_at (f := D.int) (l := zs) (k := (N : Int)) (by omega) (by omega)
      have hm3 := mod_in zN (n := 3) (by decide)
      obtain ⟨v, av, hv⟩ := atP61 (l := [D.int (k : Int), D.int (if (2 : Int) < (k : Int) then 2 else (k : Int)), D.int (if (4 : Int) < (k : Int) then 4 else (k : Int))]) (i := zN % 3) (k := (k : Int)) (by
        intro d hd
        simp at hd
        rcases hd with rfl | rfl | rfl
        · exact ⟨_, rfl, by omega, by omega⟩
        · exact ⟨_, rfl, by split <;> omega, by split <;> omega⟩
        · exact ⟨_, rfl, by split <;> omega, by split <;> omega⟩) hm3.1 (by simpa using hm3.2)
      walk_at "go"
      refine o_new o (by simp) fun iV h3 o3 => ?_
      walk_at "go"
      have hu := mod_in (z / 64) (n := v) (by omega)
      obtain ⟨u, hu2⟩ := Int.eq_ofNat_of_zero_le (show 0 ≤ (k : Int) - 1 - z / 64 % v by omega)
      have hu3 : u < k := by omega
      have eu : rs[u]? = some rs[u] := List.getElem?_eq_getElem (by omega)
      have hgu := hg _ (List.getElem_mem (show u < rs.length by omega))
      generalize rs[u] = lu at eu hgu
      have au : atI (rs.map rowD) (u : Int) = some (.tup (lu.map Doc.toD)) := atI_at (by rw [List.getElem?_map, eu]; rfl)
      have hlu := szks_len lu
      have hlu2 := rowsSz_le eu hu3
      rw [hu2]
      walk_at "go"
      refine o_set (m := u) o3 1 rfl (by unfold ixN; simp; omega) fun h4 o4 => ?_
      have e4 : (rs.map rowD).set u (.tup ([made.toD] ++ lu.map Doc.toD)) = (rs.set u (made :: lu)).map rowD := by rw [List.map_set]; rfl
      dsimp only [List.set] at o4
      rw [e4] at o4
      refine ⟨rs.set u (made :: lu), _, _, _, rfl, o4.tail, by rw [List.length_set]; exact hrl, fun l hl d hd => ?_, ?_, fun z => by omega⟩
      · rcases List.mem_or_eq_of_mem_set hl with hl | hl
        · exact hg l hl d hd
        · rw [hl] at hd
          rcases List.mem_cons.mp hd with rfl | hd
          · exact hgd
          · exact hgu d hd
      · rw [eNk, rowsSz_set eu hu3]
        omega
    · walk_at "go"
      refine ⟨rs, _, _, _, rfl, o, hrl, hg, by rw [eNk]; omega, fun _ => ⟨made, rfl, hgd, by omega⟩⟩
  · rintro ρ h' ⟨rs, o5, o7, o6, rfl, o, hrl, hg, hsz, hd⟩
    have el : (revRangeD 0 ((N : Int)).toNat).length = N := by simp [revRangeD]
    obtain ⟨d, rfl, h1, h2⟩ := hd el
    walk_at "go"
    exact ⟨o.pre, d, rfl, h1, h2⟩
end Mi

namespace Mi
open PySem L2
local macro_rules | `(tactic| walk_at "w") => `(tactic| first
  | with_reducible refine w_seq ?_
  | with_reducible refine w_asg ?_
  | with_reducible refine w_cons ?_
  | with_reducible refine w_nil ?_
  | with_reducible refine w_c ?_
  | ((with_reducible refine w_var (d := ?_) ?_ ?_); rotate_left; rfl)
  | with_reducible refine w_bin ?_
  | with_reducible refine w_call ?_
  | with_reducible refine w_if ?_
  | with_reducible refine w_B ?_
  | with_reducible refine w_unB ?_
  | with_reducible refine w_ret ?_
  | with_reducible refine w_drop ?_
  | with_reducible refine w_skip ?_
  | with_reducible refine w_eq (dAdd_int _ _ _) ?_
  | with_reducible refine w_eq (dSub_int _ _ _) ?_
  | with_reducible refine w_eq (dEq_int _ _ _) ?_
  | with_reducible refine w_eq (dEq_str _ _ _) ?_
  | with_reducible refine w_eq (dLt_int _ _ _) ?_
  | with_reducible refine w_eq (dLe_int _ _ _) ?_
  | with_reducible refine w_eq (dGt_int _ _ _) ?_
  | with_reducible refine w_eq (dGe_int _ _ _) ?_
  | with_reducible refine w_eq (dNe_int _ _ _) ?_
  | ((with_reducible refine w_mod ?_ ?_); (first | assumption | decide | omega))
  | ((with_reducible refine w_fdiv ?_ ?_); (first | assumption | decide | omega))
  | ((with_reducible refine w_mulS ?_ ?_); (first | decide | omega))
  | ((with_reducible refine w_addS ?_ ?_); (first | assumption | decide | omega))
  | ((with_reducible refine w_lenS ?_ ?_); (first | assumption | decide | omega))
  | ((with_reducible refine w_slS ?_ ?_); (first | assumption | decide | omega))
  | with_reducible refine w_eq (dLen_tup _ _) ?_
  | with_reducible refine w_eq (dSl_tup _ _ _ _) ?_
  | with_reducible refine w_eq (dMax_ev _ _ _) ?_
  | with_reducible refine w_eq (dMin_ev _ _ _) ?_
  | with_reducible refine w_eq (dAbs_ev _ _) ?_
  | with_reducible refine w_not ?_
  | with_reducible refine w_and ?_
  | with_reducible refine w_or ?_
  | with_reducible refine br_n ?_
  | with_reducible refine br_tt ?_
  | with_reducible refine br_ff ?_
  | ((with_reducible refine br_dt ?_ ?_); (first | assumption | omega))
  | ((with_reducible refine br_df ?_ ?_); (first | assumption | omega))
  | with_reducible refine w_tup ?_
  | ((with_reducible refine w_toTup ?_ ?_); exact (by simp))
  | with_reducible refine w_lst ?_
  | with_reducible refine w_lc ?_
  | with_reducible refine w_for ?_
  | with_reducible refine w_range1 ?_
  | with_reducible refine w_range2 ?_
  | ((with_reducible refine w_dR1 ?_ ?_); (first | decide | omega))
  | ((with_reducible refine w_dR2 ?_ ?_); (first | decide | omega))
  | with_reducible refine w_iter ?_
  | with_reducible refine w_eq (iter1_tup _ _) ?_
  | with_reducible refine w_eq (iter1_str _ _) ?_
  | with_reducible refine w_sl ?_
  | with_reducible refine w_no ?_
  | with_reducible refine w_some ?_
  | with_reducible refine w_unI ?_
  | with_reducible refine w_meth ?_
  | with_reducible refine w_isi ?_
  | with_reducible refine w_zip ?_
  | with_reducible refine w_ifE ?_
  | with_reducible refine w_andV ?_
  | with_reducible refine w_orV ?_
  | with_reducible refine w_notV ?_
  | with_reducible refine w_andK ?_
  | with_reducible refine w_orK ?_
  | with_reducible refine w_notK ?_
  | with_reducible refine w_revL ?_
  | with_reducible refine w_listRg1 ?_
  | with_reducible refine w_tindex ?_
  | with_reducible refine w_setIx ?_
  | with_reducible refine w_un ?_
  | with_reducible refine w_rev1 ?_
  | with_reducible refine w_rev2 ?_
  | with_reducible refine w_chain ?_
  | with_reducible refine w_chK ?_
  | with_reducible refine w_retN ?_
  | with_reducible refine w_brk ?_
  | with_reducible refine w_cont ?_
  | with_reducible refine w_asgT ?_
  | with_reducible refine w_eq (isi_str_str _ _) ?_
  | with_reducible refine w_eq (isi_int_int _ _) ?_
  | with_reducible refine w_eq (isi_tup_tup _ _) ?_)
local macro_rules | `(tactic| walk_at "go") => `(tactic| (repeat (walk_at "w")); try dsimp only [List.set])
local macro_rules | `(tactic| walk_at "fn") => `(tactic| ((refine w_fun ?_); simp only [startD, List.map_cons, List.map_nil, List.reduceReplicate, Nat.reduceSub, List.cons_append, List.nil_append]; walk_at "go"))
structure Tab (F K : List D) : Prop where
  fs : Wds 20 F
  fl : F.length ≤ 20
  k1 : 1 ≤ K.length
  k8 : K.length ≤ 8
  ks : InL (2 ^ F.length) K
theorem Wds.get {n : Nat} {l : List D} (h : Wds n l) {d : D} (hd : d ∈ l) : ∃ x, d = .str x ∧ Wd n x := by
  obtain ⟨ns, rfl, hn⟩ := h
  obtain ⟨x, hx, rfl⟩ := List.mem_map.mp hd
  exact ⟨x, rfl, hn x hx⟩
theorem Wds.nil (n : Nat) : Wds n [] := ⟨[], rfl, fun x hx => by simp at hx⟩
def nletters : Str := Str.ofString "nopqrstuvwxyzabcdefghijklm"
/-! the marks' forms -/
def sel (v : Int) (F : List D) : Nat → List D
  | 0 => []
  | k + 1 => sel v F k ++ match F[k]? with
    | some d => if v / 2 ^ k % 2 = 1 then [d] else []
    | none => []
theorem sel_step {v : Int} {F : List D} {k : Nat} {d : D} (e : F[k]? = some d) : sel v F (k + 1) = sel v F k ++ if v / 2 ^ k % 2 = 1 then [d] else [] := by
  rw [sel, e]
theorem sel_len {v : Int} {F : List D} : ∀ k, (sel v F k).length ≤ k
  | 0 => Nat.le_refl _
  | k + 1 => by
    have := sel_len (v := v) (F := F) k
    rw [sel, List.length_append]
    split
    · split <;> simp <;> omega
    · simp; omega
theorem half {v : Int} (k : Nat) : v / 2 ^ k / 2 = v / 2 ^ (k + 1) := by
  rw [Int.pow_succ, Int.ediv_ediv_of_nonneg (Int.le_of_lt (Int.pow_pos (by decide)))]
theorem c_forms {F K : List D} (t : Tab F K) {N0 S0 T0 : D} {s : Int} {v : Int} (e : atI K s = some (.int v)) {h : MH} : Sat (m_forms_of_305ad [.tup [.tup F, N0, S0, T0, .tup K], .int s] h) (fun d h' => ∃ i, d = .ref i ∧ Own h h' [(i, sel v F F.length)]) noX := by
  walk_at "fn"
  refine o_new (Own.nil h) (by simp) fun iL h1 o1 => ?_
  walk_at "go"
  refine w_ixT (i := 4) rfl ?_
  walk_at "go"
  refine w_ixT e ?_
  walk_at "go"
  refine w_ixT (i := 0) rfl ?_
  walk_at "go"
  have hfl := t.fl
  refine w_loop0 (fun k ρ h' => ∃ o4, ρ = [some (.tup [.tup F, N0, S0, T0, .tup K]), some (.int s), some (.ref iL), some (.int (v / 2 ^ k)), o4] ∧ Own h h' [(iL, sel v F k)]) ⟨none, by simp, o1⟩ (fun _ _ _ _ => rfl) ?_ ?_
  · rintro k d ρ h' hd ⟨o4, rfl, o⟩
    refine ⟨_, rfl, ?_⟩
    have hk := (List.getElem?_eq_some_iff.mp hd).1
    have hs := sel_len (v := v) (F := F) k
    dsimp only [List.set]
    walk_at "go"
    refine br_d (fun c => ?_) (fun c => ?_)
    · walk_at "go"
      refine ⟨o.isL 0 rfl, ?_⟩
      walk_at "go"
      refine o_app o 0 rfl (by omega) fun h2 o2 => ?_
      walk_at "go"
      refine ⟨_, by rw [half], ?_⟩
      rw [sel_step hd, if_pos c]
      exact o2
    · walk_at "go"
      refine ⟨_, by rw [half], ?_⟩
      rw [sel_step hd, if_neg c, List.append_nil]
      exact o
  · rintro ρ h' ⟨o4, rfl, o⟩
    walk_at "go"
    exact ⟨_, rfl, o⟩
abbrev HP := Nat × Nat × List D
def hCells (ps : List HP) : LL := ps.flatMap fun p => [(p.1, p.2.2), (p.2.1, p.2.2)]
def hItems (ps : List HP) : List D := ps.reverse.map fun p => .tup [.ref p.1, .ref p.2.1]
end Mi

namespace Mi
open PySem L2
local macro_rules | `(tactic| walk_at "w") => `(tactic| first
  | with_reducible refine w_seq ?_
  | with_reducible refine w_asg ?_
  | with_reducible refine w_cons ?_
  | with_reducible refine w_nil ?_
  | with_reducible refine w_c ?_
  | ((with_reducible refine w_var (d := ?_) ?_ ?_); rotate_left; rfl)
  | with_reducible refine w_bin ?_
  | with_reducible refine w_call ?_
  | with_reducible refine w_if ?_
  | with_reducible refine w_B ?_
  | with_reducible refine w_unB ?_
  | with_reducible refine w_ret ?_
  | with_reducible refine w_drop ?_
  | with_reducible refine w_skip ?_
  | with_reducible refine w_eq (dAdd_int _ _ _) ?_
  | with_reducible refine w_eq (dSub_int _ _ _) ?_
  | with_reducible refine w_eq (dEq_int _ _ _) ?_
  | with_reducible refine w_eq (dEq_str _ _ _) ?_
  | with_reducible refine w_eq (dLt_int _ _ _) ?_
  | with_reducible refine w_eq (dLe_int _ _ _) ?_
  | with_reducible refine w_eq (dGt_int _ _ _) ?_
  | with_reducible refine w_eq (dGe_int _ _ _) ?_
  | with_reducible refine w_eq (dNe_int _ _ _) ?_
  | ((with_reducible refine w_mod ?_ ?_); (first | assumption | decide | omega))
  | ((with_reducible refine w_fdiv ?_ ?_); (first | assumption | decide | omega))
  | ((with_reducible refine w_mulS ?_ ?_); (first | decide | omega))
  | ((with_reducible refine w_addS ?_ ?_); (first | assumption | decide | omega))
  | ((with_reducible refine w_lenS ?_ ?_); (first | assumption | decide | omega))
  | ((with_reducible refine w_slS ?_ ?_); (first | assumption | decide | omega))
  | with_reducible refine w_eq (dLen_tup _ _) ?_
  | with_reducible refine w_eq (dSl_tup _ _ _ _) ?_
  | with_reducible refine w_eq (dMax_ev _ _ _) ?_
  | with_reducible refine w_eq (dMin_ev _ _ _) ?_
  | with_reducible refine w_eq (dAbs_ev _ _) ?_
  | with_reducible refine w_not ?_
  | with_reducible refine w_and ?_
  | with_reducible refine w_or ?_
  | with_reducible refine br_n ?_
  | with_reducible refine br_tt ?_
  | with_reducible refine br_ff ?_
  | ((with_reducible refine br_dt ?_ ?_); (first | assumption | omega))
  | ((with_reducible refine br_df ?_ ?_); (first | assumption | omega))
  | with_reducible refine w_tup ?_
  | ((with_reducible refine w_toTup ?_ ?_); exact (by simp))
  | with_reducible refine w_lst ?_
  | with_reducible refine w_lc ?_
  | with_reducible refine w_for ?_
  | with_reducible refine w_range1 ?_
  | with_reducible refine w_range2 ?_
  | ((with_reducible refine w_dR1 ?_ ?_); (first | decide | omega))
  | ((with_reducible refine w_dR2 ?_ ?_); (first | decide | omega))
  | with_reducible refine w_iter ?_
  | with_reducible refine w_eq (iter1_tup _ _) ?_
  | with_reducible refine w_eq (iter1_str _ _) ?_
  | with_reducible refine w_sl ?_
  | with_reducible refine w_no ?_
  | with_reducible refine w_some ?_
  | with_reducible refine w_unI ?_
  | with_reducible refine w_meth ?_
  | with_reducible refine w_isi ?_
  | with_reducible refine w_zip ?_
  | with_reducible refine w_ifE ?_
  | with_reducible refine w_andV ?_
  | with_reducible refine w_orV ?_
  | with_reducible refine w_notV ?_
  | with_reducible refine w_andK ?_
  | with_reducible refine w_orK ?_
  | with_reducible refine w_notK ?_
  | with_reducible refine w_revL ?_
  | with_reducible refine w_listRg1 ?_
  | with_reducible refine w_tindex ?_
  | with_reducible refine w_setIx ?_
  | with_reducible refine w_un ?_
  | with_reducible refine w_rev1 ?_
  | with_reducible refine w_rev2 ?_
  | with_reducible refine w_chain ?_
  | with_reducible refine w_chK ?_
  | with_reducible refine w_retN ?_
  | with_reducible refine w_brk ?_
  | with_reducible refine w_cont ?_
  | with_reducible refine w_asgT ?_
  | with_reducible refine w_eq (isi_str_str _ _) ?_
  | with_reducible refine w_eq (isi_int_int _ _) ?_
  | with_reducible refine w_eq (isi_tup_tup _ _) ?_
  | with_reducible refine w_eq (isi_bool_int _ _) ?_
  | with_reducible refine w_eq (isi_str_int _ _) ?_
  | with_reducible refine w_eq (dNeg_int _ _) ?_)
local macro_rules | `(tactic| walk_at "go") => `(tactic| (repeat (walk_at "w")); try dsimp only [List.set])
local macro_rules | `(tactic| walk_at "fn") => `(tactic| ((refine w_fun ?_); simp only [startD, List.map_cons, List.map_nil, List.reduceReplicate, Nat.reduceSub, List.cons_append, List.nil_append]; walk_at "go"))
theorem InL.ints {m : Int} : ∀ {l : List D}, InL m l → ∃ zs : List Int, l = zs.map .int ∧ ∀ z ∈ zs, 0 ≤ z ∧ z < m
  | [], _ => ⟨[], rfl, fun z hz => by simp at hz⟩
  | d :: l, h => by
    obtain ⟨v, rfl, hv⟩ := h d List.mem_cons_self
    obtain ⟨zs, rfl, hz⟩ := InL.ints (l := l) fun e he => h e (List.mem_cons_of_mem _ he)
    refine ⟨v :: zs, rfl, fun z hm => ?_⟩
    rcases List.mem_cons.mp hm with rfl | hm
    · exact hv
    · exact hz z hm
theorem in_strs (x : Str) : ∀ nl : List Str, ((nl.map D.str).any fun y => eqF y (.str x)) = (fidx x nl).isSome
  | [] => rfl
  | y :: nl => by
    have ih := in_strs x nl
    have h1 : eqF (.str y) (.str x) = (y == x) := rfl
    rw [List.map_cons, List.any_cons, ih, h1, fidx]
    by_cases e : y = x
    · simp [e]
    · have : (y == x) = false := by simpa using e
      simp [e, this]
theorem flat_strs (nl : List Str) : ((nl.map D.str).all flatD) = true := by
  rw [List.all_eq_true]
  intro d hd
  obtain ⟨x, _, rfl⟩ := List.mem_map.mp hd
  rfl
theorem w_inT {x : Str} {nl : List Str} {h : MH} {Q : D → MH → Prop} {E : XE} (q : Q (.bl (fidx x nl).isSome) h) : Sat (dIn (.str x) (.tup (nl.map .str)) h) Q E := by
  refine w_eq ?_ q
  unfold dIn inD
  simp only [seqOf, flat_strs, in_strs]
  rfl
theorem fidx_lt {x : Str} {nl : List Str} {j : Nat} (e : fidx x nl = some j) : j < nl.length := (List.getElem?_eq_some_iff.mp (fidx_some e).1).1
theorem w_tidx {x : Str} {nl : List Str} {j : Nat} {h : MH} {Q : D → MH → Prop} {E : XE} (e : fidx x nl = some j) (q : Q (.int j) h) : Sat (dTIdx (.tup (nl.map .str)) (.str x) h) Q E := by
  refine w_eq ?_ q
  simp only [dTIdx, allStr_map, e]
def startI (nl : List Str) (sv : List Int) (x : Str) : Int := match fidx x nl with
  | some j => sv.getD j 0
  | none => sv.getLastD 0
theorem getD_mem {l : List Int} {j : Nat} (h : j < l.length) : l.getD j 0 ∈ l := by
  rw [List.getD_eq_getElem?_getD, List.getElem?_eq_getElem h]
  exact List.getElem_mem h
theorem at_last {sv : List Int} (h : 1 ≤ sv.length) : atI (sv.map D.int) (-1) = some (.int (sv.getLastD 0)) := by
  unfold atI ixN
  rw [if_neg (by decide), if_pos (by simp; omega)]
  have e : (-1 + ((sv.map D.int).length : Int)).toNat = sv.length - 1 := by simp; omega
  simp only [e, Option.bind_some]
  rw [List.getElem?_map]
  cases sv with
  | nil => simp at h
  | cons a l => 
    rw [← List.getLast?_eq_getElem?, List.getLastD_eq_getLast?]
    cases e : (a :: l).getLast? with
    | none => simp at e
    | some z => rfl
theorem at_nat {l : List Int} {j : Nat} (h : j < l.length) : atI (l.map D.int) (j : Int) = some (.int (l.getD j 0)) := by
  refine atI_at ?_
  rw [List.getElem?_map, List.getD_eq_getElem?_getD, List.getElem?_eq_getElem h]
  rfl
theorem startI_in {nl : List Str} {sv : List Int} {m : Int} (hs : ∀ z ∈ sv, 0 ≤ z ∧ z < m) (hl : sv.length = nl.length + 1) (x : Str) : 0 ≤ startI nl sv x ∧ startI nl sv x < m := by
  unfold startI
  split
  · rename_i j e
    have := fidx_lt e
    exact hs _ (getD_mem (by omega))
  · refine hs _ ?_
    cases sv with
    | nil => simp at hl
    | cons a l =>
      rw [List.getLastD_eq_getLast?]
      cases e : (a :: l).getLast? with
      | none => simp at e
      | some z => exact List.mem_of_getLast? e
def tAt (T : List D) (a b : Int) : Int := match T[a.toNat]? with
  | some (.tup l) => match l[b.toNat]? with
    | some (.int v) => v
    | _ => 0
  | _ => 0
theorem tAt_in {T : List D} {m : Int} (hl : (T.length : Int) = m) (hT : ∀ r ∈ T, ∃ l, r = .tup l ∧ (l.length : Int) = m ∧ InL m l) {a b : Int} (ha : 0 ≤ a ∧ a < m) (hb : 0 ≤ b ∧ b < m) : (0 ≤ tAt T a b ∧ tAt T a b < m) ∧ ∃ l, atI T a = some (.tup l) ∧ atI l b = some (.int (tAt T a b)) := by
  obtain ⟨r, e1, e2⟩ := atI_in (l := T) ha.1 (by omega)
  obtain ⟨l, rfl, hll, hi⟩ := hT r (List.mem_of_getElem? e2)
  obtain ⟨d, e3, e4⟩ := atI_in (l := l) hb.1 (by omega)
  obtain ⟨v, rfl, hv⟩ := hi d (List.mem_of_getElem? e4)
  have e : tAt T a b = v := by unfold tAt; simp only [e2, e4]
  rw [e]
  exact ⟨hv, l, e1, e3⟩
/-- a machine's tables, plainly -/
structure Mc (nl : List Str) (sv : List Int) (T : List D) (m : Int) : Prop where
  ss : ∀ z ∈ sv, 0 ≤ z ∧ z < m
  sl : sv.length = nl.length + 1
  tl : (T.length : Int) = m
  ts : ∀ r ∈ T, ∃ l, r = .tup l ∧ (l.length : Int) = m ∧ InL m l
abbrev tabD (F0 : D) (nl : List Str) (sv : List Int) (T : List D) (K0 : D) : D := .tup [F0, .tup (nl.map .str), .tup (sv.map .int), .tup T, K0]
section
variable {F0 K0 : D} {nl : List Str} {sv : List Int} {T : List D} {m : Int} {h : MH}
theorem c_start (M : Mc nl sv T m) (x : Str) : Sat (m_start_of_78275 [tabD F0 nl sv T K0, .str x] h) (fun d h' => h' = h ∧ d = .int (startI nl sv x)) noX := by
  have hl := M.sl
  walk_at "fn"
  refine w_ixT (i := 1) rfl ?_
  refine w_inT ?_
  walk_at "go"
  cases e : fidx x nl with
  | some j =>
    have hj := fidx_lt e
    refine br_t rfl ?_
    walk_at "go"
    refine w_ixT (i := 2) rfl ?_
    walk_at "go"
    refine w_ixT (i := 1) rfl ?_
    refine ⟨_, rfl, ?_⟩
    walk_at "go"
    refine w_tidx e ?_
    refine w_ixT (at_nat (by omega)) ⟨rfl, ?_⟩
    simp [startI, e]
  | none =>
    refine br_f (by simp) ?_
    walk_at "go"
    refine w_ixT (i := 2) rfl ?_
    walk_at "go"
    refine w_ixT (at_last (by omega)) ⟨rfl, ?_⟩
    simp [startI, e]
theorem fold_in (M : Mc nl sv T m) {s0 : Int} (h0 : 0 ≤ s0 ∧ s0 < m) : ∀ {vs : List Int}, (∀ v ∈ vs, 0 ≤ v ∧ v < m) → 0 ≤ vs.foldl (tAt T) s0 ∧ vs.foldl (tAt T) s0 < m := by
  intro vs
  induction vs generalizing s0 with
  | nil => exact fun _ => h0
  | cons v vs ih =>
    intro hv
    exact ih (tAt_in M.tl M.ts h0 (hv v List.mem_cons_self)).1 fun w hw => hv w (List.mem_cons_of_mem _ hw)
theorem fold_step {f : Int → Int → Int} {s0 : Int} {vs : List Int} {k : Nat} {v : Int} (e : vs[k]? = some v) : (vs.take (k + 1)).foldl f s0 = f ((vs.take k).foldl f s0) v := by
  rw [List.take_add_one, e]
  simp
/-! documents by their places -/
abbrev KC := List (Nat × List Nat)
def cellsK (kc : KC) : LL := kc.map fun p => (p.1, p.2.map fun (j : Nat) => D.int (j : Int))
def KOk (kc : KC) : Prop := ∀ (a : Nat) p, kc[a]? = some p → ∀ j ∈ p.2, a < j ∧ j < kc.length
def DAt (docs : List D) (kc : KC) (a : Nat) : Prop := ∃ (p : Nat × List Nat) (x : Str) (ds : List D), kc[a]? = some p ∧ docs[a]? = some (.tup [.str x, .tup ds]) ∧ Wd 20 x ∧ ds.length = p.2.length ∧ ∀ (t j : Nat), p.2[t]? = some j → ds[t]? = docs[j]?
def SAt (nl : List Str) (sv : List Int) (T : List D) (docs : List D) (kc : KC) (sl : List Int) (a : Nat) : Prop := ∀ p x ds, kc[a]? = some p → docs[a]? = some (.tup [.str x, .tup ds]) → sl.getD a 0 = (p.2.map fun j => sl.getD j 0).foldl (tAt T) (startI nl sv x)
end
/-! the drawn documents -/
def KU (kc : KC) : Prop := (∀ (a b : Nat) (p q : Nat × List Nat) (j : Nat), kc[a]? = some p → kc[b]? = some q → j ∈ p.2 → j ∈ q.2 → a = b) ∧ ∀ p ∈ kc, p.2.Nodup
theorem kset_mem {kc : KC} {a k' b j : Nat} {p r : Nat × List Nat} (ep : kc[a]? = some p) (er : (kc.set a (p.1, p.2 ++ [k']))[b]? = some r) (hj : j ∈ r.2) : (b = a ∧ j = k') ∨ ∃ q, kc[b]? = some q ∧ j ∈ q.2 := by
  have hak := (List.getElem?_eq_some_iff.mp ep).1
  by_cases hab : a = b
  · subst hab
    rw [List.getElem?_set_self hak] at er
    cases er
    rcases List.mem_append.mp hj with hj | hj
    · exact .inr ⟨p, ep, hj⟩
    · exact .inl ⟨rfl, List.mem_singleton.mp hj⟩
  · rw [List.getElem?_set_ne hab] at er
    exact .inr ⟨r, er, hj⟩
theorem KU.app {kc : KC} (h : KU kc) {a k' : Nat} {p : Nat × List Nat} (ep : kc[a]? = some p) (hlt : ∀ q ∈ kc, ∀ j ∈ q.2, j < k') : KU (kc.set a (p.1, p.2 ++ [k'])) := by
  refine ⟨fun b1 b2 r1 r2 j e1 e2 h1 h2 => ?_, fun r hr => ?_⟩
  · rcases kset_mem ep e1 h1 with ⟨q1, q2⟩ | ⟨q1, q2, q3⟩ <;> rcases kset_mem ep e2 h2 with ⟨t1, t2⟩ | ⟨t1, t2, t3⟩
    · omega
    · have := hlt t1 (List.mem_of_getElem? t2) j t3; omega
    · have := hlt q1 (List.mem_of_getElem? q2) j q3; omega
    · exact h.1 _ _ _ _ j q2 t2 q3 t3
  · rcases List.mem_or_eq_of_mem_set hr with q | q
    · exact h.2 r q
    · rw [q]
      refine List.nodup_append.mpr ⟨h.2 p (List.mem_of_getElem? ep), by simp, fun x hx y hy => ?_⟩
      have := hlt p (List.mem_of_getElem? ep) x hx
      rw [List.mem_singleton.mp hy]
      omega
theorem DAt.keep {docs : List D} {kc : KC} (hk : KOk kc) {a b : Nat} {d : D} (hab : b < a) (h : DAt docs kc a) : DAt (docs.set b d) kc a := by
  obtain ⟨p, x, ds, e1, e2, hx, e3, e4⟩ := h
  refine ⟨p, x, ds, e1, by rw [List.getElem?_set_ne (by omega)]; exact e2, hx, e3, fun t j ej => ?_⟩
  have := hk a p e1 j (List.mem_of_getElem? ej)
  rw [List.getElem?_set_ne (by omega)]
  exact e4 t j ej
theorem SAt.keep {nl : List Str} {sv : List Int} {T docs : List D} {kc : KC} {sl : List Int} (hk : KOk kc) {a b : Nat} {v : Int} (hab : b < a) (h : SAt nl sv T docs kc sl a) : SAt nl sv T docs kc (sl.set b v) a := by
  intro p x ds e1 e2
  have := h p x ds e1 e2
  have gd : ∀ j, b < j → (sl.set b v).getD j 0 = sl.getD j 0 := fun j hj => by
    rw [List.getD_eq_getElem?_getD, List.getD_eq_getElem?_getD, List.getElem?_set_ne (by omega)]
  rw [gd a hab, this]
  congr 1
  refine List.map_congr_left fun j hj => (gd j ?_).symm
  have := hk a p e1 j hj
  omega
theorem Mach.mc {F N S T K : List D} {m : Int} (h : Mach F N S T K m) : ∃ nl sv, N = nl.map .str ∧ S = sv.map .int ∧ Mc nl sv T m := by
  obtain ⟨nl, rfl, _⟩ := h.ns
  obtain ⟨sv, rfl, hs⟩ := h.ss.ints
  exact ⟨nl, sv, rfl, rfl, hs, by simpa using h.sl, h.tl, h.ts⟩
end Mi

namespace Mi
open PySem L2
local macro_rules | `(tactic| walk_at "gl") => `(tactic| first
  | assumption
  | (refine Own.atL (h0 := ?_) (L := ?_) ?_ 0 ?_; rotate_left; rotate_left; assumption; rfl)
  | (refine Own.atL (h0 := ?_) (L := ?_) ?_ 1 ?_; rotate_left; rotate_left; assumption; rfl)
  | (refine Own.atL (h0 := ?_) (L := ?_) ?_ 2 ?_; rotate_left; rotate_left; assumption; rfl)
  | (refine Own.atL (h0 := ?_) (L := ?_) ?_ 3 ?_; rotate_left; rotate_left; assumption; rfl)
  | (refine Own.atL (h0 := ?_) (L := ?_) ?_ 4 ?_; rotate_left; rotate_left; assumption; rfl)
  | (refine Own.atL (h0 := ?_) (L := ?_) ?_ 5 ?_; rotate_left; rotate_left; assumption; rfl)
  | (refine Own.atL (h0 := ?_) (L := ?_) ?_ 6 ?_; rotate_left; rotate_left; assumption; rfl)
  | (refine Own.atL (h0 := ?_) (L := ?_) ?_ 7 ?_; rotate_left; rotate_left; assumption; rfl)
  | (refine Own.atL (h0 := ?_) (L := ?_) ?_ 8 ?_; rotate_left; rotate_left; assumption; rfl)
  | (refine Own.atL (h0 := ?_) (L := ?_) ?_ 9 ?_; rotate_left; rotate_left; assumption; rfl)
  | (refine Own.getL (h0 := ?_) (L := ?_) ?_ ?_; rotate_left; rotate_left; assumption; assumption))
local macro_rules | `(tactic| walk_at "il") => `(tactic| first
  | (refine Own.isL (h0 := ?_) (L := ?_) (l := ?_) ?_ 0 ?_; rotate_left; rotate_left; rotate_left; assumption; rfl)
  | (refine Own.isL (h0 := ?_) (L := ?_) (l := ?_) ?_ 1 ?_; rotate_left; rotate_left; rotate_left; assumption; rfl)
  | (refine Own.isL (h0 := ?_) (L := ?_) (l := ?_) ?_ 2 ?_; rotate_left; rotate_left; rotate_left; assumption; rfl)
  | (refine Own.isL (h0 := ?_) (L := ?_) (l := ?_) ?_ 3 ?_; rotate_left; rotate_left; rotate_left; assumption; rfl)
  | (refine Own.isL (h0 := ?_) (L := ?_) (l := ?_) ?_ 4 ?_; rotate_left; rotate_left; rotate_left; assumption; rfl)
  | (refine Own.isL (h0 := ?_) (L := ?_) (l := ?_) ?_ 5 ?_; rotate_left; rotate_left; rotate_left; assumption; rfl)
  | (refine Own.isL (h0 := ?_) (L := ?_) (l := ?_) ?_ 6 ?_; rotate_left; rotate_left; rotate_left; assumption; rfl)
  | (refine Own.isL (h0 := ?_) (L := ?_) (l := ?_) ?_ 7 ?_; rotate_left; rotate_left; rotate_left; assumption; rfl)
  | (refine Own.isL (h0 := ?_) (L := ?_) (l := ?_) ?_ 8 ?_; rotate_left; rotate_left; rotate_left; assumption; rfl)
  | (refine Own.isL (h0 := ?_) (L := ?_) (l := ?_) ?_ 9 ?_; rotate_left; rotate_left; rotate_left; assumption; rfl))
local macro_rules | `(tactic| walk_at "bd") => `(tactic| first | assumption | omega | (simp; done) | (simp; omega) | (simp [*]; done) | (simp [*]; omega))
local macro_rules | `(tactic| walk_at "w") => `(tactic| first
  | with_reducible refine w_seq ?_
  | with_reducible refine w_asg ?_
  | with_reducible refine w_cons ?_
  | with_reducible refine w_nil ?_
  | with_reducible refine w_c ?_
  | ((with_reducible refine w_var (d := ?_) ?_ ?_); rotate_left; rfl)
  | with_reducible refine w_bin ?_
  | with_reducible refine w_call ?_
  | with_reducible refine w_if ?_
  | with_reducible refine w_B ?_
  | with_reducible refine w_unB ?_
  | with_reducible refine w_ret ?_
  | with_reducible refine w_drop ?_
  | with_reducible refine w_skip ?_
  | with_reducible refine w_eq (dAdd_int _ _ _) ?_
  | with_reducible refine w_eq (dSub_int _ _ _) ?_
  | with_reducible refine w_eq (dEq_int _ _ _) ?_
  | with_reducible refine w_eq (dEq_str _ _ _) ?_
  | with_reducible refine w_eq (dNe_strs _ _ _) ?_
  | with_reducible refine w_eq (dEq_bls _ _ _) ?_
  | with_reducible refine w_eq (dNe_bls _ _ _) ?_
  | with_reducible refine w_eq (dLt_int _ _ _) ?_
  | with_reducible refine w_eq (dLe_int _ _ _) ?_
  | with_reducible refine w_eq (dGt_int _ _ _) ?_
  | with_reducible refine w_eq (dGe_int _ _ _) ?_
  | with_reducible refine w_eq (dNe_int _ _ _) ?_
  | ((with_reducible refine w_mod ?_ ?_); (first | assumption | decide | omega))
  | ((with_reducible refine w_fdiv ?_ ?_); (first | assumption | decide | omega))
  | ((with_reducible refine w_mulS ?_ ?_); (first | decide | omega))
  | ((with_reducible refine w_addS ?_ ?_); (first | assumption | decide | omega))
  | ((with_reducible refine w_lenS ?_ ?_); (first | assumption | decide | omega))
  | ((with_reducible refine w_slS ?_ ?_); (first | assumption | decide | omega))
  | with_reducible refine w_lenTm ?_
  | with_reducible refine w_eq (dLen_tup _ _) ?_
  | with_reducible refine w_eq (dSl_tup _ _ _ _) ?_
  | with_reducible refine w_eq (dMax_ev _ _ _) ?_
  | with_reducible refine w_eq (dMin_ev _ _ _) ?_
  | with_reducible refine w_eq (dAbs_ev _ _) ?_
  | with_reducible refine w_not ?_
  | with_reducible refine w_and ?_
  | with_reducible refine w_or ?_
  | with_reducible refine br_n ?_
  | with_reducible refine br_tt ?_
  | with_reducible refine br_ff ?_
  | ((with_reducible refine br_dt ?_ ?_); (first | assumption | omega | rfl))
  | ((with_reducible refine br_df ?_ ?_); (first | assumption | omega))
  | with_reducible refine w_tup ?_
  | ((with_reducible refine w_toTup ?_ ?_); exact (by simp))
  | with_reducible refine w_lst ?_
  | with_reducible refine w_lc ?_
  | with_reducible refine w_for ?_
  | with_reducible refine w_range1 ?_
  | with_reducible refine w_range2 ?_
  | ((with_reducible refine w_dR1 ?_ ?_); (first | decide | omega))
  | ((with_reducible refine w_dR2 ?_ ?_); (first | decide | omega))
  | with_reducible refine w_iter ?_
  | with_reducible refine w_eq (iter1_tup _ _) ?_
  | with_reducible refine w_eq (iter1_str _ _) ?_
  | with_reducible refine w_sl ?_
  | with_reducible refine w_no ?_
  | with_reducible refine w_some ?_
  | with_reducible refine w_unI ?_
  | with_reducible refine w_meth ?_
  | with_reducible refine w_isi ?_
  | with_reducible refine w_zip ?_
  | with_reducible refine w_ifE ?_
  | with_reducible refine w_andV ?_
  | with_reducible refine w_orV ?_
  | with_reducible refine w_notV ?_
  | with_reducible refine w_andK ?_
  | with_reducible refine w_orK ?_
  | with_reducible refine w_notK ?_
  | with_reducible refine w_revL ?_
  | with_reducible refine w_listRg1 ?_
  | with_reducible refine w_tindex ?_
  | with_reducible refine w_setIx ?_
  | with_reducible refine w_un ?_
  | with_reducible refine w_rev1 ?_
  | with_reducible refine w_rev2 ?_
  | with_reducible refine w_chain ?_
  | with_reducible refine w_chK ?_
  | with_reducible refine w_retN ?_
  | with_reducible refine w_brk ?_
  | with_reducible refine w_cont ?_
  | with_reducible refine w_asgT ?_
  | with_reducible refine w_eq (isi_str_str _ _) ?_
  | with_reducible refine w_eq (isi_int_int _ _) ?_
  | with_reducible refine w_eq (isi_tup_tup _ _) ?_
  | with_reducible refine w_eq (isi_bool_int _ _) ?_
  | with_reducible refine w_eq (isi_str_int _ _) ?_
  | ((with_reducible refine w_lenLm (α := ?_) (f := ?_) (l := ?_) ?_ ?_); rotate_left; rotate_left; rotate_left; walk_at "gl")
  | ((with_reducible refine w_lenL (l := ?_) ?_ ?_); rotate_left; walk_at "gl")
  | ((with_reducible refine w_iterL (l := ?_) ?_ ?_); rotate_left; walk_at "gl"; dsimp only)
  | ((with_reducible refine w_tupL (l := ?_) ?_ ?_); rotate_left; walk_at "gl")
  | ((with_reducible refine w_ixT (d := ?_) ?_ ?_); rotate_left; (first | with_reducible assumption | rfl))
  | ((with_reducible refine w_ixL (l := ?_) (d := ?_) ?_ ?_ ?_); rotate_left; rotate_left; walk_at "gl"; (first | with_reducible assumption | rfl))
  | ((with_reducible refine w_addT ?_ ?_); walk_at "bd")
  | ((with_reducible refine ⟨?_, ?_⟩); (with_reducible (show isListD (.ref _) _ = true)); walk_at "il")
  | with_reducible refine w_tryK ?_
  | with_reducible refine w_raise ?_
  | with_reducible refine w_raise0 ?_
  | with_reducible refine w_isX ?_
  | ((with_reducible refine w_isXK (k := ?_) ?_ ?_); rotate_left; (first | with_reducible exact lkA | (apply lkB; decide +kernel; exact lkA) | (apply lkB; decide +kernel; apply lkB; decide +kernel; exact lkA) | (apply lkB; decide +kernel; apply lkB; decide +kernel; apply lkB; decide +kernel; exact lkA)))
  | with_reducible refine w_xf ?_
  | ((with_reducible refine w_xfK ?_ ?_ ?_); (exact List.mem_cons_self); (decide))
  | with_reducible refine w_eq (isN_xo _) ?_
  | with_reducible refine w_eq (dNeg_int _ _) ?_)
local macro_rules | `(tactic| walk_at "go") => `(tactic| (repeat (walk_at "w")); try dsimp only [List.set])
local macro_rules | `(tactic| walk_at "fn") => `(tactic| ((refine w_fun ?_); simp only [startD, List.map_cons, List.map_nil, List.reduceReplicate, Nat.reduceSub, List.cons_append, List.nil_append]; walk_at "go"))
local macro_rules | `(tactic| walk_at "lk") => `(tactic| first | with_reducible exact lkA | (apply lkB; decide +kernel; walk_at "lk"))
local macro_rules | `(tactic| walk_at "mk") => `(tactic| first | with_reducible exact mkA | (apply mkB; decide +kernel; walk_at "mk"))
local macro_rules | `(tactic| walk_at "fk") => `(tactic| first | with_reducible exact fkA | exact fkN | (apply fkB; decide +kernel; walk_at "fk"))
local macro_rules | `(tactic| walk_at "cs") => `(tactic| first | exact List.mem_cons_self | (apply List.mem_cons_of_mem; walk_at "cs"))
local macro_rules | `(tactic| walk_at "w") => `(tactic| first
  | with_reducible refine w_fld ?_
  | ((with_reducible refine w_fldK (c := ?_) (fs := ?_) (v := ?_) ?_ ?_ ?_ ?_); rotate_left; rotate_left; rotate_left; (with_reducible assumption); (walk_at "cs"); (walk_at "fk"))
  | with_reducible refine w_setFld ?_
  | with_reducible refine w_new ?_
  | with_reducible refine w_methI ?_
  | ((with_reducible refine w_methK (c := ?_) (fs := ?_) (F := ?_) ?_ ?_ ?_ ?_); rotate_left; rotate_left; rotate_left; (with_reducible assumption); (walk_at "mk"); (walk_at "fk"))
  | with_reducible refine w_isC ?_
  | ((with_reducible refine w_isCK (c := ?_) (fs := ?_) (k := ?_) ?_ ?_ ?_); rotate_left; rotate_left; rotate_left; (with_reducible assumption); (walk_at "lk"))
  | with_reducible refine w_callD ?_
  | with_reducible refine w_mDSet ?_
  | with_reducible refine w_eq (nN_non _) ?_
  | with_reducible refine w_eq (nN_int _ _) ?_
  | with_reducible refine w_eq (nN_tup _ _) ?_
  | with_reducible refine w_eq (nN_ref _ _) ?_
  | with_reducible refine w_eq (iN_non _) ?_
  | with_reducible refine w_eq (iN_int _ _) ?_
  | with_reducible refine w_eq (iN_tup _ _) ?_
  | with_reducible refine w_eq (iN_ref _ _) ?_)
/-! ### states of documents -/
mutual
def Doc.stt (nl : List Str) (sv : List Int) (T : List D) : Doc → Int
  | .mk x l => (Doc.stts nl sv T l).foldl (tAt T) (startI nl sv x)
def Doc.stts (nl : List Str) (sv : List Int) (T : List D) : List Doc → List Int
  | [] => []
  | d :: l => d.stt nl sv T :: Doc.stts nl sv T l
end
section
variable {F0 K0 : D} {nl : List Str} {sv : List Int} {T : List D} {m : Int} {h : MH}
theorem stts_map : ∀ l : List Doc, Doc.stts nl sv T l = l.map (Doc.stt nl sv T)
  | [] => rfl
  | d :: l => by rw [Doc.stts, stts_map l]; rfl
theorem stt_mk (x : Str) (l : List Doc) : (Doc.mk x l).stt nl sv T = (l.map (Doc.stt nl sv T)).foldl (tAt T) (startI nl sv x) := by rw [Doc.stt, stts_map]
mutual
theorem stt_in (M : Mc nl sv T m) : ∀ d : Doc, 0 ≤ d.stt nl sv T ∧ d.stt nl sv T < m
  | .mk x l => by rw [Doc.stt]; exact fold_in M (startI_in M.ss M.sl x) (stts_in M l)
theorem stts_in (M : Mc nl sv T m) : ∀ l : List Doc, ∀ v ∈ Doc.stts nl sv T l, 0 ≤ v ∧ v < m
  | [], v, h => by simp [Doc.stts] at h
  | d :: l, v, h => by
    rw [Doc.stts] at h
    rcases List.mem_cons.mp h with rfl | h
    · exact stt_in M d
    · exact stts_in M l v h
end
mutual
/-- the places with their states -/
def Doc.pls (nl : List Str) (sv : List Int) (T : List D) : Doc → List Int → List (List Int × Int)
  | .mk x l, pl => (pl, (Doc.mk x l).stt nl sv T) :: Doc.plss nl sv T l pl 0
def Doc.plss (nl : List Str) (sv : List Int) (T : List D) : List Doc → List Int → Nat → List (List Int × Int)
  | [], _, _ => []
  | d :: l, pl, k => d.pls nl sv T (pl ++ [(k : Int)]) ++ Doc.plss nl sv T l pl (k + 1)
end
theorem plss_app (pl : List Int) : ∀ (a b : List Doc) (k : Nat), Doc.plss nl sv T (a ++ b) pl k = Doc.plss nl sv T a pl k ++ Doc.plss nl sv T b pl (k + a.length)
  | [], b, k => by simp [Doc.plss]
  | d :: a, b, k => by
    rw [List.cons_append, Doc.plss, Doc.plss, plss_app pl a b (k + 1), List.append_assoc, List.length_cons]
    rw [show k + 1 + a.length = k + (a.length + 1) by omega]
theorem take_sn61 {α : Type} {l : List α} {k : Nat} {x : α} (e : l[k]? = some x) : l.take (k + 1) = l.take k ++ [x] := by
  rw [List.take_add_one, e]; rfl
theorem plss_take {pl : List Int} {l : List Doc} {k : Nat} {c : Doc} (e : l[k]? = some c) : Doc.plss nl sv T (l.take (k + 1)) pl 0 = Doc.plss nl sv T (l.take k) pl 0 ++ c.pls nl sv T (pl ++ [(k : Int)]) := by
  have hk := (List.getElem?_eq_some_iff.mp e).1
  rw [take_sn61 e, plss_app, List.length_take, Nat.min_eq_left (by omega), Nat.zero_add, Doc.plss, Doc.plss, List.append_nil]
mutual
theorem pls_len : ∀ (d : Doc) (pl : List Int), (d.pls nl sv T pl).length = d.szk
  | .mk x l, pl => by rw [Doc.pls, Doc.szk, List.length_cons, plss_len l pl 0]; omega
theorem plss_len : ∀ (l : List Doc) (pl : List Int) (k : Nat), (Doc.plss nl sv T l pl k).length = Doc.szks l
  | [], pl, k => rfl
  | d :: l, pl, k => by rw [Doc.plss, Doc.szks, List.length_append, pls_len d, plss_len l]
end
theorem szks_take (l : List Doc) (k : Nat) : Doc.szks (l.take k) ≤ Doc.szks l := by
  induction l generalizing k with
  | nil => simp
  | cons d l ih =>
    cases k with
    | zero => simp [Doc.szks]
    | succ k => rw [List.take_succ_cons, Doc.szks, Doc.szks]; have := ih k; omega
def plD (q : List Int × Int) : D := .tup [.tup (q.1.map .int), .int q.2]
theorem start_at (hd : nl.Nodup) {x : Str} {k : Nat} (e : nl[k]? = some x) : startI nl sv x = sv.getD k 0 := by
  unfold startI
  cases e2 : fidx x nl with
  | some j =>
    have h1 := (fidx_some e2).1
    have : j = k := (List.getElem?_inj (List.getElem?_eq_some_iff.mp h1).1 hd).mp (by rw [h1, e])
    rw [this]
  | none =>
    exfalso
    have : ∀ l : List Str, fidx x l = none → x ∉ l := by
      intro l
      induction l with
      | nil => simp
      | cons y l ih =>
        intro h
        unfold fidx at h
        split at h
        · cases h
        · rename_i ne
          simp at h
          simp only [List.mem_cons, not_or]
          exact ⟨fun z => ne z.symm, ih h⟩
    exact this nl e2 (List.mem_of_getElem? e)
theorem start_no {x : Str} (hx : x ∉ nl) : startI nl sv x = sv.getLastD 0 := by
  unfold startI
  cases e2 : fidx x nl with
  | some j => exact absurd (List.mem_of_getElem? (fidx_some e2).1) hx
  | none => rfl
theorem k_states (M : Mc nl sv T m) (hd : nl.Nodup) (hnl : nl.length ≤ 1000) : ∀ (n : Nat) (d : Doc) (pl : List Int) (h : MH), d.ok n → d.szk ≤ 1000 → pl.length + d.szk ≤ 2000 →
    Sat (m_states_ee0d6 n [tabD F0 nl sv T K0, d.toD, .tup (pl.map .int)] h) (fun y h' => ∃ j, y = .ref j ∧ Own h h' [(j, (d.pls nl sv T pl).map plD)]) noX
  | 0, d, pl, h, ho, _, _ => ho.elim
  | n + 1, .mk x l, pl, h, ho, hs, hp => by
    have hsl := M.sl
    have al := at_last (sv := sv) (by omega)
    rw [Doc.szk] at hs hp
    have hll := szks_len l
    rw [toD_mk]
    unfold m_states_ee0d6
    walk_at "fn"
    refine w_loop0 (fun k ρ h' => h' = h ∧ ∃ (s : Int) (o4 : Option D), ρ = [some (tabD F0 nl sv T K0), some (.tup [.str x, .tup (l.map Doc.toD)]), some (.tup (pl.map .int)), some (.int s), o4, none, none] ∧ (x ∈ nl.take k → s = startI nl sv x) ∧ (x ∉ nl.take k → s = sv.getLastD 0)) ⟨rfl, _, none, rfl, by simp, by simp⟩ (fun _ _ _ _ => rfl) ?_ ?_
    · rintro k d ρ h' hd' ⟨rfl, s, o4, rfl, h1, h2⟩
      obtain ⟨hk, rfl⟩ := rangeD_get hd'
      have hk2 : k < nl.length := by simpa using hk
      have en : nl[k]? = some nl[k] := List.getElem?_eq_getElem hk2
      have an : atI (nl.map D.str) (0 + (k : Int)) = some (.str nl[k]) := by rw [Int.zero_add]; exact atI_at (by rw [List.getElem?_map, en]; rfl)
      have as : atI (sv.map D.int) (0 + (k : Int)) = some (.int (sv.getD k 0)) := by rw [Int.zero_add]; exact at_nat (by omega)
      refine ⟨_, rfl, ?_⟩
      dsimp only [List.set]
      walk_at "go"
      rw [take_sn61 en]
      refine br_d (fun q => ?_) (fun q => ?_)
      · walk_at "go"
        refine ⟨rfl, _, _, rfl, fun _ => ?_, fun z => ?_⟩
        · exact (start_at hd (by rw [en, q])).symm
        · simp [q] at z
      · walk_at "go"
        refine ⟨rfl, _, _, rfl, fun z => ?_, fun z => ?_⟩
        · rcases List.mem_append.mp z with z | z
          · exact h1 z
          · exact absurd (List.mem_singleton.mp z).symm q
        · exact h2 fun y => z (List.mem_append_left _ y)
    rintro ρ h' ⟨rfl, s, o4, rfl, h1, h2⟩
    have hs0 : s = startI nl sv x := by
      by_cases hx : x ∈ nl
      · exact h1 (by simpa using hx)
      · rw [h2 (by simpa using hx), start_no hx]
    subst hs0
    clear h1 h2
    walk_at "go"
    refine o_new (Own.nil h') (by simp) fun iL h2 o2 => ?_
    walk_at "go"
    refine w_loop0 (fun k ρ h3 => ∃ (ir : Nat) (o4 o6 : Option D), ρ = [some (tabD F0 nl sv T K0), some (.tup [.str x, .tup (l.map Doc.toD)]), some (.tup (pl.map .int)), some (.int (((l.take k).map (Doc.stt nl sv T)).foldl (tAt T) (startI nl sv x))), o4, some (.ref ir), o6] ∧ Own h' h3 [(ir, (Doc.plss nl sv T (l.take k) pl 0).map plD)]) ⟨iL, _, none, rfl, o2⟩ (fun _ _ _ _ => rfl) ?_ ?_
    · rintro k d ρ h3 hd' ⟨ir, o4, o6, rfl, o⟩
      obtain ⟨hk, rfl⟩ := rangeD_get hd'
      rw [Int.zero_add]
      have hk2 : k < l.length := by simpa using hk
      have ec : l[k]? = some l[k] := List.getElem?_eq_getElem hk2
      have hcm := List.getElem_mem hk2
      generalize l[k] = c at ec hcm
      have ac : atI (l.map Doc.toD) (k : Int) = some c.toD := atI_at (by rw [List.getElem?_map, ec]; rfl)
      have hcs := szks_mem hcm
      have hci := stt_in M c
      have hfi := fold_in M (startI_in M.ss M.sl x) (vs := (l.take k).map (Doc.stt nl sv T)) (fun v hv => by
        obtain ⟨e, _, rfl⟩ := List.mem_map.mp hv
        exact stt_in M e)
      have hpt := plss_len (nl := nl) (sv := sv) (T := T) (l.take k) pl 0
      have hst := szks_take l k
      refine ⟨_, rfl, ?_⟩
      dsimp only [List.set]
      walk_at "go"
      have epl : pl.map D.int ++ [D.int (k : Int)] = (pl ++ [(k : Int)]).map D.int := by simp
      rw [epl]
      refine (k_states M hd hnl n c (pl ++ [(k : Int)]) h3 (ho.2.2 c hcm) (by omega) (by simp; omega)).mono ?_
      rintro y h4 ⟨j, rfl, o4'⟩
      have hpc := pls_len (nl := nl) (sv := sv) (T := T) c (pl ++ [(k : Int)])
      have o5 := o.trans o4'
      have a0 : atI ((c.pls nl sv T (pl ++ [(k : Int)])).map plD) 0 = some (.tup [.tup ((pl ++ [(k : Int)]).map .int), .int (c.stt nl sv T)]) := atI_at (k := 0) (by cases c; rfl)
      have htt := tAt_in M.tl M.ts hfi hci
      have efs := fold_step (f := tAt T) (s0 := startI nl sv x) (vs := l.map (Doc.stt nl sv T)) (k := k) (v := c.stt nl sv T) (by rw [List.getElem?_map, ec]; rfl)
      rw [← List.map_take, ← List.map_take] at efs
      rw [plss_take ec, efs]
      generalize ((l.take k).map (Doc.stt nl sv T)).foldl (tAt T) (startI nl sv x) = s at *
      obtain ⟨_, lr, e1, e2⟩ := htt
      walk_at "go"
      refine o_add o5 (o5.at 1 rfl) (o5.at 0 rfl) (by simp; omega) fun iM h6 o6 => ?_
      exact ⟨iM, _, _, rfl, by rw [List.map_append]; exact o6.head⟩
    · rintro ρ h3 ⟨ir, o4, o6, rfl, o⟩
      have el : (rangeD 0 ((l.length : Nat) : Int).toNat).length = l.length := by simp
      rw [el, List.take_length] at o ⊢
      have hpt := plss_len (nl := nl) (sv := sv) (T := T) l pl 0
      walk_at "go"
      refine o_new o (by simp) fun iN h4 o4' => ?_
      walk_at "go"
      refine o_add o4' (o4'.at 0 rfl) (o4'.at 1 rfl) (by simp; omega) fun iM h6 o6 => ?_
      refine ⟨iM, rfl, ?_⟩
      rw [Doc.pls, stt_mk]
      exact o6.head
end
end Mi

namespace Mi
open PySem L2
local macro_rules | `(tactic| walk_at "gl") => `(tactic| first
  | assumption
  | (refine Own.atL (h0 := ?_) (L := ?_) ?_ 0 ?_; rotate_left; rotate_left; assumption; rfl)
  | (refine Own.atL (h0 := ?_) (L := ?_) ?_ 1 ?_; rotate_left; rotate_left; assumption; rfl)
  | (refine Own.atL (h0 := ?_) (L := ?_) ?_ 2 ?_; rotate_left; rotate_left; assumption; rfl)
  | (refine Own.atL (h0 := ?_) (L := ?_) ?_ 3 ?_; rotate_left; rotate_left; assumption; rfl)
  | (refine Own.atL (h0 := ?_) (L := ?_) ?_ 4 ?_; rotate_left; rotate_left; assumption; rfl)
  | (refine Own.atL (h0 := ?_) (L := ?_) ?_ 5 ?_; rotate_left; rotate_left; assumption; rfl)
  | (refine Own.atL (h0 := ?_) (L := ?_) ?_ 6 ?_; rotate_left; rotate_left; assumption; rfl)
  | (refine Own.atL (h0 := ?_) (L := ?_) ?_ 7 ?_; rotate_left; rotate_left; assumption; rfl)
  | (refine Own.atL (h0 := ?_) (L := ?_) ?_ 8 ?_; rotate_left; rotate_left; assumption; rfl)
  | (refine Own.atL (h0 := ?_) (L := ?_) ?_ 9 ?_; rotate_left; rotate_left; assumption; rfl)
  | (refine Own.getL (h0 := ?_) (L := ?_) ?_ ?_; rotate_left; rotate_left; assumption; assumption))
local macro_rules | `(tactic| walk_at "il") => `(tactic| first
  | (refine Own.isL (h0 := ?_) (L := ?_) (l := ?_) ?_ 0 ?_; rotate_left; rotate_left; rotate_left; assumption; rfl)
  | (refine Own.isL (h0 := ?_) (L := ?_) (l := ?_) ?_ 1 ?_; rotate_left; rotate_left; rotate_left; assumption; rfl)
  | (refine Own.isL (h0 := ?_) (L := ?_) (l := ?_) ?_ 2 ?_; rotate_left; rotate_left; rotate_left; assumption; rfl)
  | (refine Own.isL (h0 := ?_) (L := ?_) (l := ?_) ?_ 3 ?_; rotate_left; rotate_left; rotate_left; assumption; rfl)
  | (refine Own.isL (h0 := ?_) (L := ?_) (l := ?_) ?_ 4 ?_; rotate_left; rotate_left; rotate_left; assumption; rfl)
  | (refine Own.isL (h0 := ?_) (L := ?_) (l := ?_) ?_ 5 ?_; rotate_left; rotate_left; rotate_left; assumption; rfl)
  | (refine Own.isL (h0 := ?_) (L := ?_) (l := ?_) ?_ 6 ?_; rotate_left; rotate_left; rotate_left; assumption; rfl)
  | (refine Own.isL (h0 := ?_) (L := ?_) (l := ?_) ?_ 7 ?_; rotate_left; rotate_left; rotate_left; assumption; rfl)
  | (refine Own.isL (h0 := ?_) (L := ?_) (l := ?_) ?_ 8 ?_; rotate_left; rotate_left; rotate_left; assumption; rfl)
  | (refine Own.isL (h0 := ?_) (L := ?_) (l := ?_) ?_ 9 ?_; rotate_left; rotate_left; rotate_left; assumption; rfl))
local macro_rules | `(tactic| walk_at "bd") => `(tactic| first | assumption | omega | (simp; done) | (simp; omega) | (simp [*]; done) | (simp [*]; omega))
local macro_rules | `(tactic| walk_at "w") => `(tactic| first
  | with_reducible refine w_seq ?_
  | with_reducible refine w_asg ?_
  | with_reducible refine w_cons ?_
  | with_reducible refine w_nil ?_
  | with_reducible refine w_c ?_
  | ((with_reducible refine w_var (d := ?_) ?_ ?_); rotate_left; rfl)
  | with_reducible refine w_bin ?_
  | with_reducible refine w_call ?_
  | with_reducible refine w_if ?_
  | with_reducible refine w_B ?_
  | with_reducible refine w_unB ?_
  | with_reducible refine w_ret ?_
  | with_reducible refine w_drop ?_
  | with_reducible refine w_skip ?_
  | with_reducible refine w_eq (dAdd_int _ _ _) ?_
  | with_reducible refine w_eq (dSub_int _ _ _) ?_
  | with_reducible refine w_eq (dEq_int _ _ _) ?_
  | with_reducible refine w_eq (dEq_str _ _ _) ?_
  | with_reducible refine w_eq (dNe_strs _ _ _) ?_
  | with_reducible refine w_eq (dEq_bls _ _ _) ?_
  | with_reducible refine w_eq (dNe_bls _ _ _) ?_
  | with_reducible refine w_eq (dLt_int _ _ _) ?_
  | with_reducible refine w_eq (dLe_int _ _ _) ?_
  | with_reducible refine w_eq (dGt_int _ _ _) ?_
  | with_reducible refine w_eq (dGe_int _ _ _) ?_
  | with_reducible refine w_eq (dNe_int _ _ _) ?_
  | ((with_reducible refine w_mod ?_ ?_); (first | assumption | decide | omega))
  | ((with_reducible refine w_fdiv ?_ ?_); (first | assumption | decide | omega))
  | ((with_reducible refine w_mulS ?_ ?_); (first | decide | omega))
  | ((with_reducible refine w_addS ?_ ?_); (first | assumption | decide | omega))
  | ((with_reducible refine w_lenS ?_ ?_); (first | assumption | decide | omega))
  | ((with_reducible refine w_slS ?_ ?_); (first | assumption | decide | omega))
  | with_reducible refine w_lenTm ?_
  | with_reducible refine w_eq (dLen_tup _ _) ?_
  | with_reducible refine w_eq (dSl_tup _ _ _ _) ?_
  | with_reducible refine w_eq (dMax_ev _ _ _) ?_
  | with_reducible refine w_eq (dMin_ev _ _ _) ?_
  | with_reducible refine w_eq (dAbs_ev _ _) ?_
  | with_reducible refine w_not ?_
  | with_reducible refine w_and ?_
  | with_reducible refine w_or ?_
  | with_reducible refine br_n ?_
  | with_reducible refine br_tt ?_
  | with_reducible refine br_ff ?_
  | ((with_reducible refine br_dt ?_ ?_); (first | assumption | omega | rfl))
  | ((with_reducible refine br_df ?_ ?_); (first | assumption | omega))
  | with_reducible refine w_tup ?_
  | ((with_reducible refine w_toTup ?_ ?_); exact (by simp))
  | with_reducible refine w_lst ?_
  | with_reducible refine w_lc ?_
  | with_reducible refine w_for ?_
  | with_reducible refine w_range1 ?_
  | with_reducible refine w_range2 ?_
  | ((with_reducible refine w_dR1 ?_ ?_); (first | decide | omega))
  | ((with_reducible refine w_dR2 ?_ ?_); (first | decide | omega))
  | with_reducible refine w_iter ?_
  | with_reducible refine w_eq (iter1_tup _ _) ?_
  | with_reducible refine w_eq (iter1_str _ _) ?_
  | with_reducible refine w_sl ?_
  | with_reducible refine w_no ?_
  | with_reducible refine w_some ?_
  | with_reducible refine w_unI ?_
  | with_reducible refine w_meth ?_
  | with_reducible refine w_isi ?_
  | with_reducible refine w_zip ?_
  | with_reducible refine w_ifE ?_
  | with_reducible refine w_andV ?_
  | with_reducible refine w_orV ?_
  | with_reducible refine w_notV ?_
  | with_reducible refine w_andK ?_
  | with_reducible refine w_orK ?_
  | with_reducible refine w_notK ?_
  | with_reducible refine w_revL ?_
  | with_reducible refine w_listRg1 ?_
  | with_reducible refine w_tindex ?_
  | with_reducible refine w_setIx ?_
  | with_reducible refine w_un ?_
  | with_reducible refine w_rev1 ?_
  | with_reducible refine w_rev2 ?_
  | with_reducible refine w_chain ?_
  | with_reducible refine w_chK ?_
  | with_reducible refine w_retN ?_
  | with_reducible refine w_brk ?_
  | with_reducible refine w_cont ?_
  | with_reducible refine w_asgT ?_
  | with_reducible refine w_eq (isi_str_str _ _) ?_
  | with_reducible refine w_eq (isi_int_int _ _) ?_
  | with_reducible refine w_eq (isi_tup_tup _ _) ?_
  | with_reducible refine w_eq (isi_bool_int _ _) ?_
  | with_reducible refine w_eq (isi_str_int _ _) ?_
  | ((with_reducible refine w_lenLm (α := ?_) (f := ?_) (l := ?_) ?_ ?_); rotate_left; rotate_left; rotate_left; walk_at "gl")
  | ((with_reducible refine w_lenL (l := ?_) ?_ ?_); rotate_left; walk_at "gl")
  | ((with_reducible refine w_iterL (l := ?_) ?_ ?_); rotate_left; walk_at "gl"; dsimp only)
  | ((with_reducible refine w_tupL (l := ?_) ?_ ?_); rotate_left; walk_at "gl")
  | ((with_reducible refine w_ixT (d := ?_) ?_ ?_); rotate_left; (first | with_reducible assumption | rfl))
  | ((with_reducible refine w_ixL (l := ?_) (d := ?_) ?_ ?_ ?_); rotate_left; rotate_left; walk_at "gl"; (first | with_reducible assumption | rfl))
  | ((with_reducible refine w_addT ?_ ?_); walk_at "bd")
  | ((with_reducible refine ⟨?_, ?_⟩); (with_reducible (show isListD (.ref _) _ = true)); walk_at "il")
  | with_reducible refine w_tryK ?_
  | with_reducible refine w_raise ?_
  | with_reducible refine w_raise0 ?_
  | with_reducible refine w_isX ?_
  | ((with_reducible refine w_isXK (k := ?_) ?_ ?_); rotate_left; (first | with_reducible exact lkA | (apply lkB; decide +kernel; exact lkA) | (apply lkB; decide +kernel; apply lkB; decide +kernel; exact lkA) | (apply lkB; decide +kernel; apply lkB; decide +kernel; apply lkB; decide +kernel; exact lkA)))
  | with_reducible refine w_xf ?_
  | ((with_reducible refine w_xfK ?_ ?_ ?_); (exact List.mem_cons_self); (decide))
  | with_reducible refine w_eq (isN_xo _) ?_
  | with_reducible refine w_eq (dNeg_int _ _) ?_)
local macro_rules | `(tactic| walk_at "go") => `(tactic| (repeat (walk_at "w")); try dsimp only [List.set])
local macro_rules | `(tactic| walk_at "fn") => `(tactic| ((refine w_fun ?_); simp only [startD, List.map_cons, List.map_nil, List.reduceReplicate, Nat.reduceSub, List.cons_append, List.nil_append]; walk_at "go"))
local macro_rules | `(tactic| walk_at "lk") => `(tactic| first | with_reducible exact lkA | (apply lkB; decide +kernel; walk_at "lk"))
local macro_rules | `(tactic| walk_at "mk") => `(tactic| first | with_reducible exact mkA | (apply mkB; decide +kernel; walk_at "mk"))
local macro_rules | `(tactic| walk_at "fk") => `(tactic| first | with_reducible exact fkA | exact fkN | (apply fkB; decide +kernel; walk_at "fk"))
local macro_rules | `(tactic| walk_at "cs") => `(tactic| first | exact List.mem_cons_self | (apply List.mem_cons_of_mem; walk_at "cs"))
local macro_rules | `(tactic| walk_at "w") => `(tactic| first
  | with_reducible refine w_fld ?_
  | ((with_reducible refine w_fldK (c := ?_) (fs := ?_) (v := ?_) ?_ ?_ ?_ ?_); rotate_left; rotate_left; rotate_left; (with_reducible assumption); (walk_at "cs"); (walk_at "fk"))
  | with_reducible refine w_setFld ?_
  | with_reducible refine w_new ?_
  | with_reducible refine w_methI ?_
  | ((with_reducible refine w_methK (c := ?_) (fs := ?_) (F := ?_) ?_ ?_ ?_ ?_); rotate_left; rotate_left; rotate_left; (with_reducible assumption); (walk_at "mk"); (walk_at "fk"))
  | with_reducible refine w_isC ?_
  | ((with_reducible refine w_isCK (c := ?_) (fs := ?_) (k := ?_) ?_ ?_ ?_); rotate_left; rotate_left; rotate_left; (with_reducible assumption); (walk_at "lk"))
  | with_reducible refine w_callD ?_
  | with_reducible refine w_mDSet ?_
  | with_reducible refine w_eq (nN_non _) ?_
  | with_reducible refine w_eq (nN_int _ _) ?_
  | with_reducible refine w_eq (nN_tup _ _) ?_
  | with_reducible refine w_eq (nN_ref _ _) ?_
  | with_reducible refine w_eq (iN_non _) ?_
  | with_reducible refine w_eq (iN_int _ _) ?_
  | with_reducible refine w_eq (iN_tup _ _) ?_
  | with_reducible refine w_eq (iN_ref _ _) ?_)
/-- what stands stands on, but for the list at c -/
def Sv61 (c : Nat) (h1 h2 : MH) : Prop := (∃ l, h1[c]? = some (.lst l)) ∧ ∀ (j : Nat) (o : MO), j ≠ c → h1[j]? = some o → h2[j]? = some o
theorem o_compM61 {h0 h : MH} {L : LL} {Q : D → MH → Prop} {E : XE} {gd : MH → Bool} {tg : MG} {te : ME} {ρ : Slots} (P : Nat → D → MH → Prop) {items : List D} (o : Own h0 h L) (hl : items.length ≤ 1000000)
    (hg : ∀ h', h <+: h' → gd h' = true) (hm : ∀ i y h1 h2, Sv61 h.length h1 h2 → P i y h1 → P i y h2)
    (hs : ∀ i d h', items[i]? = some d → h <+: h' → h.length < h'.length → ∃ ρ1, tg d ρ = some ρ1 ∧ Sat (te ρ1 h') (fun y h2 => h' <+: h2 ∧ P i y h2) noX)
    (hn : ∀ ys h', ys.length = items.length → (∀ (k : Nat) y, ys[k]? = some y → P k y h') → Own h0 h' ((h.length, ys) :: L) → Q (.ref h.length) h') : Sat (lcGo gd tg mYes te h.length ρ items (h ++ [.lst []])) Q E := by
  refine w_comp (fun k acc h' => acc.length = k ∧ Own h h' [(h.length, acc)] ∧ ∀ (i : Nat) y, acc[i]? = some y → P i y h') (k := 0) ⟨rfl, (Own.nil h).alloc [], fun i y e => by simp at e⟩ (by simp) (by simpa using hl) (fun i acc h' hi => hg _ hi.2.1.pre) ?_ ?_
  · rintro i d acc h' hd ⟨ha, ow, hp⟩ hc
    rw [Nat.zero_add] at ha ⊢
    obtain ⟨ρ1, e1, s⟩ := hs i d h' hd ow.pre (List.getElem?_eq_some_iff.mp hc).1
    refine ⟨ρ1, e1, true, _, rfl, (fun z => Bool.noConfusion z), fun _ => s.mono ?_⟩
    rintro y h2 ⟨p2, hy⟩
    have o2 := ow.ext p2
    have hc2 := o2.at 0 rfl
    have sv0 : Sv61 h.length h' h2 := ⟨⟨acc, hc⟩, fun j o _ e => pre_get p2 e⟩
    have sv : Sv61 h.length h2 (h2.set h.length (.lst (acc ++ [y]))) := ⟨⟨acc, hc2⟩, fun j o hj e => by rw [List.getElem?_set_ne (Ne.symm hj)]; exact e⟩
    refine ⟨hc2, by simp [ha], o2.setAt 0 rfl _, fun j z hz => ?_⟩
    rcases Nat.lt_or_ge j acc.length with q | q
    · rw [List.getElem?_append_left q] at hz
      exact hm _ _ _ _ sv (hm _ _ _ _ sv0 (hp j z hz))
    · rw [List.getElem?_append_right q] at hz
      have : j - acc.length = 0 := by
        have := (List.getElem?_eq_some_iff.mp hz).1
        simp at this; omega
      rw [this] at hz
      simp at hz
      subst hz
      have : j = i := by omega
      subst this
      exact hm _ _ _ _ sv hy
  · rintro acc h' ⟨ha, ow, hp⟩ hc
    rw [Nat.zero_add] at ha
    exact hn acc h' ha hp (o.trans ow)
theorem o_compT61 {h0 h : MH} {L : LL} {Q : D → MH → Prop} {E : XE} {gd : MH → Bool} {tg : MG} {tt : MT} {te : ME} {ρ : Slots} (I : Nat → List D → Prop) {items : List D} (o : Own h0 h L) (i0 : I 0 []) (hl : items.length ≤ 1000000)
    (hg : ∀ h', h <+: h' → gd h' = true)
    (hs : ∀ i d acc h', items[i]? = some d → I i acc → h <+: h' → ∃ ρ1, tg d ρ = some ρ1 ∧ Sat (tt ρ1 h') (fun b h1 => h' <+: h1 ∧ (b = false → I (i + 1) acc) ∧ (b = true → Sat (te ρ1 h1) (fun y h2 => h1 <+: h2 ∧ I (i + 1) (acc ++ [y])) noX)) noX)
    (hn : ∀ acc h', I items.length acc → Own h0 h' ((h.length, acc) :: L) → Q (.ref h.length) h') : Sat (lcGo gd tg tt te h.length ρ items (h ++ [.lst []])) Q E := by
  refine w_comp (fun k acc h' => I k acc ∧ Own h h' [(h.length, acc)]) (k := 0) ⟨i0, (Own.nil h).alloc []⟩ (by simp) (by simpa using hl) (fun i acc h' hi => hg _ hi.2.pre) ?_ ?_
  · rintro i d acc h' hd ⟨hI, ow⟩ hc
    rw [Nat.zero_add] at hI ⊢
    obtain ⟨ρ1, e1, s⟩ := hs i d acc h' hd hI ow.pre
    obtain ⟨b, h1, e2, p1, hf, ht⟩ := s.get
    have o1 := ow.ext p1
    refine ⟨ρ1, e1, b, h1, e2, fun z => ⟨o1.at 0 rfl, hf z, o1⟩, fun z => (ht z).mono ?_⟩
    rintro y h2 ⟨p2, hI2⟩
    have o2 := o1.ext p2
    exact ⟨o2.at 0 rfl, hI2, o2.setAt 0 rfl _⟩
  · rintro acc h' ⟨hI, ow⟩ hc
    rw [Nat.zero_add] at hI
    exact hn acc h' hI (o.trans ow)
theorem neS61 (s t : String) (h : (Str.ofString s == Str.ofString t) = false := by decide +kernel) : ¬ Str.ofString s = Str.ofString t := fun z => by rw [z] at h; simp at h
theorem putFD2 {x v : D} : putFD (Str.ofString "state") v [(Str.ofString "name", x)] = [(Str.ofString "name", x), (Str.ofString "state", v)] := by
  rw [putFD, if_neg (neS61 "name" "state"), putFD]
theorem putFD3 {x y v : D} : putFD (Str.ofString "below") v [(Str.ofString "name", x), (Str.ofString "state", y)] = [(Str.ofString "name", x), (Str.ofString "state", y), (Str.ofString "below", v)] := by
  rw [putFD, if_neg (neS61 "name" "below"), putFD, if_neg (neS61 "state" "below"), putFD]
theorem get_new61 {h : MH} {o : MO} : (h ++ [o])[h.length]? = some o := by simp
/-! ### spots -/
abbrev spotF (x : Str) (s : Int) (j : Nat) : List (Str × D) := [(Str.ofString "name", .str x), (Str.ofString "state", .int s), (Str.ofString "below", .ref j)]
mutual
def SpD (nl : List Str) (sv : List Int) (T : List D) (b : Nat) (h : MH) : Doc → D → Prop
  | .mk x l, d => ∃ i j es, (d = .ref i ∧ b ≤ i ∧ b ≤ j ∧ h[i]? = some (.ins (Str.ofString "Spot") (spotF x ((Doc.mk x l).stt nl sv T) j)) ∧ h[j]? = some (.lst es)) ∧ SpDs nl sv T b h l es
def SpDs (nl : List Str) (sv : List Int) (T : List D) (b : Nat) (h : MH) : List Doc → List D → Prop
  | [], es => es = []
  | c :: l, es => ∃ e es', es = e :: es' ∧ SpD nl sv T b h c e ∧ SpDs nl sv T b h l es'
end
section
variable {F0 K0 : D} {nl : List Str} {sv : List Int} {T : List D} {m : Int}
mutual
theorem SpD.gen {b c : Nat} {h h' : MH} (hc : c ≤ b) (pr : ∀ i o, b ≤ i → h[i]? = some o → h'[i]? = some o) : ∀ (d : Doc) (y : D), SpD nl sv T b h d y → SpD nl sv T c h' d y
  | .mk x l, y, ⟨i, j, es, ⟨e1, e2, e3, e4, e5⟩, e6⟩ => ⟨i, j, es, ⟨e1, Nat.le_trans hc e2, Nat.le_trans hc e3, pr _ _ e2 e4, pr _ _ e3 e5⟩, SpDs.gen hc pr l es e6⟩
theorem SpDs.gen {b c : Nat} {h h' : MH} (hc : c ≤ b) (pr : ∀ i o, b ≤ i → h[i]? = some o → h'[i]? = some o) : ∀ (l : List Doc) (es : List D), SpDs nl sv T b h l es → SpDs nl sv T c h' l es
  | [], _, e => e
  | d :: l, _, ⟨y, es, e, h1, h2⟩ => ⟨y, es, e, SpD.gen hc pr d y h1, SpDs.gen hc pr l es h2⟩
end
theorem SpD.mono {b : Nat} {h h' : MH} {d : Doc} {y : D} (p : h <+: h') (x : SpD nl sv T b h d y) : SpD nl sv T b h' d y := SpD.gen (Nat.le_refl _) (fun _ _ _ e => pre_get p e) d y x
theorem SpDs.mono {b : Nat} {h h' : MH} {l : List Doc} {es : List D} (p : h <+: h') (x : SpDs nl sv T b h l es) : SpDs nl sv T b h' l es := SpDs.gen (Nat.le_refl _) (fun _ _ _ e => pre_get p e) l es x
theorem SpD.low {b c : Nat} {h : MH} {d : Doc} {y : D} (hc : c ≤ b) (x : SpD nl sv T b h d y) : SpD nl sv T c h d y := SpD.gen hc (fun _ _ _ e => e) d y x
theorem SpDs.low {b c : Nat} {h : MH} {l : List Doc} {es : List D} (hc : c ≤ b) (x : SpDs nl sv T b h l es) : SpDs nl sv T c h l es := SpDs.gen hc (fun _ _ _ e => e) l es x
theorem SpDs.len {b : Nat} {h : MH} : ∀ {l : List Doc} {es : List D}, SpDs nl sv T b h l es → es.length = l.length
  | [], _, e => by rw [show _ = [] from e]; rfl
  | _ :: _, _, ⟨_, _, e, _, h2⟩ => by rw [e, List.length_cons, List.length_cons, SpDs.len h2]
theorem SpDs.get {b : Nat} {h : MH} : ∀ {l : List Doc} {es : List D} {i : Nat} {d : D}, SpDs nl sv T b h l es → es[i]? = some d → ∃ c, l[i]? = some c ∧ SpD nl sv T b h c d
  | [], es, i, d, e, g => by rw [show es = [] from e] at g; simp at g
  | c :: l, _, 0, d, ⟨y, es, e, h1, h2⟩, g => by subst e; simp at g; subst g; exact ⟨c, rfl, h1⟩
  | c :: l, _, i + 1, d, ⟨y, es, e, h1, h2⟩, g => by
    subst e
    obtain ⟨q, e1, e2⟩ := SpDs.get (i := i) h2 (by simpa using g)
    exact ⟨q, by simpa using e1, e2⟩
theorem SpDs.of {b : Nat} {h : MH} : ∀ {l : List Doc} {es : List D}, es.length = l.length → (∀ (k : Nat) y, es[k]? = some y → ∃ c, l[k]? = some c ∧ SpD nl sv T b h c y) → SpDs nl sv T b h l es
  | [], [], _, _ => rfl
  | [], _ :: _, e, _ => by simp at e
  | _ :: _, [], e, _ => by simp at e
  | c :: l, y :: es, e, g => by
    obtain ⟨c', e1, e2⟩ := g 0 y rfl
    simp at e1
    subst e1
    exact ⟨y, es, rfl, e2, SpDs.of (by simpa using e) fun k z hz => by simpa using g (k + 1) z (by simpa using hz)⟩
end
end Mi

namespace Mi
open PySem L2
local macro_rules | `(tactic| walk_at "gl") => `(tactic| first
  | assumption
  | (refine Own.atL (h0 := ?_) (L := ?_) ?_ 0 ?_; rotate_left; rotate_left; assumption; rfl)
  | (refine Own.atL (h0 := ?_) (L := ?_) ?_ 1 ?_; rotate_left; rotate_left; assumption; rfl)
  | (refine Own.atL (h0 := ?_) (L := ?_) ?_ 2 ?_; rotate_left; rotate_left; assumption; rfl)
  | (refine Own.atL (h0 := ?_) (L := ?_) ?_ 3 ?_; rotate_left; rotate_left; assumption; rfl)
  | (refine Own.atL (h0 := ?_) (L := ?_) ?_ 4 ?_; rotate_left; rotate_left; assumption; rfl)
  | (refine Own.atL (h0 := ?_) (L := ?_) ?_ 5 ?_; rotate_left; rotate_left; assumption; rfl)
  | (refine Own.atL (h0 := ?_) (L := ?_) ?_ 6 ?_; rotate_left; rotate_left; assumption; rfl)
  | (refine Own.atL (h0 := ?_) (L := ?_) ?_ 7 ?_; rotate_left; rotate_left; assumption; rfl)
  | (refine Own.atL (h0 := ?_) (L := ?_) ?_ 8 ?_; rotate_left; rotate_left; assumption; rfl)
  | (refine Own.atL (h0 := ?_) (L := ?_) ?_ 9 ?_; rotate_left; rotate_left; assumption; rfl)
  | (refine Own.getL (h0 := ?_) (L := ?_) ?_ ?_; rotate_left; rotate_left; assumption; assumption))
local macro_rules | `(tactic| walk_at "il") => `(tactic| first
  | (refine Own.isL (h0 := ?_) (L := ?_) (l := ?_) ?_ 0 ?_; rotate_left; rotate_left; rotate_left; assumption; rfl)
  | (refine Own.isL (h0 := ?_) (L := ?_) (l := ?_) ?_ 1 ?_; rotate_left; rotate_left; rotate_left; assumption; rfl)
  | (refine Own.isL (h0 := ?_) (L := ?_) (l := ?_) ?_ 2 ?_; rotate_left; rotate_left; rotate_left; assumption; rfl)
  | (refine Own.isL (h0 := ?_) (L := ?_) (l := ?_) ?_ 3 ?_; rotate_left; rotate_left; rotate_left; assumption; rfl)
  | (refine Own.isL (h0 := ?_) (L := ?_) (l := ?_) ?_ 4 ?_; rotate_left; rotate_left; rotate_left; assumption; rfl)
  | (refine Own.isL (h0 := ?_) (L := ?_) (l := ?_) ?_ 5 ?_; rotate_left; rotate_left; rotate_left; assumption; rfl)
  | (refine Own.isL (h0 := ?_) (L := ?_) (l := ?_) ?_ 6 ?_; rotate_left; rotate_left; rotate_left; assumption; rfl)
  | (refine Own.isL (h0 := ?_) (L := ?_) (l := ?_) ?_ 7 ?_; rotate_left; rotate_left; rotate_left; assumption; rfl)
  | (refine Own.isL (h0 := ?_) (L := ?_) (l := ?_) ?_ 8 ?_; rotate_left; rotate_left; rotate_left; assumption; rfl)
  | (refine Own.isL (h0 := ?_) (L := ?_) (l := ?_) ?_ 9 ?_; rotate_left; rotate_left; rotate_left; assumption; rfl))
local macro_rules | `(tactic| walk_at "bd") => `(tactic| first | assumption | omega | (simp; done) | (simp; omega) | (simp [*]; done) | (simp [*]; omega))
local macro_rules | `(tactic| walk_at "w") => `(tactic| first
  | with_reducible refine w_seq ?_
  | with_reducible refine w_asg ?_
  | with_reducible refine w_cons ?_
  | with_reducible refine w_nil ?_
  | with_reducible refine w_c ?_
  | ((with_reducible refine w_var (d := ?_) ?_ ?_); rotate_left; rfl)
  | with_reducible refine w_bin ?_
  | with_reducible refine w_call ?_
  | with_reducible refine w_if ?_
  | with_reducible refine w_B ?_
  | with_reducible refine w_unB ?_
  | with_reducible refine w_ret ?_
  | with_reducible refine w_drop ?_
  | with_reducible refine w_skip ?_
  | with_reducible refine w_eq (dAdd_int _ _ _) ?_
  | with_reducible refine w_eq (dSub_int _ _ _) ?_
  | with_reducible refine w_eq (dEq_int _ _ _) ?_
  | with_reducible refine w_eq (dEq_str _ _ _) ?_
  | with_reducible refine w_eq (dNe_strs _ _ _) ?_
  | with_reducible refine w_eq (dEq_bls _ _ _) ?_
  | with_reducible refine w_eq (dNe_bls _ _ _) ?_
  | with_reducible refine w_eq (dLt_int _ _ _) ?_
  | with_reducible refine w_eq (dLe_int _ _ _) ?_
  | with_reducible refine w_eq (dGt_int _ _ _) ?_
  | with_reducible refine w_eq (dGe_int _ _ _) ?_
  | with_reducible refine w_eq (dNe_int _ _ _) ?_
  | ((with_reducible refine w_mod ?_ ?_); (first | assumption | decide | omega))
  | ((with_reducible refine w_fdiv ?_ ?_); (first | assumption | decide | omega))
  | ((with_reducible refine w_mulS ?_ ?_); (first | decide | omega))
  | ((with_reducible refine w_addS ?_ ?_); (first | assumption | decide | omega))
  | ((with_reducible refine w_lenS ?_ ?_); (first | assumption | decide | omega))
  | ((with_reducible refine w_slS ?_ ?_); (first | assumption | decide | omega))
  | with_reducible refine w_lenTm ?_
  | with_reducible refine w_eq (dLen_tup _ _) ?_
  | with_reducible refine w_eq (dSl_tup _ _ _ _) ?_
  | with_reducible refine w_eq (dMax_ev _ _ _) ?_
  | with_reducible refine w_eq (dMin_ev _ _ _) ?_
  | with_reducible refine w_eq (dAbs_ev _ _) ?_
  | with_reducible refine w_not ?_
  | with_reducible refine w_and ?_
  | with_reducible refine w_or ?_
  | with_reducible refine br_n ?_
  | with_reducible refine br_tt ?_
  | with_reducible refine br_ff ?_
  | ((with_reducible refine br_dt ?_ ?_); (first | assumption | omega | rfl))
  | ((with_reducible refine br_df ?_ ?_); (first | assumption | omega))
  | with_reducible refine w_tup ?_
  | ((with_reducible refine w_toTup ?_ ?_); exact (by simp))
  | with_reducible refine w_lst ?_
  | with_reducible refine w_lc ?_
  | with_reducible refine w_for ?_
  | with_reducible refine w_range1 ?_
  | with_reducible refine w_range2 ?_
  | ((with_reducible refine w_dR1 ?_ ?_); (first | decide | omega))
  | ((with_reducible refine w_dR2 ?_ ?_); (first | decide | omega))
  | with_reducible refine w_iter ?_
  | with_reducible refine w_eq (iter1_tup _ _) ?_
  | with_reducible refine w_eq (iter1_str _ _) ?_
  | with_reducible refine w_sl ?_
  | with_reducible refine w_no ?_
  | with_reducible refine w_some ?_
  | with_reducible refine w_unI ?_
  | with_reducible refine w_meth ?_
  | with_reducible refine w_isi ?_
  | with_reducible refine w_zip ?_
  | with_reducible refine w_ifE ?_
  | with_reducible refine w_andV ?_
  | with_reducible refine w_orV ?_
  | with_reducible refine w_notV ?_
  | with_reducible refine w_andK ?_
  | with_reducible refine w_orK ?_
  | with_reducible refine w_notK ?_
  | with_reducible refine w_revL ?_
  | with_reducible refine w_listRg1 ?_
  | with_reducible refine w_tindex ?_
  | with_reducible refine w_setIx ?_
  | with_reducible refine w_un ?_
  | with_reducible refine w_rev1 ?_
  | with_reducible refine w_rev2 ?_
  | with_reducible refine w_chain ?_
  | with_reducible refine w_chK ?_
  | with_reducible refine w_retN ?_
  | with_reducible refine w_brk ?_
  | with_reducible refine w_cont ?_
  | with_reducible refine w_asgT ?_
  | with_reducible refine w_eq (isi_str_str _ _) ?_
  | with_reducible refine w_eq (isi_int_int _ _) ?_
  | with_reducible refine w_eq (isi_tup_tup _ _) ?_
  | with_reducible refine w_eq (isi_bool_int _ _) ?_
  | with_reducible refine w_eq (isi_str_int _ _) ?_
  | ((with_reducible refine w_lenLm (α := ?_) (f := ?_) (l := ?_) ?_ ?_); rotate_left; rotate_left; rotate_left; walk_at "gl")
  | ((with_reducible refine w_lenL (l := ?_) ?_ ?_); rotate_left; walk_at "gl")
  | ((with_reducible refine w_iterL (l := ?_) ?_ ?_); rotate_left; walk_at "gl"; dsimp only)
  | ((with_reducible refine w_tupL (l := ?_) ?_ ?_); rotate_left; walk_at "gl")
  | ((with_reducible refine w_ixT (d := ?_) ?_ ?_); rotate_left; (first | with_reducible assumption | rfl))
  | ((with_reducible refine w_ixL (l := ?_) (d := ?_) ?_ ?_ ?_); rotate_left; rotate_left; walk_at "gl"; (first | with_reducible assumption | rfl))
  | ((with_reducible refine w_addT ?_ ?_); walk_at "bd")
  | ((with_reducible refine ⟨?_, ?_⟩); (with_reducible (show isListD (.ref _) _ = true)); walk_at "il")
  | with_reducible refine w_tryK ?_
  | with_reducible refine w_raise ?_
  | with_reducible refine w_raise0 ?_
  | with_reducible refine w_isX ?_
  | ((with_reducible refine w_isXK (k := ?_) ?_ ?_); rotate_left; (first | with_reducible exact lkA | (apply lkB; decide +kernel; exact lkA) | (apply lkB; decide +kernel; apply lkB; decide +kernel; exact lkA) | (apply lkB; decide +kernel; apply lkB; decide +kernel; apply lkB; decide +kernel; exact lkA)))
  | with_reducible refine w_xf ?_
  | ((with_reducible refine w_xfK ?_ ?_ ?_); (exact List.mem_cons_self); (decide))
  | with_reducible refine w_eq (isN_xo _) ?_
  | with_reducible refine w_eq (dNeg_int _ _) ?_)
local macro_rules | `(tactic| walk_at "go") => `(tactic| (repeat (walk_at "w")); try dsimp only [List.set])
local macro_rules | `(tactic| walk_at "fn") => `(tactic| ((refine w_fun ?_); simp only [startD, List.map_cons, List.map_nil, List.reduceReplicate, Nat.reduceSub, List.cons_append, List.nil_append]; walk_at "go"))
local macro_rules | `(tactic| walk_at "lk") => `(tactic| first | with_reducible exact lkA | (apply lkB; decide +kernel; walk_at "lk"))
local macro_rules | `(tactic| walk_at "mk") => `(tactic| first | with_reducible exact mkA | (apply mkB; decide +kernel; walk_at "mk"))
local macro_rules | `(tactic| walk_at "fk") => `(tactic| first | with_reducible exact fkA | exact fkN | (apply fkB; decide +kernel; walk_at "fk"))
local macro_rules | `(tactic| walk_at "cs") => `(tactic| first | exact List.mem_cons_self | (apply List.mem_cons_of_mem; walk_at "cs"))
local macro_rules | `(tactic| walk_at "w") => `(tactic| first
  | with_reducible refine w_fld ?_
  | ((with_reducible refine w_fldK (c := ?_) (fs := ?_) (v := ?_) ?_ ?_ ?_ ?_); rotate_left; rotate_left; rotate_left; (with_reducible assumption); (walk_at "cs"); (walk_at "fk"))
  | with_reducible refine w_setFld ?_
  | with_reducible refine w_new ?_
  | with_reducible refine w_methI ?_
  | ((with_reducible refine w_methK (c := ?_) (fs := ?_) (F := ?_) ?_ ?_ ?_ ?_); rotate_left; rotate_left; rotate_left; (with_reducible assumption); (walk_at "mk"); (walk_at "fk"))
  | with_reducible refine w_isC ?_
  | ((with_reducible refine w_isCK (c := ?_) (fs := ?_) (k := ?_) ?_ ?_ ?_); rotate_left; rotate_left; rotate_left; (with_reducible assumption); (walk_at "lk"))
  | with_reducible refine w_callD ?_
  | with_reducible refine w_mDSet ?_
  | with_reducible refine w_eq (nN_non _) ?_
  | with_reducible refine w_eq (nN_int _ _) ?_
  | with_reducible refine w_eq (nN_tup _ _) ?_
  | with_reducible refine w_eq (nN_ref _ _) ?_
  | with_reducible refine w_eq (iN_non _) ?_
  | with_reducible refine w_eq (iN_int _ _) ?_
  | with_reducible refine w_eq (iN_tup _ _) ?_
  | with_reducible refine w_eq (iN_ref _ _) ?_)
section
variable {F0 K0 : D} {nl : List Str} {sv : List Int} {T : List D} {m : Int}
/-- the document of a spot -/
theorem k_docof : ∀ (n : Nat) (d : Doc) (y : D) (b : Nat) (h : MH), SpD nl sv T b h d y → d.ok n → Sat (m_doc_of_a1874 n [y] h) (fun r h' => h <+: h' ∧ r = d.toD) noX
  | 0, d, y, b, h, _, ho => ho.elim
  | n + 1, .mk x l, y, b, h, ⟨i, j, es, ⟨e1, e2, e3, e4, e5⟩, e6⟩, ho => by
    subst e1
    have hlen := e6.len
    have hll := ho.2.1
    have ej := getL_of e5
    unfold m_doc_of_a1874
    walk_at "fn"
    refine o_compM61 (fun k y _ => ∃ c, l[k]? = some c ∧ y = c.toD) (Own.nil h) (by omega) (fun h' p => decide_eq_true (pre_getL p ej)) (fun _ _ _ _ _ z => z) ?_ ?_
    · rintro k d h' hd' pr hlt
      obtain ⟨c, ec, xc⟩ := e6.get hd'
      refine ⟨_, rfl, ?_⟩
      dsimp only [wipeD, List.set]
      walk_at "go"
      refine (k_docof n c d b h' (xc.mono pr) (ho.2.2 c (List.mem_of_getElem? ec))).mono ?_
      rintro y h2 ⟨p2, rfl⟩
      exact ⟨p2, c, ec, rfl⟩
    · rintro ys h' hy hp ow
      have hys : ys = l.map Doc.toD := by
        refine List.ext_getElem? fun k => ?_
        rw [List.getElem?_map]
        rcases Nat.lt_or_ge k ys.length with z | z
        · obtain ⟨c, e1, e2⟩ := hp k _ (List.getElem?_eq_getElem z)
          rw [List.getElem?_eq_getElem z, e1, e2]; rfl
        · rw [List.getElem?_eq_none z, List.getElem?_eq_none (by omega)]; rfl
      subst hys
      walk_at "go"
      exact ⟨ow.pre, by rw [toD_mk]⟩
/-! ### forms -/
variable {fs : List Str} {mk : List Int}
/-- the forms of a state -/
def foS (fs : List Str) (mk : List Int) (s : Int) : List Str := (List.range fs.length).filterMap fun k => if mk.getD s.toNat 0 / 2 ^ k % 2 = 1 then fs[k]? else none
theorem sel_foS (v : Int) (fs : List Str) : ∀ k, k ≤ fs.length → sel v (fs.map D.str) k = ((List.range k).filterMap fun i => if v / 2 ^ i % 2 = 1 then fs[i]? else none).map D.str
  | 0, _ => rfl
  | k + 1, h => by
    have e : (fs.map D.str)[k]? = some (.str fs[k]) := by rw [List.getElem?_map, List.getElem?_eq_getElem (by omega)]; rfl
    rw [sel_step e, sel_foS v fs k (by omega), List.range_succ, List.filterMap_append, List.map_append]
    congr 1
    by_cases z : v / 2 ^ k % 2 = 1
    · simp [z, List.getElem?_eq_getElem (show k < fs.length by omega)]
    · simp [z]
theorem foS_len (s : Int) : (foS fs mk s).length ≤ fs.length := by
  unfold foS
  exact Nat.le_trans (List.length_filterMap_le _ _) (by simp)
structure Fm (fs : List Str) (mk : List Int) (m : Int) : Prop where
  tab : Tab (fs.map D.str) (mk.map D.int)
  len : (mk.length : Int) = m
theorem k_formsof (f : Fm fs mk m) {N0 S0 T0 : D} {s : Int} (hs : 0 ≤ s ∧ s < m) {h : MH} : Sat (m_forms_of_305ad [.tup [.tup (fs.map .str), N0, S0, T0, .tup (mk.map .int)], .int s] h) (fun d h' => ∃ i, d = .ref i ∧ Own h h' [(i, (foS fs mk s).map .str)]) noX := by
  have hl := f.len
  obtain ⟨k, rfl⟩ := Int.eq_ofNat_of_zero_le hs.1
  have e : atI (mk.map D.int) (k : Int) = some (.int (mk.getD k 0)) := at_nat (by omega)
  refine (c_forms f.tab e).mono ?_
  rintro d h' ⟨i, rfl, o⟩
  refine ⟨i, rfl, ?_⟩
  rw [List.length_map, sel_foS _ fs _ (Nat.le_refl _)] at o
  exact o
theorem k_forms61 (f : Fm fs mk m) {N0 S0 T0 : D} {s : Int} (hs : 0 ≤ s ∧ s < m) {h : MH} : Sat (m_forms_7f580 [.tup [.tup (fs.map .str), N0, S0, T0, .tup (mk.map .int)], .int s] h) (fun d h' => ∃ i, d = .ref i ∧ Own h h' [(i, (foS fs mk s).map .str)]) noX := by
  have hl := f.len
  have hfl := f.tab.fl
  rw [List.length_map] at hfl
  obtain ⟨K, rfl⟩ := Int.eq_ofNat_of_zero_le hs.1
  have e : atI (mk.map D.int) (K : Int) = some (.int (mk.getD K 0)) := at_nat (by omega)
  walk_at "fn"
  refine o_compT61 (fun k acc => acc = sel (mk.getD K 0) (fs.map D.str) k) (Own.nil h) rfl (by simp; omega) (fun _ _ => rfl) ?_ ?_
  · rintro k d acc h2 hd2 rfl p2
    obtain ⟨hk, rfl⟩ := rangeD_get hd2
    have hk2 : k < fs.length := by simpa using hk
    rw [Int.zero_add]
    have ef : (fs.map D.str)[k]? = some (.str fs[k]) := by rw [List.getElem?_map, List.getElem?_eq_getElem hk2]; rfl
    have af : atI (fs.map D.str) (k : Int) = some (.str fs[k]) := atI_at ef
    have hp0 : (0 : Int) < 2 ^ k := Int.pow_pos (by decide)
    have hp1 : (2 : Int) ^ k < 18446744073709551616 := by
      have h1 : 2 ^ k ≤ 2 ^ 20 := Nat.pow_le_pow_right (by decide) (by omega)
      have e2 : (2 : Int) ^ k = ((2 ^ k : Nat) : Int) := by push_cast; rfl
      rw [e2]
      omega
    have hp2 : (0 : Int) < 2 ^ k ∧ (2 : Int) ^ k < 18446744073709551616 := ⟨hp0, hp1⟩
    refine ⟨_, rfl, ?_⟩
    dsimp only [wipeD, List.set]
    walk_at "go"
    refine w_shl (n := k) ⟨by omega, by decide⟩ ?_
    rw [Int.one_mul, sel_step ef]
    clear hp0 hp1 e
    generalize mk.getD K 0 = v at *
    generalize (2 : Int) ^ k = P at *
    walk_at "go"
    refine ⟨List.prefix_rfl, fun z => ?_, fun z => ?_⟩
    · rw [if_neg (by simpa using z), List.append_nil]
    · walk_at "go"
      refine ⟨List.prefix_rfl, ?_⟩
      rw [if_pos (by simpa using z)]
  · rintro acc h2 rfl o2
    have el : (rangeD 0 ((fs.length : Nat) : Int).toNat).length = fs.length := by simp
    rw [el, sel_foS _ fs _ (Nat.le_refl _)] at o2
    walk_at "go"
    exact ⟨_, rfl, o2⟩
theorem k_words {h : MH} {i j : Nat} {xs : List Str} (hi : getL h i = some (xs.map .str)) (hj : getL h j = some (xs.map .str)) (hl : xs.length ≤ 1000) : Sat (m_words_27770 [.ref i, .ref j] h) (fun y h' => h' = h ∧ y = .bl true) noX := by
  walk_at "fn"
  refine w_eq (isi_ref _ _ _ _ hi (b := true) (by decide +kernel)) ?_
  walk_at "go"
  refine w_loop0 (fun k ρ h' => h' = h ∧ ∃ o2 : Option D, ρ = [some (.ref i), some (.ref j), o2]) ⟨rfl, none, rfl⟩ (fun _ _ _ _ => rfl) ?_ ?_
  · rintro k d ρ h' hd ⟨rfl, o2, rfl⟩
    obtain ⟨hk, rfl⟩ := rangeD_get hd
    have hk2 : k < xs.length := by simpa using hk
    have ax : atI (xs.map D.str) (0 + (k : Int)) = some (.str xs[k]) := by rw [Int.zero_add]; exact atI_at (by rw [List.getElem?_map, List.getElem?_eq_getElem hk2]; rfl)
    refine ⟨_, rfl, ?_⟩
    dsimp only [List.set]
    walk_at "go"
    exact ⟨rfl, _, rfl⟩
  · rintro ρ h' ⟨rfl, o2, rfl⟩
    walk_at "go"
    exact ⟨rfl, rfl⟩
theorem k_place61 {h : MH} {pl : List Int} (hl : pl.length ≤ 1000) : Sat (m_place_2af87 [.tup (pl.map .int), .tup (pl.map .int)] h) (fun y h' => h' = h ∧ y = .bl true) noX := by
  walk_at "fn"
  refine w_loop0 (fun k ρ h' => h' = h ∧ ∃ o2 : Option D, ρ = [some (.tup (pl.map .int)), some (.tup (pl.map .int)), o2]) ⟨rfl, none, rfl⟩ (fun _ _ _ _ => rfl) ?_ ?_
  · rintro k d ρ h' hd ⟨rfl, o2, rfl⟩
    obtain ⟨hk, rfl⟩ := rangeD_get hd
    have hk2 : k < pl.length := by simpa using hk
    have ax : atI (pl.map D.int) (0 + (k : Int)) = some (.int pl[k]) := by rw [Int.zero_add]; exact atI_at (by rw [List.getElem?_map, List.getElem?_eq_getElem hk2]; rfl)
    refine ⟨_, rfl, ?_⟩
    dsimp only [List.set]
    walk_at "go"
    exact ⟨rfl, _, rfl⟩
  · rintro ρ h' ⟨rfl, o2, rfl⟩
    walk_at "go"
    exact ⟨rfl, rfl⟩
end
end Mi

namespace Mi
open PySem L2
local macro_rules | `(tactic| walk_at "gl") => `(tactic| first
  | assumption
  | (refine Own.atL (h0 := ?_) (L := ?_) ?_ 0 ?_; rotate_left; rotate_left; assumption; rfl)
  | (refine Own.atL (h0 := ?_) (L := ?_) ?_ 1 ?_; rotate_left; rotate_left; assumption; rfl)
  | (refine Own.atL (h0 := ?_) (L := ?_) ?_ 2 ?_; rotate_left; rotate_left; assumption; rfl)
  | (refine Own.atL (h0 := ?_) (L := ?_) ?_ 3 ?_; rotate_left; rotate_left; assumption; rfl)
  | (refine Own.atL (h0 := ?_) (L := ?_) ?_ 4 ?_; rotate_left; rotate_left; assumption; rfl)
  | (refine Own.atL (h0 := ?_) (L := ?_) ?_ 5 ?_; rotate_left; rotate_left; assumption; rfl)
  | (refine Own.atL (h0 := ?_) (L := ?_) ?_ 6 ?_; rotate_left; rotate_left; assumption; rfl)
  | (refine Own.atL (h0 := ?_) (L := ?_) ?_ 7 ?_; rotate_left; rotate_left; assumption; rfl)
  | (refine Own.atL (h0 := ?_) (L := ?_) ?_ 8 ?_; rotate_left; rotate_left; assumption; rfl)
  | (refine Own.atL (h0 := ?_) (L := ?_) ?_ 9 ?_; rotate_left; rotate_left; assumption; rfl)
  | (refine Own.getL (h0 := ?_) (L := ?_) ?_ ?_; rotate_left; rotate_left; assumption; assumption))
local macro_rules | `(tactic| walk_at "il") => `(tactic| first
  | (refine Own.isL (h0 := ?_) (L := ?_) (l := ?_) ?_ 0 ?_; rotate_left; rotate_left; rotate_left; assumption; rfl)
  | (refine Own.isL (h0 := ?_) (L := ?_) (l := ?_) ?_ 1 ?_; rotate_left; rotate_left; rotate_left; assumption; rfl)
  | (refine Own.isL (h0 := ?_) (L := ?_) (l := ?_) ?_ 2 ?_; rotate_left; rotate_left; rotate_left; assumption; rfl)
  | (refine Own.isL (h0 := ?_) (L := ?_) (l := ?_) ?_ 3 ?_; rotate_left; rotate_left; rotate_left; assumption; rfl)
  | (refine Own.isL (h0 := ?_) (L := ?_) (l := ?_) ?_ 4 ?_; rotate_left; rotate_left; rotate_left; assumption; rfl)
  | (refine Own.isL (h0 := ?_) (L := ?_) (l := ?_) ?_ 5 ?_; rotate_left; rotate_left; rotate_left; assumption; rfl)
  | (refine Own.isL (h0 := ?_) (L := ?_) (l := ?_) ?_ 6 ?_; rotate_left; rotate_left; rotate_left; assumption; rfl)
  | (refine Own.isL (h0 := ?_) (L := ?_) (l := ?_) ?_ 7 ?_; rotate_left; rotate_left; rotate_left; assumption; rfl)
  | (refine Own.isL (h0 := ?_) (L := ?_) (l := ?_) ?_ 8 ?_; rotate_left; rotate_left; rotate_left; assumption; rfl)
  | (refine Own.isL (h0 := ?_) (L := ?_) (l := ?_) ?_ 9 ?_; rotate_left; rotate_left; rotate_left; assumption; rfl))
local macro_rules | `(tactic| walk_at "bd") => `(tactic| first | assumption | omega | (simp; done) | (simp; omega) | (simp [*]; done) | (simp [*]; omega))
local macro_rules | `(tactic| walk_at "w") => `(tactic| first
  | with_reducible refine w_seq ?_
  | with_reducible refine w_asg ?_
  | with_reducible refine w_cons ?_
  | with_reducible refine w_nil ?_
  | with_reducible refine w_c ?_
  | ((with_reducible refine w_var (d := ?_) ?_ ?_); rotate_left; rfl)
  | with_reducible refine w_bin ?_
  | with_reducible refine w_call ?_
  | with_reducible refine w_if ?_
  | with_reducible refine w_B ?_
  | with_reducible refine w_unB ?_
  | with_reducible refine w_ret ?_
  | with_reducible refine w_drop ?_
  | with_reducible refine w_skip ?_
  | with_reducible refine w_eq (dAdd_int _ _ _) ?_
  | with_reducible refine w_eq (dSub_int _ _ _) ?_
  | with_reducible refine w_eq (dEq_int _ _ _) ?_
  | with_reducible refine w_eq (dEq_str _ _ _) ?_
  | with_reducible refine w_eq (dNe_strs _ _ _) ?_
  | with_reducible refine w_eq (dEq_bls _ _ _) ?_
  | with_reducible refine w_eq (dNe_bls _ _ _) ?_
  | with_reducible refine w_eq (dLt_int _ _ _) ?_
  | with_reducible refine w_eq (dLe_int _ _ _) ?_
  | with_reducible refine w_eq (dGt_int _ _ _) ?_
  | with_reducible refine w_eq (dGe_int _ _ _) ?_
  | with_reducible refine w_eq (dNe_int _ _ _) ?_
  | ((with_reducible refine w_mod ?_ ?_); (first | assumption | decide | omega))
  | ((with_reducible refine w_fdiv ?_ ?_); (first | assumption | decide | omega))
  | ((with_reducible refine w_mulS ?_ ?_); (first | decide | omega))
  | ((with_reducible refine w_addS ?_ ?_); (first | assumption | decide | omega))
  | ((with_reducible refine w_lenS ?_ ?_); (first | assumption | decide | omega))
  | ((with_reducible refine w_slS ?_ ?_); (first | assumption | decide | omega))
  | with_reducible refine w_lenTm ?_
  | with_reducible refine w_eq (dLen_tup _ _) ?_
  | with_reducible refine w_eq (dSl_tup _ _ _ _) ?_
  | with_reducible refine w_eq (dMax_ev _ _ _) ?_
  | with_reducible refine w_eq (dMin_ev _ _ _) ?_
  | with_reducible refine w_eq (dAbs_ev _ _) ?_
  | with_reducible refine w_not ?_
  | with_reducible refine w_and ?_
  | with_reducible refine w_or ?_
  | with_reducible refine br_n ?_
  | with_reducible refine br_tt ?_
  | with_reducible refine br_ff ?_
  | ((with_reducible refine br_dt ?_ ?_); (first | assumption | omega | rfl))
  | ((with_reducible refine br_df ?_ ?_); (first | assumption | omega))
  | with_reducible refine w_tup ?_
  | ((with_reducible refine w_toTup ?_ ?_); exact (by simp))
  | with_reducible refine w_lst ?_
  | with_reducible refine w_lc ?_
  | with_reducible refine w_for ?_
  | with_reducible refine w_range1 ?_
  | with_reducible refine w_range2 ?_
  | ((with_reducible refine w_dR1 ?_ ?_); (first | decide | omega))
  | ((with_reducible refine w_dR2 ?_ ?_); (first | decide | omega))
  | with_reducible refine w_iter ?_
  | with_reducible refine w_eq (iter1_tup _ _) ?_
  | with_reducible refine w_eq (iter1_str _ _) ?_
  | with_reducible refine w_sl ?_
  | with_reducible refine w_no ?_
  | with_reducible refine w_some ?_
  | with_reducible refine w_unI ?_
  | with_reducible refine w_meth ?_
  | with_reducible refine w_isi ?_
  | with_reducible refine w_zip ?_
  | with_reducible refine w_ifE ?_
  | with_reducible refine w_andV ?_
  | with_reducible refine w_orV ?_
  | with_reducible refine w_notV ?_
  | with_reducible refine w_andK ?_
  | with_reducible refine w_orK ?_
  | with_reducible refine w_notK ?_
  | with_reducible refine w_revL ?_
  | with_reducible refine w_listRg1 ?_
  | with_reducible refine w_tindex ?_
  | with_reducible refine w_setIx ?_
  | with_reducible refine w_un ?_
  | with_reducible refine w_rev1 ?_
  | with_reducible refine w_rev2 ?_
  | with_reducible refine w_chain ?_
  | with_reducible refine w_chK ?_
  | with_reducible refine w_retN ?_
  | with_reducible refine w_brk ?_
  | with_reducible refine w_cont ?_
  | with_reducible refine w_asgT ?_
  | with_reducible refine w_eq (isi_str_str _ _) ?_
  | with_reducible refine w_eq (isi_int_int _ _) ?_
  | with_reducible refine w_eq (isi_tup_tup _ _) ?_
  | with_reducible refine w_eq (isi_bool_int _ _) ?_
  | with_reducible refine w_eq (isi_str_int _ _) ?_
  | ((with_reducible refine w_lenLm (α := ?_) (f := ?_) (l := ?_) ?_ ?_); rotate_left; rotate_left; rotate_left; walk_at "gl")
  | ((with_reducible refine w_lenL (l := ?_) ?_ ?_); rotate_left; walk_at "gl")
  | ((with_reducible refine w_iterL (l := ?_) ?_ ?_); rotate_left; walk_at "gl"; dsimp only)
  | ((with_reducible refine w_tupL (l := ?_) ?_ ?_); rotate_left; walk_at "gl")
  | ((with_reducible refine w_ixT (d := ?_) ?_ ?_); rotate_left; (first | with_reducible assumption | rfl))
  | ((with_reducible refine w_ixL (l := ?_) (d := ?_) ?_ ?_ ?_); rotate_left; rotate_left; walk_at "gl"; (first | with_reducible assumption | rfl))
  | ((with_reducible refine w_addT ?_ ?_); walk_at "bd")
  | ((with_reducible refine ⟨?_, ?_⟩); (with_reducible (show isListD (.ref _) _ = true)); walk_at "il")
  | with_reducible refine w_tryK ?_
  | with_reducible refine w_raise ?_
  | with_reducible refine w_raise0 ?_
  | with_reducible refine w_isX ?_
  | ((with_reducible refine w_isXK (k := ?_) ?_ ?_); rotate_left; (first | with_reducible exact lkA | (apply lkB; decide +kernel; exact lkA) | (apply lkB; decide +kernel; apply lkB; decide +kernel; exact lkA) | (apply lkB; decide +kernel; apply lkB; decide +kernel; apply lkB; decide +kernel; exact lkA)))
  | with_reducible refine w_xf ?_
  | ((with_reducible refine w_xfK ?_ ?_ ?_); (exact List.mem_cons_self); (decide))
  | with_reducible refine w_eq (isN_xo _) ?_
  | with_reducible refine w_eq (dNeg_int _ _) ?_)
local macro_rules | `(tactic| walk_at "go") => `(tactic| (repeat (walk_at "w")); try dsimp only [List.set])
local macro_rules | `(tactic| walk_at "fn") => `(tactic| ((refine w_fun ?_); simp only [startD, List.map_cons, List.map_nil, List.reduceReplicate, Nat.reduceSub, List.cons_append, List.nil_append]; walk_at "go"))
local macro_rules | `(tactic| walk_at "lk") => `(tactic| first | with_reducible exact lkA | (apply lkB; decide +kernel; walk_at "lk"))
local macro_rules | `(tactic| walk_at "mk") => `(tactic| first | with_reducible exact mkA | (apply mkB; decide +kernel; walk_at "mk"))
local macro_rules | `(tactic| walk_at "fk") => `(tactic| first | with_reducible exact fkA | exact fkN | (apply fkB; decide +kernel; walk_at "fk"))
local macro_rules | `(tactic| walk_at "cs") => `(tactic| first | exact List.mem_cons_self | (apply List.mem_cons_of_mem; walk_at "cs"))
local macro_rules | `(tactic| walk_at "w") => `(tactic| first
  | with_reducible refine w_fld ?_
  | ((with_reducible refine w_fldK (c := ?_) (fs := ?_) (v := ?_) ?_ ?_ ?_ ?_); rotate_left; rotate_left; rotate_left; (with_reducible assumption); (walk_at "cs"); (walk_at "fk"))
  | with_reducible refine w_setFld ?_
  | with_reducible refine w_new ?_
  | with_reducible refine w_methI ?_
  | ((with_reducible refine w_methK (c := ?_) (fs := ?_) (F := ?_) ?_ ?_ ?_ ?_); rotate_left; rotate_left; rotate_left; (with_reducible assumption); (walk_at "mk"); (walk_at "fk"))
  | with_reducible refine w_isC ?_
  | ((with_reducible refine w_isCK (c := ?_) (fs := ?_) (k := ?_) ?_ ?_ ?_); rotate_left; rotate_left; rotate_left; (with_reducible assumption); (walk_at "lk"))
  | with_reducible refine w_callD ?_
  | with_reducible refine w_mDSet ?_
  | with_reducible refine w_eq (nN_non _) ?_
  | with_reducible refine w_eq (nN_int _ _) ?_
  | with_reducible refine w_eq (nN_tup _ _) ?_
  | with_reducible refine w_eq (nN_ref _ _) ?_
  | with_reducible refine w_eq (iN_non _) ?_
  | with_reducible refine w_eq (iN_int _ _) ?_
  | with_reducible refine w_eq (iN_tup _ _) ?_
  | with_reducible refine w_eq (iN_ref _ _) ?_)
abbrev tab61 (fs nl : List Str) (sv : List Int) (T : List D) (mk : List Int) : D := .tup [.tup (fs.map .str), .tup (nl.map .str), .tup (sv.map .int), .tup T, .tup (mk.map .int)]
section
variable {fs nl : List Str} {sv mk : List Int} {T : List D} {m : Int}
def FbL (fs : List Str) (mk : List Int) (b c : Nat) (h : MH) (qs : List (List Int × Int)) (es : List D) : Prop := es.length = qs.length ∧ ∀ (k : Nat) q, qs[k]? = some q → ∃ jf, es[k]? = some (.tup [.tup (q.1.map .int), .ref jf]) ∧ b ≤ jf ∧ jf ≠ c ∧ h[jf]? = some (.lst ((foS fs mk q.2).map .str))
theorem FbL.app {b c : Nat} {h : MH} {qs qs' : List (List Int × Int)} {es es' : List D} (x : FbL fs mk b c h qs es) (y : FbL fs mk b c h qs' es') : FbL fs mk b c h (qs ++ qs') (es ++ es') := by
  refine ⟨by rw [List.length_append, List.length_append, x.1, y.1], fun k q hq => ?_⟩
  rcases Nat.lt_or_ge k qs.length with z | z
  · rw [List.getElem?_append_left z] at hq
    rw [List.getElem?_append_left (by rw [x.1]; exact z)]
    exact x.2 k q hq
  · rw [List.getElem?_append_right z] at hq
    rw [List.getElem?_append_right (by rw [x.1]; exact z), x.1]
    exact y.2 _ q hq
theorem FbL.gen {b b' c c' : Nat} {h h' : MH} {qs : List (List Int × Int)} {es : List D} (x : FbL fs mk b c h qs es) (hb : b' ≤ b) (hc : ∀ j, b ≤ j → j ≠ c → j ≠ c') (pr : ∀ j o, b ≤ j → j ≠ c → h[j]? = some o → h'[j]? = some o) : FbL fs mk b' c' h' qs es := by
  refine ⟨x.1, fun k q hq => ?_⟩
  obtain ⟨jf, e1, e2, e3, e4⟩ := x.2 k q hq
  exact ⟨jf, e1, Nat.le_trans hb e2, hc jf e2 e3, pr jf _ e2 e3 e4⟩
theorem w_ext61 {h : MH} {Q : D → MH → Prop} {E : XE} {i j : Nat} {l m : List D} (e : h[i]? = some (.lst l)) (g : h[j]? = some (.lst m)) (c : l.length + m.length ≤ 1000000) (q : Q .non (h.set i (.lst (l ++ m)))) : Sat (dExtend (.ref i) [.ref j] h) Q E := w_eq (by simp only [dExtend, e, g, if_pos c]) q
theorem k_formsbelow (M : Mc nl sv T m) (f : Fm fs mk m) : ∀ (n : Nat) (d : Doc) (y : D) (b : Nat) (pl : List Int) (h : MH), SpD nl sv T b h d y → d.ok n → d.szk ≤ 1000 → pl.length + d.szk ≤ 2000 →
    Sat (m_forms_below_4f6b1 n [tab61 fs nl sv T mk, y, .tup (pl.map .int)] h) (fun r h' => ∃ (j : Nat) (es : List D), r = .ref j ∧ Own h h' [(j, es)] ∧ FbL fs mk h.length j h' (d.pls nl sv T pl) es) noX
  | 0, d, y, b, pl, h, _, ho, _, _ => ho.elim
  | n + 1, .mk x l, y, b, pl, h, ⟨i, j, es, ⟨e1, e2, e3, e4, e5⟩, e6⟩, ho, hs, hp => by
    subst e1
    have hlen := e6.len
    rw [Doc.szk] at hs hp
    have hll := szks_len l
    have hst := stt_in M (Doc.mk x l)
    unfold m_forms_below_4f6b1
    walk_at "fn"
    refine (k_formsof f hst).mono ?_
    rintro y h1 ⟨jf, rfl, o1⟩
    walk_at "go"
    refine o_new o1 (by simp) fun iL h2 o2 => ?_
    have e42 := pre_get o2.pre e4
    have e52 := getL_of (pre_get o2.pre e5)
    have hjf := (o2.cell (jf, (foS fs mk ((Doc.mk x l).stt nl sv T)).map D.str) (by simp)).1
    have hne := o2.ne (a := 1) (b := 0) rfl rfl (by decide)
    have cj := o2.at 1 rfl
    walk_at "go"
    refine w_loop0 (fun k ρ h3 => ∃ (acc : List D) (o4 : Option D), ρ = [some (tab61 fs nl sv T mk), some (.ref i), some (.tup (pl.map .int)), some (.ref iL), o4] ∧ Own h h3 [(iL, acc)] ∧ FbL fs mk h.length iL h3 ((pl, (Doc.mk x l).stt nl sv T) :: Doc.plss nl sv T (l.take k) pl 0) acc) ⟨_, none, rfl, o2.head, rfl, fun k q hq => ?_⟩ (fun _ _ _ _ => rfl) ?_ ?_
    · cases k with
      | zero =>
        simp at hq
        subst hq
        exact ⟨jf, rfl, hjf, hne, cj⟩
      | succ k => simp [Doc.plss] at hq
    · rintro k d ρ h3 hd' ⟨acc, o4, rfl, o, fb⟩
      obtain ⟨hk, rfl⟩ := rangeD_get hd'
      rw [Int.zero_add]
      have hk2 : k < es.length := by simpa using hk
      obtain ⟨c, ec, xc⟩ := e6.get (List.getElem?_eq_getElem hk2)
      have ae : atI es (k : Int) = some es[k] := atI_at (List.getElem?_eq_getElem hk2)
      have hcm := List.mem_of_getElem? ec
      have hcs := szks_mem hcm
      have e43 := pre_get o.pre e4
      have e53 := getL_of (pre_get o.pre e5)
      have hpt := plss_len (nl := nl) (sv := sv) (T := T) (l.take k) pl 0
      have hst2 := szks_take l k
      have hacc : acc.length ≤ 2000 := by rw [fb.1, List.length_cons]; omega
      have hiL := o.lt (p := (iL, acc)) (by simp)
      have hle := o.pre.length_le
      refine ⟨_, rfl, ?_⟩
      dsimp only [List.set]
      walk_at "go"
      have epl : pl.map D.int ++ [D.int (k : Int)] = (pl ++ [(k : Int)]).map D.int := by simp
      rw [epl]
      refine (k_formsbelow M f n c es[k] b (pl ++ [(k : Int)]) h3 (xc.mono o.pre) (ho.2.2 c hcm) (by omega) (by simp; omega)).mono ?_
      rintro y h4 ⟨j2, es2, rfl, o4', fb4⟩
      have hpc := pls_len (nl := nl) (sv := sv) (T := T) c (pl ++ [(k : Int)])
      have he2 := fb4.1
      have o5 := o.trans o4'
      walk_at "go"
      refine w_ext61 (o5.at 1 rfl) (o5.at 0 rfl) (by omega) ?_
      refine ⟨acc ++ es2, _, rfl, (o5.setAt 1 rfl _).tail, ?_⟩
      rw [plss_take ec, ← List.cons_append]
      refine FbL.app (fb.gen (Nat.le_refl _) (fun j _ z => z) fun j o _ hj e => ?_) (fb4.gen hle (fun j hj _ => by simp at hiL; omega) fun j o hj _ e => ?_)
      · rw [List.getElem?_set_ne (Ne.symm hj)]; exact pre_get o4'.pre e
      · rw [List.getElem?_set_ne (by simp at hiL; omega)]; exact e
    · rintro ρ h3 ⟨acc, o4, rfl, o, fb⟩
      have el : (rangeD 0 ((es.length : Nat) : Int).toNat).length = l.length := by simp [hlen]
      rw [el, List.take_length] at fb
      walk_at "go"
      exact ⟨iL, acc, rfl, o, by rw [Doc.pls]; exact fb⟩
theorem k_all61 (f : Fm fs mk m) {h : MH} {i j b c : Nat} {es : List D} {qs : List (List Int × Int)} (hi : getL h i = some es) (hj : getL h j = some (qs.map plD)) (fb : FbL fs mk b c h qs es) (hq : ∀ q ∈ qs, (0 ≤ q.2 ∧ q.2 < m) ∧ q.1.length ≤ 1000) (hl : qs.length ≤ 1000) :
    Sat (m_all_22e5f [.ref i, tab61 fs nl sv T mk, .ref j] h) (fun y h' => h <+: h' ∧ y = .bl true) noX := by
  have hel := fb.1
  have hfl := f.tab.fl
  rw [List.length_map] at hfl
  walk_at "fn"
  refine w_eq (isi_ref _ _ _ _ hi (b := true) (by decide +kernel)) ?_
  walk_at "go"
  refine w_loop0 (fun k ρ h' => h <+: h' ∧ ∃ o3 : Option D, ρ = [some (.ref i), some (tab61 fs nl sv T mk), some (.ref j), o3]) ⟨List.prefix_rfl, none, rfl⟩ (fun _ _ _ _ => rfl) ?_ ?_
  · rintro k d ρ h' hd ⟨pr, o3, rfl⟩
    obtain ⟨hk, rfl⟩ := rangeD_get hd
    rw [Int.zero_add]
    have hk2 : k < qs.length := by simpa using hk
    have eq := List.getElem?_eq_getElem hk2
    obtain ⟨hq1, hq2⟩ := hq _ (List.getElem_mem hk2)
    obtain ⟨jf, e1, e2, e3, e4⟩ := fb.2 k _ eq
    have ae : atI es (k : Int) = some (.tup [.tup (qs[k].1.map .int), .ref jf]) := atI_at e1
    have aq : atI (qs.map plD) (k : Int) = some (.tup [.tup (qs[k].1.map .int), .int qs[k].2]) := atI_at (by rw [List.getElem?_map, eq]; rfl)
    generalize qs[k] = q at *
    obtain ⟨pl, s⟩ := q
    have hi2 := pre_getL pr hi
    have hj2 := pre_getL pr hj
    refine ⟨_, rfl, ?_⟩
    dsimp only [List.set] at *
    walk_at "go"
    refine (k_place61 hq2).mono ?_
    rintro y h2 ⟨rfl, rfl⟩
    walk_at "go"
    refine (k_forms61 f hq1).mono ?_
    rintro y h3 ⟨i3, rfl, o3'⟩
    have hlf := foS_len (fs := fs) (mk := mk) s
    walk_at "go"
    refine (k_words (getL_of (pre_get (pr.trans o3'.pre) e4)) (o3'.atL 0 rfl) (by omega)).mono ?_
    rintro y h4 ⟨rfl, rfl⟩
    walk_at "go"
    exact ⟨pr.trans o3'.pre, _, rfl⟩
  · rintro ρ h' ⟨pr, o3, rfl⟩
    walk_at "go"
    exact ⟨pr, rfl⟩
end
end Mi

namespace Mi
open PySem L2
local macro_rules | `(tactic| walk_at "gl") => `(tactic| first
  | assumption
  | (refine Own.atL (h0 := ?_) (L := ?_) ?_ 0 ?_; rotate_left; rotate_left; assumption; rfl)
  | (refine Own.atL (h0 := ?_) (L := ?_) ?_ 1 ?_; rotate_left; rotate_left; assumption; rfl)
  | (refine Own.atL (h0 := ?_) (L := ?_) ?_ 2 ?_; rotate_left; rotate_left; assumption; rfl)
  | (refine Own.atL (h0 := ?_) (L := ?_) ?_ 3 ?_; rotate_left; rotate_left; assumption; rfl)
  | (refine Own.atL (h0 := ?_) (L := ?_) ?_ 4 ?_; rotate_left; rotate_left; assumption; rfl)
  | (refine Own.atL (h0 := ?_) (L := ?_) ?_ 5 ?_; rotate_left; rotate_left; assumption; rfl)
  | (refine Own.atL (h0 := ?_) (L := ?_) ?_ 6 ?_; rotate_left; rotate_left; assumption; rfl)
  | (refine Own.atL (h0 := ?_) (L := ?_) ?_ 7 ?_; rotate_left; rotate_left; assumption; rfl)
  | (refine Own.atL (h0 := ?_) (L := ?_) ?_ 8 ?_; rotate_left; rotate_left; assumption; rfl)
  | (refine Own.atL (h0 := ?_) (L := ?_) ?_ 9 ?_; rotate_left; rotate_left; assumption; rfl)
  | (refine Own.getL (h0 := ?_) (L := ?_) ?_ ?_; rotate_left; rotate_left; assumption; assumption))
local macro_rules | `(tactic| walk_at "il") => `(tactic| first
  | (refine Own.isL (h0 := ?_) (L := ?_) (l := ?_) ?_ 0 ?_; rotate_left; rotate_left; rotate_left; assumption; rfl)
  | (refine Own.isL (h0 := ?_) (L := ?_) (l := ?_) ?_ 1 ?_; rotate_left; rotate_left; rotate_left; assumption; rfl)
  | (refine Own.isL (h0 := ?_) (L := ?_) (l := ?_) ?_ 2 ?_; rotate_left; rotate_left; rotate_left; assumption; rfl)
  | (refine Own.isL (h0 := ?_) (L := ?_) (l := ?_) ?_ 3 ?_; rotate_left; rotate_left; rotate_left; assumption; rfl)
  | (refine Own.isL (h0 := ?_) (L := ?_) (l := ?_) ?_ 4 ?_; rotate_left; rotate_left; rotate_left; assumption; rfl)
  | (refine Own.isL (h0 := ?_) (L := ?_) (l := ?_) ?_ 5 ?_; rotate_left; rotate_left; rotate_left; assumption; rfl)
  | (refine Own.isL (h0 := ?_) (L := ?_) (l := ?_) ?_ 6 ?_; rotate_left; rotate_left; rotate_left; assumption; rfl)
  | (refine Own.isL (h0 := ?_) (L := ?_) (l := ?_) ?_ 7 ?_; rotate_left; rotate_left; rotate_left; assumption; rfl)
  | (refine Own.isL (h0 := ?_) (L := ?_) (l := ?_) ?_ 8 ?_; rotate_left; rotate_left; rotate_left; assumption; rfl)
  | (refine Own.isL (h0 := ?_) (L := ?_) (l := ?_) ?_ 9 ?_; rotate_left; rotate_left; rotate_left; assumption; rfl))
local macro_rules | `(tactic| walk_at "bd") => `(tactic| first | assumption | omega | (simp; done) | (simp; omega) | (simp [*]; done) | (simp [*]; omega))
local macro_rules | `(tactic| walk_at "w") => `(tactic| first
  | with_reducible refine w_seq ?_
  | with_reducible refine w_asg ?_
  | with_reducible refine w_cons ?_
  | with_reducible refine w_nil ?_
  | with_reducible refine w_c ?_
  | ((with_reducible refine w_var (d := ?_) ?_ ?_); rotate_left; rfl)
  | with_reducible refine w_bin ?_
  | with_reducible refine w_call ?_
  | with_reducible refine w_if ?_
  | with_reducible refine w_B ?_
  | with_reducible refine w_unB ?_
  | with_reducible refine w_ret ?_
  | with_reducible refine w_drop ?_
  | with_reducible refine w_skip ?_
  | with_reducible refine w_eq (dAdd_int _ _ _) ?_
  | with_reducible refine w_eq (dSub_int _ _ _) ?_
  | with_reducible refine w_eq (dEq_int _ _ _) ?_
  | with_reducible refine w_eq (dEq_str _ _ _) ?_
  | with_reducible refine w_eq (dNe_strs _ _ _) ?_
  | with_reducible refine w_eq (dEq_bls _ _ _) ?_
  | with_reducible refine w_eq (dNe_bls _ _ _) ?_
  | with_reducible refine w_eq (dLt_int _ _ _) ?_
  | with_reducible refine w_eq (dLe_int _ _ _) ?_
  | with_reducible refine w_eq (dGt_int _ _ _) ?_
  | with_reducible refine w_eq (dGe_int _ _ _) ?_
  | with_reducible refine w_eq (dNe_int _ _ _) ?_
  | ((with_reducible refine w_mod ?_ ?_); (first | assumption | decide | omega))
  | ((with_reducible refine w_fdiv ?_ ?_); (first | assumption | decide | omega))
  | ((with_reducible refine w_mulS ?_ ?_); (first | decide | omega))
  | ((with_reducible refine w_addS ?_ ?_); (first | assumption | decide | omega))
  | ((with_reducible refine w_lenS ?_ ?_); (first | assumption | decide | omega))
  | ((with_reducible refine w_slS ?_ ?_); (first | assumption | decide | omega))
  | with_reducible refine w_lenTm ?_
  | with_reducible refine w_eq (dLen_tup _ _) ?_
  | with_reducible refine w_eq (dSl_tup _ _ _ _) ?_
  | with_reducible refine w_eq (dMax_ev _ _ _) ?_
  | with_reducible refine w_eq (dMin_ev _ _ _) ?_
  | with_reducible refine w_eq (dAbs_ev _ _) ?_
  | with_reducible refine w_not ?_
  | with_reducible refine w_and ?_
  | with_reducible refine w_or ?_
  | with_reducible refine br_n ?_
  | with_reducible refine br_tt ?_
  | with_reducible refine br_ff ?_
  | ((with_reducible refine br_dt ?_ ?_); (first | assumption | omega | rfl))
  | ((with_reducible refine br_df ?_ ?_); (first | assumption | omega))
  | with_reducible refine w_tup ?_
  | ((with_reducible refine w_toTup ?_ ?_); exact (by simp))
  | with_reducible refine w_lst ?_
  | with_reducible refine w_lc ?_
  | with_reducible refine w_for ?_
  | with_reducible refine w_range1 ?_
  | with_reducible refine w_range2 ?_
  | ((with_reducible refine w_dR1 ?_ ?_); (first | decide | omega))
  | ((with_reducible refine w_dR2 ?_ ?_); (first | decide | omega))
  | with_reducible refine w_iter ?_
  | with_reducible refine w_eq (iter1_tup _ _) ?_
  | with_reducible refine w_eq (iter1_str _ _) ?_
  | with_reducible refine w_sl ?_
  | with_reducible refine w_no ?_
  | with_reducible refine w_some ?_
  | with_reducible refine w_unI ?_
  | with_reducible refine w_meth ?_
  | with_reducible refine w_isi ?_
  | with_reducible refine w_zip ?_
  | with_reducible refine w_ifE ?_
  | with_reducible refine w_andV ?_
  | with_reducible refine w_orV ?_
  | with_reducible refine w_notV ?_
  | with_reducible refine w_andK ?_
  | with_reducible refine w_orK ?_
  | with_reducible refine w_notK ?_
  | with_reducible refine w_revL ?_
  | with_reducible refine w_listRg1 ?_
  | with_reducible refine w_tindex ?_
  | with_reducible refine w_setIx ?_
  | with_reducible refine w_un ?_
  | with_reducible refine w_rev1 ?_
  | with_reducible refine w_rev2 ?_
  | with_reducible refine w_chain ?_
  | with_reducible refine w_chK ?_
  | with_reducible refine w_retN ?_
  | with_reducible refine w_brk ?_
  | with_reducible refine w_cont ?_
  | with_reducible refine w_asgT ?_
  | with_reducible refine w_eq (isi_str_str _ _) ?_
  | with_reducible refine w_eq (isi_int_int _ _) ?_
  | with_reducible refine w_eq (isi_tup_tup _ _) ?_
  | with_reducible refine w_eq (isi_bool_int _ _) ?_
  | with_reducible refine w_eq (isi_str_int _ _) ?_
  | ((with_reducible refine w_lenLm (α := ?_) (f := ?_) (l := ?_) ?_ ?_); rotate_left; rotate_left; rotate_left; walk_at "gl")
  | ((with_reducible refine w_lenL (l := ?_) ?_ ?_); rotate_left; walk_at "gl")
  | ((with_reducible refine w_iterL (l := ?_) ?_ ?_); rotate_left; walk_at "gl"; dsimp only)
  | ((with_reducible refine w_tupL (l := ?_) ?_ ?_); rotate_left; walk_at "gl")
  | ((with_reducible refine w_ixT (d := ?_) ?_ ?_); rotate_left; (first | with_reducible assumption | rfl))
  | ((with_reducible refine w_ixL (l := ?_) (d := ?_) ?_ ?_ ?_); rotate_left; rotate_left; walk_at "gl"; (first | with_reducible assumption | rfl))
  | ((with_reducible refine w_addT ?_ ?_); walk_at "bd")
  | ((with_reducible refine ⟨?_, ?_⟩); (with_reducible (show isListD (.ref _) _ = true)); walk_at "il")
  | with_reducible refine w_tryK ?_
  | with_reducible refine w_raise ?_
  | with_reducible refine w_raise0 ?_
  | with_reducible refine w_isX ?_
  | ((with_reducible refine w_isXK (k := ?_) ?_ ?_); rotate_left; (first | with_reducible exact lkA | (apply lkB; decide +kernel; exact lkA) | (apply lkB; decide +kernel; apply lkB; decide +kernel; exact lkA) | (apply lkB; decide +kernel; apply lkB; decide +kernel; apply lkB; decide +kernel; exact lkA)))
  | with_reducible refine w_xf ?_
  | ((with_reducible refine w_xfK ?_ ?_ ?_); (exact List.mem_cons_self); (decide))
  | with_reducible refine w_eq (isN_xo _) ?_
  | with_reducible refine w_eq (dNeg_int _ _) ?_)
local macro_rules | `(tactic| walk_at "go") => `(tactic| (repeat (walk_at "w")); try dsimp only [List.set])
local macro_rules | `(tactic| walk_at "fn") => `(tactic| ((refine w_fun ?_); simp only [startD, List.map_cons, List.map_nil, List.reduceReplicate, Nat.reduceSub, List.cons_append, List.nil_append]; walk_at "go"))
/-- all documents in reach have few children -/
def Doc.thin (d : Doc) : Prop := ∀ pl c, d.at pl = some c → c.ks.length ≤ 1000
end Mi

namespace Mi
open PySem L2
local macro_rules | `(tactic| walk_at "gl") => `(tactic| first
  | assumption
  | (refine Own.atL (h0 := ?_) (L := ?_) ?_ 0 ?_; rotate_left; rotate_left; assumption; rfl)
  | (refine Own.atL (h0 := ?_) (L := ?_) ?_ 1 ?_; rotate_left; rotate_left; assumption; rfl)
  | (refine Own.atL (h0 := ?_) (L := ?_) ?_ 2 ?_; rotate_left; rotate_left; assumption; rfl)
  | (refine Own.atL (h0 := ?_) (L := ?_) ?_ 3 ?_; rotate_left; rotate_left; assumption; rfl)
  | (refine Own.atL (h0 := ?_) (L := ?_) ?_ 4 ?_; rotate_left; rotate_left; assumption; rfl)
  | (refine Own.atL (h0 := ?_) (L := ?_) ?_ 5 ?_; rotate_left; rotate_left; assumption; rfl)
  | (refine Own.atL (h0 := ?_) (L := ?_) ?_ 6 ?_; rotate_left; rotate_left; assumption; rfl)
  | (refine Own.atL (h0 := ?_) (L := ?_) ?_ 7 ?_; rotate_left; rotate_left; assumption; rfl)
  | (refine Own.atL (h0 := ?_) (L := ?_) ?_ 8 ?_; rotate_left; rotate_left; assumption; rfl)
  | (refine Own.atL (h0 := ?_) (L := ?_) ?_ 9 ?_; rotate_left; rotate_left; assumption; rfl)
  | (refine Own.getL (h0 := ?_) (L := ?_) ?_ ?_; rotate_left; rotate_left; assumption; assumption))
local macro_rules | `(tactic| walk_at "il") => `(tactic| first
  | (refine Own.isL (h0 := ?_) (L := ?_) (l := ?_) ?_ 0 ?_; rotate_left; rotate_left; rotate_left; assumption; rfl)
  | (refine Own.isL (h0 := ?_) (L := ?_) (l := ?_) ?_ 1 ?_; rotate_left; rotate_left; rotate_left; assumption; rfl)
  | (refine Own.isL (h0 := ?_) (L := ?_) (l := ?_) ?_ 2 ?_; rotate_left; rotate_left; rotate_left; assumption; rfl)
  | (refine Own.isL (h0 := ?_) (L := ?_) (l := ?_) ?_ 3 ?_; rotate_left; rotate_left; rotate_left; assumption; rfl)
  | (refine Own.isL (h0 := ?_) (L := ?_) (l := ?_) ?_ 4 ?_; rotate_left; rotate_left; rotate_left; assumption; rfl)
  | (refine Own.isL (h0 := ?_) (L := ?_) (l := ?_) ?_ 5 ?_; rotate_left; rotate_left; rotate_left; assumption; rfl)
  | (refine Own.isL (h0 := ?_) (L := ?_) (l := ?_) ?_ 6 ?_; rotate_left; rotate_left; rotate_left; assumption; rfl)
  | (refine Own.isL (h0 := ?_) (L := ?_) (l := ?_) ?_ 7 ?_; rotate_left; rotate_left; rotate_left; assumption; rfl)
  | (refine Own.isL (h0 := ?_) (L := ?_) (l := ?_) ?_ 8 ?_; rotate_left; rotate_left; rotate_left; assumption; rfl)
  | (refine Own.isL (h0 := ?_) (L := ?_) (l := ?_) ?_ 9 ?_; rotate_left; rotate_left; rotate_left; assumption; rfl))
local macro_rules | `(tactic| walk_at "bd") => `(tactic| first | assumption | omega | (simp; done) | (simp; omega) | (simp [*]; done) | (simp [*]; omega))
local macro_rules | `(tactic| walk_at "w") => `(tactic| first
  | with_reducible refine w_seq ?_
  | with_reducible refine w_asg ?_
  | with_reducible refine w_cons ?_
  | with_reducible refine w_nil ?_
  | with_reducible refine w_c ?_
  | ((with_reducible refine w_var (d := ?_) ?_ ?_); rotate_left; rfl)
  | with_reducible refine w_bin ?_
  | with_reducible refine w_call ?_
  | with_reducible refine w_if ?_
  | with_reducible refine w_B ?_
  | with_reducible refine w_unB ?_
  | with_reducible refine w_ret ?_
  | with_reducible refine w_drop ?_
  | with_reducible refine w_skip ?_
  | with_reducible refine w_eq (dAdd_int _ _ _) ?_
  | with_reducible refine w_eq (dSub_int _ _ _) ?_
  | with_reducible refine w_eq (dEq_int _ _ _) ?_
  | with_reducible refine w_eq (dEq_str _ _ _) ?_
  | with_reducible refine w_eq (dNe_strs _ _ _) ?_
  | with_reducible refine w_eq (dEq_bls _ _ _) ?_
  | with_reducible refine w_eq (dNe_bls _ _ _) ?_
  | with_reducible refine w_eq (dLt_int _ _ _) ?_
  | with_reducible refine w_eq (dLe_int _ _ _) ?_
  | with_reducible refine w_eq (dGt_int _ _ _) ?_
  | with_reducible refine w_eq (dGe_int _ _ _) ?_
  | with_reducible refine w_eq (dNe_int _ _ _) ?_
  | ((with_reducible refine w_mod ?_ ?_); (first | assumption | decide | omega))
  | ((with_reducible refine w_fdiv ?_ ?_); (first | assumption | decide | omega))
  | ((with_reducible refine w_mulS ?_ ?_); (first | decide | omega))
  | ((with_reducible refine w_addS ?_ ?_); (first | assumption | decide | omega))
  | ((with_reducible refine w_lenS ?_ ?_); (first | assumption | decide | omega))
  | ((with_reducible refine w_slS ?_ ?_); (first | assumption | decide | omega))
  | with_reducible refine w_lenTm ?_
  | with_reducible refine w_eq (dLen_tup _ _) ?_
  | with_reducible refine w_eq (dSl_tup _ _ _ _) ?_
  | with_reducible refine w_eq (dMax_ev _ _ _) ?_
  | with_reducible refine w_eq (dMin_ev _ _ _) ?_
  | with_reducible refine w_eq (dAbs_ev _ _) ?_
  | with_reducible refine w_not ?_
  | with_reducible refine w_and ?_
  | with_reducible refine w_or ?_
  | with_reducible refine br_n ?_
  | with_reducible refine br_tt ?_
  | with_reducible refine br_ff ?_
  | ((with_reducible refine br_dt ?_ ?_); (first | assumption | omega | rfl))
  | ((with_reducible refine br_df ?_ ?_); (first | assumption | omega))
  | with_reducible refine w_tup ?_
  | ((with_reducible refine w_toTup ?_ ?_); exact (by simp))
  | with_reducible refine w_lst ?_
  | with_reducible refine w_lc ?_
  | with_reducible refine w_for ?_
  | with_reducible refine w_range1 ?_
  | with_reducible refine w_range2 ?_
  | ((with_reducible refine w_dR1 ?_ ?_); (first | decide | omega))
  | ((with_reducible refine w_dR2 ?_ ?_); (first | decide | omega))
  | with_reducible refine w_iter ?_
  | with_reducible refine w_eq (iter1_tup _ _) ?_
  | with_reducible refine w_eq (iter1_str _ _) ?_
  | with_reducible refine w_sl ?_
  | with_reducible refine w_no ?_
  | with_reducible refine w_some ?_
  | with_reducible refine w_unI ?_
  | with_reducible refine w_meth ?_
  | with_reducible refine w_isi ?_
  | with_reducible refine w_zip ?_
  | with_reducible refine w_ifE ?_
  | with_reducible refine w_andV ?_
  | with_reducible refine w_orV ?_
  | with_reducible refine w_notV ?_
  | with_reducible refine w_andK ?_
  | with_reducible refine w_orK ?_
  | with_reducible refine w_notK ?_
  | with_reducible refine w_revL ?_
  | with_reducible refine w_listRg1 ?_
  | with_reducible refine w_tindex ?_
  | with_reducible refine w_setIx ?_
  | with_reducible refine w_un ?_
  | with_reducible refine w_rev1 ?_
  | with_reducible refine w_rev2 ?_
  | with_reducible refine w_chain ?_
  | with_reducible refine w_chK ?_
  | with_reducible refine w_retN ?_
  | with_reducible refine w_brk ?_
  | with_reducible refine w_cont ?_
  | with_reducible refine w_asgT ?_
  | with_reducible refine w_eq (isi_str_str _ _) ?_
  | with_reducible refine w_eq (isi_int_int _ _) ?_
  | with_reducible refine w_eq (isi_tup_tup _ _) ?_
  | with_reducible refine w_eq (isi_bool_int _ _) ?_
  | with_reducible refine w_eq (isi_str_int _ _) ?_
  | ((with_reducible refine w_lenLm (α := ?_) (f := ?_) (l := ?_) ?_ ?_); rotate_left; rotate_left; rotate_left; walk_at "gl")
  | ((with_reducible refine w_lenL (l := ?_) ?_ ?_); rotate_left; walk_at "gl")
  | ((with_reducible refine w_iterL (l := ?_) ?_ ?_); rotate_left; walk_at "gl"; dsimp only)
  | ((with_reducible refine w_tupL (l := ?_) ?_ ?_); rotate_left; walk_at "gl")
  | ((with_reducible refine w_ixT (d := ?_) ?_ ?_); rotate_left; (first | with_reducible assumption | rfl))
  | ((with_reducible refine w_ixL (l := ?_) (d := ?_) ?_ ?_ ?_); rotate_left; rotate_left; walk_at "gl"; (first | with_reducible assumption | rfl))
  | ((with_reducible refine w_addT ?_ ?_); walk_at "bd")
  | ((with_reducible refine ⟨?_, ?_⟩); (with_reducible (show isListD (.ref _) _ = true)); walk_at "il")
  | with_reducible refine w_tryK ?_
  | with_reducible refine w_raise ?_
  | with_reducible refine w_raise0 ?_
  | with_reducible refine w_isX ?_
  | ((with_reducible refine w_isXK (k := ?_) ?_ ?_); rotate_left; (first | with_reducible exact lkA | (apply lkB; decide +kernel; exact lkA) | (apply lkB; decide +kernel; apply lkB; decide +kernel; exact lkA) | (apply lkB; decide +kernel; apply lkB; decide +kernel; apply lkB; decide +kernel; exact lkA)))
  | with_reducible refine w_xf ?_
  | ((with_reducible refine w_xfK ?_ ?_ ?_); (exact List.mem_cons_self); (decide))
  | with_reducible refine w_eq (isN_xo _) ?_
  | with_reducible refine w_eq (dNeg_int _ _) ?_)
local macro_rules | `(tactic| walk_at "go") => `(tactic| (repeat (walk_at "w")); try dsimp only [List.set])
local macro_rules | `(tactic| walk_at "fn") => `(tactic| ((refine w_fun ?_); simp only [startD, List.map_cons, List.map_nil, List.reduceReplicate, Nat.reduceSub, List.cons_append, List.nil_append]; walk_at "go"))
local macro_rules | `(tactic| walk_at "lk") => `(tactic| first | with_reducible exact lkA | (apply lkB; decide +kernel; walk_at "lk"))
local macro_rules | `(tactic| walk_at "mk") => `(tactic| first | with_reducible exact mkA | (apply mkB; decide +kernel; walk_at "mk"))
local macro_rules | `(tactic| walk_at "fk") => `(tactic| first | with_reducible exact fkA | exact fkN | (apply fkB; decide +kernel; walk_at "fk"))
local macro_rules | `(tactic| walk_at "cs") => `(tactic| first | exact List.mem_cons_self | (apply List.mem_cons_of_mem; walk_at "cs"))
local macro_rules | `(tactic| walk_at "w") => `(tactic| first
  | with_reducible refine w_fld ?_
  | ((with_reducible refine w_fldK (c := ?_) (fs := ?_) (v := ?_) ?_ ?_ ?_ ?_); rotate_left; rotate_left; rotate_left; (with_reducible assumption); (walk_at "cs"); (walk_at "fk"))
  | with_reducible refine w_setFld ?_
  | with_reducible refine w_new ?_
  | with_reducible refine w_methI ?_
  | ((with_reducible refine w_methK (c := ?_) (fs := ?_) (F := ?_) ?_ ?_ ?_ ?_); rotate_left; rotate_left; rotate_left; (with_reducible assumption); (walk_at "mk"); (walk_at "fk"))
  | with_reducible refine w_isC ?_
  | ((with_reducible refine w_isCK (c := ?_) (fs := ?_) (k := ?_) ?_ ?_ ?_); rotate_left; rotate_left; rotate_left; (with_reducible assumption); (walk_at "lk"))
  | with_reducible refine w_callD ?_
  | with_reducible refine w_mDSet ?_
  | with_reducible refine w_eq (nN_non _) ?_
  | with_reducible refine w_eq (nN_int _ _) ?_
  | with_reducible refine w_eq (nN_tup _ _) ?_
  | with_reducible refine w_eq (nN_ref _ _) ?_
  | with_reducible refine w_eq (iN_non _) ?_
  | with_reducible refine w_eq (iN_int _ _) ?_
  | with_reducible refine w_eq (iN_tup _ _) ?_
  | with_reducible refine w_eq (iN_ref _ _) ?_)
section
variable {fs nl : List Str} {sv mk : List Int} {T : List D} {m : Int}
abbrev keptF (tb y : D) (jl : Nat) : List (Str × D) := [(Str.ofString "machine", tb), (Str.ofString "top", y), (Str.ofString "last", .ref jl)]
theorem at_end61 {α : Type} {l : List α} {a : α} : atI (l ++ [a]) (-1) = some a := by
  unfold atI ixN
  rw [if_neg (by decide), if_pos (by simp; omega), Option.bind_some]
  have : ((-1 : Int) + ((l ++ [a]).length : Int)).toNat = l.length := by simp; omega
  rw [this]
  simp
def SpQ (nl : List Str) (sv : List Int) (T : List D) (b : Nat) (h : MH) (d : Doc) (pl : List Int) (y : D) (h' : MH) : Prop := ∃ (e : Doc) (j i : Nat) (ls : List D), d.at pl = some e ∧ y = .ref j ∧ Own h h' [(j, ls ++ [.ref i])] ∧ SpD nl sv T b h e (.ref i)
def NoPl (h : MH) (d : Doc) (pl : List Int) (asked : D) : XE := fun x fs h' => h <+: h' ∧ d.at pl = none ∧ x = Str.ofString "NoPlace" ∧ fs = [(Str.ofString "place", asked)]
theorem SpD.ref {b : Nat} {h : MH} {d : Doc} {y : D} (x : SpD nl sv T b h d y) : ∃ i, y = .ref i := by
  obtain ⟨x', l⟩ := d
  obtain ⟨i, j, es, ⟨e1, _⟩, _⟩ := x
  exact ⟨i, e1⟩
def FoQ (nl : List Str) (sv : List Int) (T : List D) (fs : List Str) (mk : List Int) (h : MH) (d : Doc) (pl : List Int) (y : D) (h' : MH) : Prop := ∃ (e : Doc) (j : Nat), d.at pl = some e ∧ y = .ref j ∧ Own h h' [(j, (foS fs mk (e.stt nl sv T)).map .str)]
end
end Mi

namespace Mi
open PySem L2
local macro_rules | `(tactic| walk_at "gl") => `(tactic| first
  | assumption
  | (refine Own.atL (h0 := ?_) (L := ?_) ?_ 0 ?_; rotate_left; rotate_left; assumption; rfl)
  | (refine Own.atL (h0 := ?_) (L := ?_) ?_ 1 ?_; rotate_left; rotate_left; assumption; rfl)
  | (refine Own.atL (h0 := ?_) (L := ?_) ?_ 2 ?_; rotate_left; rotate_left; assumption; rfl)
  | (refine Own.atL (h0 := ?_) (L := ?_) ?_ 3 ?_; rotate_left; rotate_left; assumption; rfl)
  | (refine Own.atL (h0 := ?_) (L := ?_) ?_ 4 ?_; rotate_left; rotate_left; assumption; rfl)
  | (refine Own.atL (h0 := ?_) (L := ?_) ?_ 5 ?_; rotate_left; rotate_left; assumption; rfl)
  | (refine Own.atL (h0 := ?_) (L := ?_) ?_ 6 ?_; rotate_left; rotate_left; assumption; rfl)
  | (refine Own.atL (h0 := ?_) (L := ?_) ?_ 7 ?_; rotate_left; rotate_left; assumption; rfl)
  | (refine Own.atL (h0 := ?_) (L := ?_) ?_ 8 ?_; rotate_left; rotate_left; assumption; rfl)
  | (refine Own.atL (h0 := ?_) (L := ?_) ?_ 9 ?_; rotate_left; rotate_left; assumption; rfl)
  | (refine Own.getL (h0 := ?_) (L := ?_) ?_ ?_; rotate_left; rotate_left; assumption; assumption))
local macro_rules | `(tactic| walk_at "il") => `(tactic| first
  | (refine Own.isL (h0 := ?_) (L := ?_) (l := ?_) ?_ 0 ?_; rotate_left; rotate_left; rotate_left; assumption; rfl)
  | (refine Own.isL (h0 := ?_) (L := ?_) (l := ?_) ?_ 1 ?_; rotate_left; rotate_left; rotate_left; assumption; rfl)
  | (refine Own.isL (h0 := ?_) (L := ?_) (l := ?_) ?_ 2 ?_; rotate_left; rotate_left; rotate_left; assumption; rfl)
  | (refine Own.isL (h0 := ?_) (L := ?_) (l := ?_) ?_ 3 ?_; rotate_left; rotate_left; rotate_left; assumption; rfl)
  | (refine Own.isL (h0 := ?_) (L := ?_) (l := ?_) ?_ 4 ?_; rotate_left; rotate_left; rotate_left; assumption; rfl)
  | (refine Own.isL (h0 := ?_) (L := ?_) (l := ?_) ?_ 5 ?_; rotate_left; rotate_left; rotate_left; assumption; rfl)
  | (refine Own.isL (h0 := ?_) (L := ?_) (l := ?_) ?_ 6 ?_; rotate_left; rotate_left; rotate_left; assumption; rfl)
  | (refine Own.isL (h0 := ?_) (L := ?_) (l := ?_) ?_ 7 ?_; rotate_left; rotate_left; rotate_left; assumption; rfl)
  | (refine Own.isL (h0 := ?_) (L := ?_) (l := ?_) ?_ 8 ?_; rotate_left; rotate_left; rotate_left; assumption; rfl)
  | (refine Own.isL (h0 := ?_) (L := ?_) (l := ?_) ?_ 9 ?_; rotate_left; rotate_left; rotate_left; assumption; rfl))
local macro_rules | `(tactic| walk_at "bd") => `(tactic| first | assumption | omega | (simp; done) | (simp; omega) | (simp [*]; done) | (simp [*]; omega))
local macro_rules | `(tactic| walk_at "w") => `(tactic| first
  | with_reducible refine w_seq ?_
  | with_reducible refine w_asg ?_
  | with_reducible refine w_cons ?_
  | with_reducible refine w_nil ?_
  | with_reducible refine w_c ?_
  | ((with_reducible refine w_var (d := ?_) ?_ ?_); rotate_left; rfl)
  | with_reducible refine w_bin ?_
  | with_reducible refine w_call ?_
  | with_reducible refine w_if ?_
  | with_reducible refine w_B ?_
  | with_reducible refine w_unB ?_
  | with_reducible refine w_ret ?_
  | with_reducible refine w_drop ?_
  | with_reducible refine w_skip ?_
  | with_reducible refine w_eq (dAdd_int _ _ _) ?_
  | with_reducible refine w_eq (dSub_int _ _ _) ?_
  | with_reducible refine w_eq (dEq_int _ _ _) ?_
  | with_reducible refine w_eq (dEq_str _ _ _) ?_
  | with_reducible refine w_eq (dNe_strs _ _ _) ?_
  | with_reducible refine w_eq (dEq_bls _ _ _) ?_
  | with_reducible refine w_eq (dNe_bls _ _ _) ?_
  | with_reducible refine w_eq (dLt_int _ _ _) ?_
  | with_reducible refine w_eq (dLe_int _ _ _) ?_
  | with_reducible refine w_eq (dGt_int _ _ _) ?_
  | with_reducible refine w_eq (dGe_int _ _ _) ?_
  | with_reducible refine w_eq (dNe_int _ _ _) ?_
  | ((with_reducible refine w_mod ?_ ?_); (first | assumption | decide | omega))
  | ((with_reducible refine w_fdiv ?_ ?_); (first | assumption | decide | omega))
  | ((with_reducible refine w_mulS ?_ ?_); (first | decide | omega))
  | ((with_reducible refine w_addS ?_ ?_); (first | assumption | decide | omega))
  | ((with_reducible refine w_lenS ?_ ?_); (first | assumption | decide | omega))
  | ((with_reducible refine w_slS ?_ ?_); (first | assumption | decide | omega))
  | with_reducible refine w_lenTm ?_
  | with_reducible refine w_eq (dLen_tup _ _) ?_
  | with_reducible refine w_eq (dSl_tup _ _ _ _) ?_
  | with_reducible refine w_eq (dMax_ev _ _ _) ?_
  | with_reducible refine w_eq (dMin_ev _ _ _) ?_
  | with_reducible refine w_eq (dAbs_ev _ _) ?_
  | with_reducible refine w_not ?_
  | with_reducible refine w_and ?_
  | with_reducible refine w_or ?_
  | with_reducible refine br_n ?_
  | with_reducible refine br_tt ?_
  | with_reducible refine br_ff ?_
  | ((with_reducible refine br_dt ?_ ?_); (first | assumption | omega | rfl))
  | ((with_reducible refine br_df ?_ ?_); (first | assumption | omega))
  | with_reducible refine w_tup ?_
  | ((with_reducible refine w_toTup ?_ ?_); exact (by simp))
  | with_reducible refine w_lst ?_
  | with_reducible refine w_lc ?_
  | with_reducible refine w_for ?_
  | with_reducible refine w_range1 ?_
  | with_reducible refine w_range2 ?_
  | ((with_reducible refine w_dR1 ?_ ?_); (first | decide | omega))
  | ((with_reducible refine w_dR2 ?_ ?_); (first | decide | omega))
  | with_reducible refine w_iter ?_
  | with_reducible refine w_eq (iter1_tup _ _) ?_
  | with_reducible refine w_eq (iter1_str _ _) ?_
  | with_reducible refine w_sl ?_
  | with_reducible refine w_no ?_
  | with_reducible refine w_some ?_
  | with_reducible refine w_unI ?_
  | with_reducible refine w_meth ?_
  | with_reducible refine w_isi ?_
  | with_reducible refine w_zip ?_
  | with_reducible refine w_ifE ?_
  | with_reducible refine w_andV ?_
  | with_reducible refine w_orV ?_
  | with_reducible refine w_notV ?_
  | with_reducible refine w_andK ?_
  | with_reducible refine w_orK ?_
  | with_reducible refine w_notK ?_
  | with_reducible refine w_revL ?_
  | with_reducible refine w_listRg1 ?_
  | with_reducible refine w_tindex ?_
  | with_reducible refine w_setIx ?_
  | with_reducible refine w_un ?_
  | with_reducible refine w_rev1 ?_
  | with_reducible refine w_rev2 ?_
  | with_reducible refine w_chain ?_
  | with_reducible refine w_chK ?_
  | with_reducible refine w_retN ?_
  | with_reducible refine w_brk ?_
  | with_reducible refine w_cont ?_
  | with_reducible refine w_asgT ?_
  | with_reducible refine w_eq (isi_str_str _ _) ?_
  | with_reducible refine w_eq (isi_int_int _ _) ?_
  | with_reducible refine w_eq (isi_tup_tup _ _) ?_
  | with_reducible refine w_eq (isi_bool_int _ _) ?_
  | with_reducible refine w_eq (isi_str_int _ _) ?_
  | ((with_reducible refine w_lenLm (α := ?_) (f := ?_) (l := ?_) ?_ ?_); rotate_left; rotate_left; rotate_left; walk_at "gl")
  | ((with_reducible refine w_lenL (l := ?_) ?_ ?_); rotate_left; walk_at "gl")
  | ((with_reducible refine w_iterL (l := ?_) ?_ ?_); rotate_left; walk_at "gl"; dsimp only)
  | ((with_reducible refine w_tupL (l := ?_) ?_ ?_); rotate_left; walk_at "gl")
  | ((with_reducible refine w_ixT (d := ?_) ?_ ?_); rotate_left; (first | with_reducible assumption | rfl))
  | ((with_reducible refine w_ixL (l := ?_) (d := ?_) ?_ ?_ ?_); rotate_left; rotate_left; walk_at "gl"; (first | with_reducible assumption | rfl))
  | ((with_reducible refine w_addT ?_ ?_); walk_at "bd")
  | ((with_reducible refine ⟨?_, ?_⟩); (with_reducible (show isListD (.ref _) _ = true)); walk_at "il")
  | with_reducible refine w_tryK ?_
  | with_reducible refine w_raise ?_
  | with_reducible refine w_raise0 ?_
  | with_reducible refine w_isX ?_
  | ((with_reducible refine w_isXK (k := ?_) ?_ ?_); rotate_left; (first | with_reducible exact lkA | (apply lkB; decide +kernel; exact lkA) | (apply lkB; decide +kernel; apply lkB; decide +kernel; exact lkA) | (apply lkB; decide +kernel; apply lkB; decide +kernel; apply lkB; decide +kernel; exact lkA)))
  | with_reducible refine w_xf ?_
  | ((with_reducible refine w_xfK ?_ ?_ ?_); (exact List.mem_cons_self); (decide))
  | with_reducible refine w_eq (isN_xo _) ?_
  | with_reducible refine w_eq (dNeg_int _ _) ?_)
local macro_rules | `(tactic| walk_at "go") => `(tactic| (repeat (walk_at "w")); try dsimp only [List.set])
local macro_rules | `(tactic| walk_at "fn") => `(tactic| ((refine w_fun ?_); simp only [startD, List.map_cons, List.map_nil, List.reduceReplicate, Nat.reduceSub, List.cons_append, List.nil_append]; walk_at "go"))
local macro_rules | `(tactic| walk_at "lk") => `(tactic| first | with_reducible exact lkA | (apply lkB; decide +kernel; walk_at "lk"))
local macro_rules | `(tactic| walk_at "mk") => `(tactic| first | with_reducible exact mkA | (apply mkB; decide +kernel; walk_at "mk"))
local macro_rules | `(tactic| walk_at "fk") => `(tactic| first | with_reducible exact fkA | exact fkN | (apply fkB; decide +kernel; walk_at "fk"))
local macro_rules | `(tactic| walk_at "cs") => `(tactic| first | exact List.mem_cons_self | (apply List.mem_cons_of_mem; walk_at "cs"))
local macro_rules | `(tactic| walk_at "w") => `(tactic| first
  | with_reducible refine w_fld ?_
  | ((with_reducible refine w_fldK (c := ?_) (fs := ?_) (v := ?_) ?_ ?_ ?_ ?_); rotate_left; rotate_left; rotate_left; (with_reducible assumption); (walk_at "cs"); (walk_at "fk"))
  | with_reducible refine w_setFld ?_
  | with_reducible refine w_new ?_
  | with_reducible refine w_methI ?_
  | ((with_reducible refine w_methK (c := ?_) (fs := ?_) (F := ?_) ?_ ?_ ?_ ?_); rotate_left; rotate_left; rotate_left; (with_reducible assumption); (walk_at "mk"); (walk_at "fk"))
  | with_reducible refine w_isC ?_
  | ((with_reducible refine w_isCK (c := ?_) (fs := ?_) (k := ?_) ?_ ?_ ?_); rotate_left; rotate_left; rotate_left; (with_reducible assumption); (walk_at "lk"))
  | with_reducible refine w_callD ?_
  | with_reducible refine w_mDSet ?_
  | with_reducible refine w_eq (nN_non _) ?_
  | with_reducible refine w_eq (nN_int _ _) ?_
  | with_reducible refine w_eq (nN_tup _ _) ?_
  | with_reducible refine w_eq (nN_ref _ _) ?_
  | with_reducible refine w_eq (iN_non _) ?_
  | with_reducible refine w_eq (iN_int _ _) ?_
  | with_reducible refine w_eq (iN_tup _ _) ?_
  | with_reducible refine w_eq (iN_ref _ _) ?_)
section
variable {fs nl : List Str} {sv mk : List Int} {T : List D} {m : Int}
mutual
theorem pls_at : ∀ (d : Doc) (pl : List Int) (q : List Int × Int), q ∈ d.pls nl sv T pl → ∃ r e, q.1 = pl ++ r ∧ d.at r = some e ∧ e.stt nl sv T = q.2 ∧ r.length + e.szk ≤ d.szk
  | .mk x l, pl, q, h => by
    rw [Doc.pls] at h
    rcases List.mem_cons.mp h with rfl | h
    · exact ⟨[], _, by simp, by simp [Doc.at], rfl, by simp⟩
    · obtain ⟨i, c, r, e, h1, h2, h3, h4, h5⟩ := plss_at l pl 0 q h
      refine ⟨((0 + i : Nat) : Int) :: r, e, h2, ?_, h4, ?_⟩
      · unfold Doc.at
        rw [if_pos (by omega)]
        show (match l[(((0 + i : Nat) : Int)).toNat]? with | some c => c.at r | none => none) = some e
        rw [Int.toNat_natCast, Nat.zero_add, h1]
        exact h3
      · have := szks_mem (List.mem_of_getElem? h1)
        rw [Doc.szk, List.length_cons]
        omega
theorem plss_at : ∀ (l : List Doc) (pl : List Int) (k : Nat) (q : List Int × Int), q ∈ Doc.plss nl sv T l pl k → ∃ i c r e, l[i]? = some c ∧ q.1 = pl ++ ((k + i : Nat) : Int) :: r ∧ c.at r = some e ∧ e.stt nl sv T = q.2 ∧ r.length + e.szk ≤ c.szk
  | [], pl, k, q, h => by simp [Doc.plss] at h
  | d :: l, pl, k, q, h => by
    rw [Doc.plss] at h
    rcases List.mem_append.mp h with h | h
    · obtain ⟨r, e, h1, h2, h3, h4⟩ := pls_at d (pl ++ [(k : Int)]) q h
      exact ⟨0, d, r, e, rfl, by rw [h1]; simp, h2, h3, h4⟩
    · obtain ⟨i, c, r, e, h1, h2, h3, h4, h5⟩ := plss_at l pl (k + 1) q h
      exact ⟨i + 1, c, r, e, by simpa using h1, by rw [h2, show k + 1 + i = k + (i + 1) by omega], h3, h4, h5⟩
end
theorem pre_set61 {h h2 : MH} {i : Nat} {o : MO} (p : h <+: h2) (hi : h.length ≤ i) : h <+: h2.set i o := by
  rw [List.prefix_iff_getElem?]
  intro j hj
  rw [List.getElem?_set_ne (by omega)]
  exact pre_get p (List.getElem?_eq_getElem hj)
def KpD (fs nl : List Str) (sv mk : List Int) (T : List D) (b : Nat) (h : MH) (ik : Nat) (d : Doc) : Prop := ∃ y jl, b ≤ ik ∧ b ≤ jl ∧ h[ik]? = some (.ins (Str.ofString "Kept") (keptF (tab61 fs nl sv T mk) y jl)) ∧ h[jl]? = some (.lst []) ∧ SpD nl sv T b h d y
theorem KpD.gen {b c : Nat} {h h' : MH} {ik : Nat} {d : Doc} (hc : c ≤ b) (pr : ∀ i o, b ≤ i → h[i]? = some o → h'[i]? = some o) (x : KpD fs nl sv mk T b h ik d) : KpD fs nl sv mk T c h' ik d := by
  obtain ⟨y, jl, e1, e2, e3, e4, e5⟩ := x
  exact ⟨y, jl, by omega, by omega, pr _ _ e1 e3, pr _ _ e2 e4, SpD.gen hc pr _ _ e5⟩
theorem KpD.mono {b : Nat} {h h' : MH} {ik : Nat} {d : Doc} (p : h <+: h') (x : KpD fs nl sv mk T b h ik d) : KpD fs nl sv mk T b h' ik d := x.gen (Nat.le_refl _) fun _ _ _ e => pre_get p e
theorem putK2 {x v : D} : putFD (Str.ofString "top") v [(Str.ofString "machine", x)] = [(Str.ofString "machine", x), (Str.ofString "top", v)] := by
  rw [putFD, if_neg (neS61 "machine" "top"), putFD]
theorem putK3 {x y v : D} : putFD (Str.ofString "last") v [(Str.ofString "machine", x), (Str.ofString "top", y)] = [(Str.ofString "machine", x), (Str.ofString "top", y), (Str.ofString "last", v)] := by
  rw [putFD, if_neg (neS61 "machine" "last"), putFD, if_neg (neS61 "top" "last"), putFD]
end
end Mi

namespace Mi
open PySem L2
local macro_rules | `(tactic| walk_at "gl") => `(tactic| first
  | assumption
  | (refine Own.atL (h0 := ?_) (L := ?_) ?_ 0 ?_; rotate_left; rotate_left; assumption; rfl)
  | (refine Own.atL (h0 := ?_) (L := ?_) ?_ 1 ?_; rotate_left; rotate_left; assumption; rfl)
  | (refine Own.atL (h0 := ?_) (L := ?_) ?_ 2 ?_; rotate_left; rotate_left; assumption; rfl)
  | (refine Own.atL (h0 := ?_) (L := ?_) ?_ 3 ?_; rotate_left; rotate_left; assumption; rfl)
  | (refine Own.atL (h0 := ?_) (L := ?_) ?_ 4 ?_; rotate_left; rotate_left; assumption; rfl)
  | (refine Own.atL (h0 := ?_) (L := ?_) ?_ 5 ?_; rotate_left; rotate_left; assumption; rfl)
  | (refine Own.atL (h0 := ?_) (L := ?_) ?_ 6 ?_; rotate_left; rotate_left; assumption; rfl)
  | (refine Own.atL (h0 := ?_) (L := ?_) ?_ 7 ?_; rotate_left; rotate_left; assumption; rfl)
  | (refine Own.atL (h0 := ?_) (L := ?_) ?_ 8 ?_; rotate_left; rotate_left; assumption; rfl)
  | (refine Own.atL (h0 := ?_) (L := ?_) ?_ 9 ?_; rotate_left; rotate_left; assumption; rfl)
  | (refine Own.getL (h0 := ?_) (L := ?_) ?_ ?_; rotate_left; rotate_left; assumption; assumption))
local macro_rules | `(tactic| walk_at "il") => `(tactic| first
  | (refine Own.isL (h0 := ?_) (L := ?_) (l := ?_) ?_ 0 ?_; rotate_left; rotate_left; rotate_left; assumption; rfl)
  | (refine Own.isL (h0 := ?_) (L := ?_) (l := ?_) ?_ 1 ?_; rotate_left; rotate_left; rotate_left; assumption; rfl)
  | (refine Own.isL (h0 := ?_) (L := ?_) (l := ?_) ?_ 2 ?_; rotate_left; rotate_left; rotate_left; assumption; rfl)
  | (refine Own.isL (h0 := ?_) (L := ?_) (l := ?_) ?_ 3 ?_; rotate_left; rotate_left; rotate_left; assumption; rfl)
  | (refine Own.isL (h0 := ?_) (L := ?_) (l := ?_) ?_ 4 ?_; rotate_left; rotate_left; rotate_left; assumption; rfl)
  | (refine Own.isL (h0 := ?_) (L := ?_) (l := ?_) ?_ 5 ?_; rotate_left; rotate_left; rotate_left; assumption; rfl)
  | (refine Own.isL (h0 := ?_) (L := ?_) (l := ?_) ?_ 6 ?_; rotate_left; rotate_left; rotate_left; assumption; rfl)
  | (refine Own.isL (h0 := ?_) (L := ?_) (l := ?_) ?_ 7 ?_; rotate_left; rotate_left; rotate_left; assumption; rfl)
  | (refine Own.isL (h0 := ?_) (L := ?_) (l := ?_) ?_ 8 ?_; rotate_left; rotate_left; rotate_left; assumption; rfl)
  | (refine Own.isL (h0 := ?_) (L := ?_) (l := ?_) ?_ 9 ?_; rotate_left; rotate_left; rotate_left; assumption; rfl))
local macro_rules | `(tactic| walk_at "bd") => `(tactic| first | assumption | omega | (simp; done) | (simp; omega) | (simp [*]; done) | (simp [*]; omega))
local macro_rules | `(tactic| walk_at "w") => `(tactic| first
  | with_reducible refine w_seq ?_
  | with_reducible refine w_asg ?_
  | with_reducible refine w_cons ?_
  | with_reducible refine w_nil ?_
  | with_reducible refine w_c ?_
  | ((with_reducible refine w_var (d := ?_) ?_ ?_); rotate_left; rfl)
  | with_reducible refine w_bin ?_
  | with_reducible refine w_call ?_
  | with_reducible refine w_if ?_
  | with_reducible refine w_B ?_
  | with_reducible refine w_unB ?_
  | with_reducible refine w_ret ?_
  | with_reducible refine w_drop ?_
  | with_reducible refine w_skip ?_
  | with_reducible refine w_eq (dAdd_int _ _ _) ?_
  | with_reducible refine w_eq (dSub_int _ _ _) ?_
  | with_reducible refine w_eq (dEq_int _ _ _) ?_
  | with_reducible refine w_eq (dEq_str _ _ _) ?_
  | with_reducible refine w_eq (dNe_strs _ _ _) ?_
  | with_reducible refine w_eq (dEq_bls _ _ _) ?_
  | with_reducible refine w_eq (dNe_bls _ _ _) ?_
  | with_reducible refine w_eq (dLt_int _ _ _) ?_
  | with_reducible refine w_eq (dLe_int _ _ _) ?_
  | with_reducible refine w_eq (dGt_int _ _ _) ?_
  | with_reducible refine w_eq (dGe_int _ _ _) ?_
  | with_reducible refine w_eq (dNe_int _ _ _) ?_
  | ((with_reducible refine w_mod ?_ ?_); (first | assumption | decide | omega))
  | ((with_reducible refine w_fdiv ?_ ?_); (first | assumption | decide | omega))
  | ((with_reducible refine w_mulS ?_ ?_); (first | decide | omega))
  | ((with_reducible refine w_addS ?_ ?_); (first | assumption | decide | omega))
  | ((with_reducible refine w_lenS ?_ ?_); (first | assumption | decide | omega))
  | ((with_reducible refine w_slS ?_ ?_); (first | assumption | decide | omega))
  | with_reducible refine w_lenTm ?_
  | with_reducible refine w_eq (dLen_tup _ _) ?_
  | with_reducible refine w_eq (dSl_tup _ _ _ _) ?_
  | with_reducible refine w_eq (dMax_ev _ _ _) ?_
  | with_reducible refine w_eq (dMin_ev _ _ _) ?_
  | with_reducible refine w_eq (dAbs_ev _ _) ?_
  | with_reducible refine w_not ?_
  | with_reducible refine w_and ?_
  | with_reducible refine w_or ?_
  | with_reducible refine br_n ?_
  | with_reducible refine br_tt ?_
  | with_reducible refine br_ff ?_
  | ((with_reducible refine br_dt ?_ ?_); (first | assumption | omega | rfl))
  | ((with_reducible refine br_df ?_ ?_); (first | assumption | omega))
  | with_reducible refine w_tup ?_
  | ((with_reducible refine w_toTup ?_ ?_); exact (by simp))
  | with_reducible refine w_lst ?_
  | with_reducible refine w_lc ?_
  | with_reducible refine w_for ?_
  | with_reducible refine w_range1 ?_
  | with_reducible refine w_range2 ?_
  | ((with_reducible refine w_dR1 ?_ ?_); (first | decide | omega))
  | ((with_reducible refine w_dR2 ?_ ?_); (first | decide | omega))
  | with_reducible refine w_iter ?_
  | with_reducible refine w_eq (iter1_tup _ _) ?_
  | with_reducible refine w_eq (iter1_str _ _) ?_
  | with_reducible refine w_sl ?_
  | with_reducible refine w_no ?_
  | with_reducible refine w_some ?_
  | with_reducible refine w_unI ?_
  | with_reducible refine w_meth ?_
  | with_reducible refine w_isi ?_
  | with_reducible refine w_zip ?_
  | with_reducible refine w_ifE ?_
  | with_reducible refine w_andV ?_
  | with_reducible refine w_orV ?_
  | with_reducible refine w_notV ?_
  | with_reducible refine w_andK ?_
  | with_reducible refine w_orK ?_
  | with_reducible refine w_notK ?_
  | with_reducible refine w_revL ?_
  | with_reducible refine w_listRg1 ?_
  | with_reducible refine w_tindex ?_
  | with_reducible refine w_setIx ?_
  | with_reducible refine w_un ?_
  | with_reducible refine w_rev1 ?_
  | with_reducible refine w_rev2 ?_
  | with_reducible refine w_chain ?_
  | with_reducible refine w_chK ?_
  | with_reducible refine w_retN ?_
  | with_reducible refine w_brk ?_
  | with_reducible refine w_cont ?_
  | with_reducible refine w_asgT ?_
  | with_reducible refine w_eq (isi_str_str _ _) ?_
  | with_reducible refine w_eq (isi_int_int _ _) ?_
  | with_reducible refine w_eq (isi_tup_tup _ _) ?_
  | with_reducible refine w_eq (isi_bool_int _ _) ?_
  | with_reducible refine w_eq (isi_str_int _ _) ?_
  | ((with_reducible refine w_lenLm (α := ?_) (f := ?_) (l := ?_) ?_ ?_); rotate_left; rotate_left; rotate_left; walk_at "gl")
  | ((with_reducible refine w_lenL (l := ?_) ?_ ?_); rotate_left; walk_at "gl")
  | ((with_reducible refine w_iterL (l := ?_) ?_ ?_); rotate_left; walk_at "gl"; dsimp only)
  | ((with_reducible refine w_tupL (l := ?_) ?_ ?_); rotate_left; walk_at "gl")
  | ((with_reducible refine w_ixT (d := ?_) ?_ ?_); rotate_left; (first | with_reducible assumption | rfl))
  | ((with_reducible refine w_ixL (l := ?_) (d := ?_) ?_ ?_ ?_); rotate_left; rotate_left; walk_at "gl"; (first | with_reducible assumption | rfl))
  | ((with_reducible refine w_addT ?_ ?_); walk_at "bd")
  | ((with_reducible refine ⟨?_, ?_⟩); (with_reducible (show isListD (.ref _) _ = true)); walk_at "il")
  | with_reducible refine w_tryK ?_
  | with_reducible refine w_raise ?_
  | with_reducible refine w_raise0 ?_
  | with_reducible refine w_isX ?_
  | ((with_reducible refine w_isXK (k := ?_) ?_ ?_); rotate_left; (first | with_reducible exact lkA | (apply lkB; decide +kernel; exact lkA) | (apply lkB; decide +kernel; apply lkB; decide +kernel; exact lkA) | (apply lkB; decide +kernel; apply lkB; decide +kernel; apply lkB; decide +kernel; exact lkA)))
  | with_reducible refine w_xf ?_
  | ((with_reducible refine w_xfK ?_ ?_ ?_); (exact List.mem_cons_self); (decide))
  | with_reducible refine w_eq (isN_xo _) ?_
  | with_reducible refine w_eq (dNeg_int _ _) ?_)
local macro_rules | `(tactic| walk_at "go") => `(tactic| (repeat (walk_at "w")); try dsimp only [List.set])
local macro_rules | `(tactic| walk_at "fn") => `(tactic| ((refine w_fun ?_); simp only [startD, List.map_cons, List.map_nil, List.reduceReplicate, Nat.reduceSub, List.cons_append, List.nil_append]; walk_at "go"))
local macro_rules | `(tactic| walk_at "lk") => `(tactic| first | with_reducible exact lkA | (apply lkB; decide +kernel; walk_at "lk"))
local macro_rules | `(tactic| walk_at "mk") => `(tactic| first | with_reducible exact mkA | (apply mkB; decide +kernel; walk_at "mk"))
local macro_rules | `(tactic| walk_at "fk") => `(tactic| first | with_reducible exact fkA | exact fkN | (apply fkB; decide +kernel; walk_at "fk"))
local macro_rules | `(tactic| walk_at "cs") => `(tactic| first | exact List.mem_cons_self | (apply List.mem_cons_of_mem; walk_at "cs"))
local macro_rules | `(tactic| walk_at "w") => `(tactic| first
  | with_reducible refine w_fld ?_
  | ((with_reducible refine w_fldK (c := ?_) (fs := ?_) (v := ?_) ?_ ?_ ?_ ?_); rotate_left; rotate_left; rotate_left; (with_reducible assumption); (walk_at "cs"); (walk_at "fk"))
  | with_reducible refine w_setFld ?_
  | with_reducible refine w_new ?_
  | with_reducible refine w_methI ?_
  | ((with_reducible refine w_methK (c := ?_) (fs := ?_) (F := ?_) ?_ ?_ ?_ ?_); rotate_left; rotate_left; rotate_left; (with_reducible assumption); (walk_at "mk"); (walk_at "fk"))
  | with_reducible refine w_isC ?_
  | ((with_reducible refine w_isCK (c := ?_) (fs := ?_) (k := ?_) ?_ ?_ ?_); rotate_left; rotate_left; rotate_left; (with_reducible assumption); (walk_at "lk"))
  | with_reducible refine w_callD ?_
  | with_reducible refine w_mDSet ?_
  | with_reducible refine w_eq (nN_non _) ?_
  | with_reducible refine w_eq (nN_int _ _) ?_
  | with_reducible refine w_eq (nN_tup _ _) ?_
  | with_reducible refine w_eq (nN_ref _ _) ?_
  | with_reducible refine w_eq (iN_non _) ?_
  | with_reducible refine w_eq (iN_int _ _) ?_
  | with_reducible refine w_eq (iN_tup _ _) ?_
  | with_reducible refine w_eq (iN_ref _ _) ?_)
theorem nm_zz61 : Nm (Str.ofString "zz") := by unfold Nm Ltr; decide +kernel
theorem wd_nm61 {x : Str} (h : Nm x) : Wd 20 x := ⟨Nat.le_trans h.2.1 (by decide), fun c hc => by have := h.2.2 c hc; unfold Ltr at this; omega⟩
theorem mc_of {n : Nat} {fs ns : List Str} {st : List Int} {sp : List (List Int)} {mk : List Int} (g : GOk n fs ns st sp mk) : Mc ns st (sp.map fun r => D.tup (r.map .int)) (sp.length : Int) :=
  ⟨g.stv, g.stl, by simp, fun r hr => by
    obtain ⟨l, hl, rfl⟩ := List.mem_map.mp hr
    obtain ⟨h1, h2⟩ := g.row l hl
    exact ⟨_, rfl, by simp [h1], fun d hd => by
      obtain ⟨z, hz, rfl⟩ := List.mem_map.mp hd
      exact ⟨z, rfl, h2 z hz⟩⟩⟩
theorem fm_of {n : Nat} {fs ns : List Str} {st : List Int} {sp : List (List Int)} {mk : List Int} (g : GOk n fs ns st sp mk) (hf : ∀ x ∈ fs, Nm x) (hfl : fs.length ≤ 20) (hn : n ≤ 8) : Fm fs mk (sp.length : Int) := by
  have h1 := g.n1
  have h2 := g.nm
  have h3 := g.mkl
  refine ⟨⟨?_, by simpa using hfl, by simp; omega, by simp; omega, ?_⟩, by rw [h3]⟩
  · exact ⟨fs, rfl, fun x hx => wd_nm61 (hf x hx)⟩
  · intro d hd
    obtain ⟨z, hz, rfl⟩ := List.mem_map.mp hd
    refine ⟨z, rfl, ?_⟩
    have := g.mkv z hz
    rw [List.length_map]
    exact this
end Mi

/-! sorted(d) of a dict whose keys are texts; list.clear. -/
namespace Mi
open PySem L2 PySem.Spec PyProof.Rows
def rSortK : List V → Hp → VK → Prop := fun xs H Q => ∃ (a : Addr) (kvs : List (Key × V)) (ys : List Str), xs = [V.ref a] ∧ H a = some (.dK kvs) ∧ kvs.map (·.1) = ys.map Sum.inr ∧ ∀ p, H p = none → Q (.ref p) (upd H p (.lst ((sortS ys).map V.str)))
/-- the keys, all of them texts -/
def strKeys : List (Key × D) → Option (List Str)
  | [] => some []
  | (.inr x, _) :: l => (strKeys l).map (x :: ·)
  | (.inl _, _) :: _ => none
def dSortK : List D → MH → R D
  | [x], h => match getK h x with
    | some l => match strKeys l with
      | some ys => .ok (.ref h.length) (h ++ [.lst ((sortS ys).map .str)])
      | none => .bad
    | none => .bad
  | _, _ => .bad
def dClear : D → List D → MH → R D
  | .ref i, [], h => match h[i]? with
    | some (.lst _) => .ok .non (h.set i (.lst []))
    | _ => .bad
  | _, _, _ => .bad
/-! the calculus -/
end Mi

/-! list.pop(0), list.insert. -/
namespace Mi
open PySem L2 PySem.Spec PyProof.Rows
def dPop0 : D → List D → MH → R D
  | .ref i, [.int 0], h => match h[i]? with
    | some (.lst (d :: l)) => .ok d (h.set i (.lst l))
    | _ => .bad
  | _, _, _ => .bad
/-- list.insert -/
def insD (l : List D) (k : Nat) (d : D) : List D := l.take k ++ d :: l.drop k
end Mi

/-! int(text). -/
namespace Mi
open PySem L2
def dIntS : List D → MH → R D
  | [.str x], h => match PySem.intText? x with
    | some n => if x.length ≤ 640 then .ok (.int n) h else .bad
    | none => .bad
  | _, _ => .bad
section
variable {g : G} {X : Cx}
end
end Mi

/-! Sets of ints and texts: set(xs) of a list, sorted of it, its length. -/
namespace Mi
open PySem L2 PySem.Spec PyProof.Rows
/-! ### what was met, each once -/
instance memK (k : Key) (L : List Key) : Decidable (k ∈ L) := decidable_of_iff ((L.any fun j => decide (j = k)) = true) (by
  rw [List.any_eq_true]
  exact ⟨fun ⟨x, h1, h2⟩ => of_decide_eq_true h2 ▸ h1, fun h => ⟨k, h, decide_eq_true rfl⟩⟩)
def onceK (l : List Key) : List Key := l.foldl (fun L k => if k ∈ L then L else L ++ [k]) []
/-! ### the set in the heap -/
def kyOf (e : Int × Value) : Key := match e.2 with
  | .int k _ => .inl k
  | .str x _ => .inr x
  | _ => .inl 0
def GdE (w : World) (e : Int × Value) : Prop := ∃ k, keyIs k e.2 = true ∧ e.1 = keyH w k
structure SetX (w : World) (h : Heap) (a : Addr) (L : List Key) (o : Obj) (es : Array (Int × Value)) (ep : Nat) (t : SetTable) : Prop where
  ob : h.get? a = some o
  ex : o.ExactSet
  da : o.data = .set es ep t
  gd : ∀ e ∈ es.toList, GdE w e
  pm : (es.toList.map kyOf).Perm L
  nd : L.Nodup
  sz : L.length < scanBound
  ft : t.fits es.size = true
  rs : Ris t.place.toList
  ld : w.params.followText "set-order" = true ∨ t.led = true
def SetL (w : World) (h : Heap) (a : Addr) (L : List Key) : Prop := ∃ o es ep t, SetX w h a L o es ep t
section
variable {P : Program} {w : World} {A : Around} {E : Value → Shared → Prop} {s : Shared} {a : Addr} {L : List Key}
theorem SetX.el {h : Heap} {o : Obj} {es : Array (Int × Value)} {ep : Nat} {t : SetTable} (R : SetX w h a L o es ep t) : ElemsOf (mixKind P w) es.toList := fun e he => by
  obtain ⟨k, h1, h2⟩ := R.gd e he
  refine ⟨⟨k, h1, h2⟩, ?_⟩
  rcases keyIs_shape h1 with ⟨j, t, rfl, q⟩ | ⟨x, t, rfl, q⟩ <;> rw [q] <;> rfl
theorem SetX.len {h : Heap} {o : Obj} {es : Array (Int × Value)} {ep : Nat} {t : SetTable} (R : SetX w h a L o es ep t) : es.size = L.length := by
  rw [← R.pm.length_eq, List.length_map, Array.length_toList]
theorem SetL.keep {h h' : Heap} (R : SetL w h a L) (k : ∀ o, h.get? a = some o → h'.get? a = some o) : SetL w h' a L := by
  obtain ⟨o, es, ep, t, r⟩ := R
  exact ⟨o, es, ep, t, { r with ob := k o r.ob }⟩
end
/-! ### set(xs) -/
section
variable {prog : Program} {w : World} {A : Around} {R : Result → Shared → Prop} {I : Addr} {fp wr : List Addr} {G : Array GenState → Array GenState → Prop} {n : Nat} {Pv : Nat → Value → Prop} {St : Nat → Shared → Prop}
end
def emptyS (w : World) : Obj := { cls := .type "set", dict := none, data := .set #[] 0 (.fresh 0 0 (!w.params.followText "set-order")) }
section
variable {P : Program} {w : World} {A : Around} {E : Value → Shared → Prop} {s : Shared}
set_option maxHeartbeats 3200000 in
end
/-! ### the mirror -/
def keysD : List D → Option (List Key)
  | [] => some []
  | d :: l => match keyD d, keysD l with
    | some k, some r => some (k :: r)
    | _, _ => none
def mLenSet (a : ME) : ME := fun ρ h => (a ρ h).bind fun x h1 => match x with
  | .ref i => match (getL h1 i).bind keysD with
    | some ks => if ks.length < 4000 then .ok (.int (onceK ks).length) h1 else .bad
    | none => .bad
  | _ => .bad
def mSortSet (a : ME) : ME := fun ρ h => (a ρ h).bind fun x h1 => match x with
  | .ref i => match (getL h1 i).bind allStr with
    | some ys => if ys.length < 4000 then .ok (.ref h1.length) (h1 ++ [.lst ((sortS (ys.eraseDups)).map .str)]) else .bad
    | none => .bad
  | _ => .bad
section
variable {g : G} {H : Hp} {μ : List Addr}
end
section
variable {X : Cx} {g : G} {W : WX} {ma : ME} {a : Expr} {p p2 q pos : Pos}
end
/-! ### as calls -/
def dLenSet : List D → MH → R D
  | [x], h1 => match x with
    | .ref i => match (getL h1 i).bind keysD with
      | some ks => if ks.length < 4000 then .ok (.int (onceK ks).length) h1 else .bad
      | none => .bad
    | _ => .bad
  | _, _ => .bad
def dSortSet : List D → MH → R D
  | [x], h1 => match x with
    | .ref i => match (getL h1 i).bind allStr with
      | some ys => if ys.length < 4000 then .ok (.ref h1.length) (h1 ++ [.lst ((sortS (ys.eraseDups)).map .str)]) else .bad
      | none => .bad
    | _ => .bad
  | _, _ => .bad
section
variable {X : Cx} {g : G} {W : WX} {ma : ME} {a : Expr} {p p2 q pos : Pos}
end
end Mi

/-! list(d.values()). -/
namespace Mi
open PySem L2 PySem.Spec PyProof.Rows
def mVals (a : ME) : ME := fun ρ h => (a ρ h).bind fun x h1 => match getK h1 x with
  | some l => .ok (.ref h1.length) (h1 ++ [.lst (l.map (·.2))])
  | none => .bad
section
variable {X : Cx} {g : G} {W : WX} {ma : ME} {a : Expr} {p apos q pos : Pos}
end
def dVals : List D → MH → R D
  | [x], h1 => match getK h1 x with
    | some l => .ok (.ref h1.length) (h1 ++ [.lst (l.map (·.2))])
    | none => .bad
  | _, _ => .bad
section
variable {X : Cx} {g : G} {W : WX} {ma : ME} {a : Expr} {p apos q pos : Pos}
end
/-! ### l.index(x), items of any depth -/
def dLIdx : D → List D → MH → R D
  | .ref i, [y], h => match pyOf 60 h y, pyOf 60 h (.ref i) with
    | some d, some (.list es) => if SeqAt.shaped (.list es) = true ∧ SeqAt.shaped d = true then match es.findIdx? fun z => PyData.eqv z d with
      | some j => .ok (.int j) h
      | none => .bad else .bad
    | _, _ => .bad
  | _, _, _ => .bad
end Mi

/-! Dicts whose keys are tuples of whole numbers, texts, None, truths and such tuples: in, not in, d[k], d[k] = v, dict(pairs). -/
namespace Mi
open PySem L2 PySem.Spec PyProof.Rows
/-! ### keys -/
mutual
def NkV (K : PySem.W.Frag) (H : Hp) : NestedKey → V → Prop
  | .none, v => v = .non
  | .num i, v => v = .int i ∨ ∃ b, v = .bl b ∧ i = (if b = true then 1 else 0)
  | .text x, v => v = .str x
  | .tup ks, v => ∃ p xs, v = .ref p ∧ SqT K H p xs ∧ NkVs K H ks xs
def NkVs (K : PySem.W.Frag) (H : Hp) : List NestedKey → List V → Prop
  | [], vs => vs = []
  | k :: ks, vs => ∃ v r, vs = v :: r ∧ NkV K H k v ∧ NkVs K H ks r
end
mutual
theorem nkv_of {g : G} {H : Hp} {μ : List Addr} : ∀ (d : D) (v : V) (k : NestedKey), VR g H μ v d → nkD d = some k → NkV g.K H k v
  | .non, v, k, a, e => by cases a; cases e; exact rfl
  | .bl b, v, k, a, e => by cases a; cases e; exact .inr ⟨b, rfl, rfl⟩
  | .int i, v, k, a, e => by cases a; cases e; exact .inl rfl
  | .str x, v, k, a, e => by cases a; cases e; exact rfl
  | .tup l, v, k, a, e => by
    cases a with
    | tup hs vs =>
      simp only [nkD, Option.map_eq_some_iff] at e
      obtain ⟨ks, e, rfl⟩ := e
      exact ⟨_, _, rfl, hs.sq, nkvs_of l _ ks vs e⟩
  | .ref _, v, k, a, e => by cases e
  | .xo _ _ _, v, k, a, e => by cases e
theorem nkvs_of {g : G} {H : Hp} {μ : List Addr} : ∀ (l : List D) (vs : List V) (ks : List NestedKey), VRs g H μ vs l → nkDs l = some ks → NkVs g.K H ks vs
  | [], vs, ks, a, e => by cases a; cases e; exact rfl
  | d :: l, vs, ks, a, e => by
    cases a with
    | cons a b =>
      unfold nkDs at e
      split at e
      · rename_i k r e1 e2
        cases e
        exact ⟨_, _, rfl, nkv_of d _ k a e1, nkvs_of l _ r b e2⟩
      · cases e
end
section
variable {X : Cx} {pins : List (Addr × Obj)} {σ : L2.St} {H : Hp} {s : Shared}
mutual
theorem nis_of (I : L2.Inv X pins σ H s) : ∀ (k : NestedKey) (v : V) (u : Value), NkV X.K H k v → RelV v u → NestedIs s.heap k u
  | .none, v, u, n, r => by
    obtain rfl : v = .non := n
    cases r
    exact .none
  | .num i, v, u, n, r => by
    rcases n with rfl | ⟨b, rfl, e⟩
    · obtain ⟨t, rfl⟩ := r
      exact .int i t
    · cases r
      exact .bool e
  | .text x, v, u, n, r => by
    obtain rfl : v = .str x := n
    obtain ⟨t, rfl⟩ := r
    exact .text x t
  | .tup ks, v, u, n, r => by
    obtain ⟨p, xs, rfl, hs, hn⟩ := n
    cases r
    obtain ⟨its, rv, ⟨o, ho, hc, m, hd⟩, _⟩ := I.tuple hs
    exact .tup ho hc hd (by simpa using nisAll_of I ks xs its hn rv)
theorem nisAll_of (I : L2.Inv X pins σ H s) : ∀ (ks : List NestedKey) (vs : List V) (us : List Value), NkVs X.K H ks vs → Vals vs us → NestedAll s.heap ks us
  | [], vs, us, n, r => by
    obtain rfl : vs = [] := n
    cases r
    exact .nil
  | k :: ks, vs, us, n, r => by
    obtain ⟨v, q, rfl, h1, h2⟩ := n
    cases r with
    | cons a b => exact .cons (nis_of I k v _ h1 a) (nisAll_of I ks q _ h2 b)
end
end
/-! ### the dict in the heap -/
abbrev NE := List (NestedKey × Addr × Value)
def NKeys (K : PySem.W.Frag) (H : Hp) (xs : NE) : Prop := ∀ e ∈ xs, NkV K H e.1 (.ref e.2.1) ∧ e.1.depth ≤ 8
/-- a dict with such keys, or an empty one -/
def NDct (w : World) (H : Hp) (p : Addr) (xs : NE) : Prop := H p = some (DN w p xs) ∨ (H p = some (.dK []) ∧ xs = [])
section
variable {X : Cx} {pins : List (Addr × Obj)} {σ : L2.St} {H : Hp} {s : Shared} {p : Addr} {xs : NE}
theorem ndct_at (I : L2.Inv X pins σ H s) (h : NDct X.w H p xs) (hk : NKeys X.K H xs) : (p == sysModules) = false ∧ xs.length ≤ sizeLine ∧ s.heap.DictOfH (nestedKind X.prog X.w) p xs := by
  have keys : ∀ x ∈ xs, (nestedKind X.prog X.w).is s.heap x.1 x.2.1 := fun x hx => ⟨nis_of I x.1 (.ref x.2.1) (.ref x.2.1) (hk x hx).1 rfl, (hk x hx).2⟩
  rcases h with h | ⟨h, rfl⟩
  · obtain ⟨⟨z, hd, o, es, ep, h1, h2, h3, h4, h5⟩, _⟩ := I.hok p _ h
    exact ⟨hd, z, o, es, ep, h1, h2, h3, h4, keys, h5⟩
  · obtain ⟨z, hd, vs, rel, o, es, ep, g1, g2, g3, g4, g5, g6⟩ := dk_of I.hok h
    have hv : vs = [] := by
      have := rel.length
      simp at this
      exact List.length_eq_zero_iff.mp this.symm
    subst hv
    have ge : es.toList = [] := by
      cases q : es.toList with
      | nil => rfl
      | cons a b => rw [q] at g5; cases g5
    exact ⟨hd, Nat.zero_le _, o, es, ep, g1, g2, g3, by rw [ge]; rfl, keys, List.nodup_nil⟩
end
def rNIn (K : PySem.W.Frag) (w : World) : R2 := fun x y H Q => ∃ a p k xs, x = .ref a ∧ y = .ref p ∧ NkV K H k (.ref a) ∧ k.depth ≤ 8 ∧ NDct w H p xs ∧ NKeys K H xs ∧ Q (.bl (atKey xs k).isSome) H
def rNNotIn (K : PySem.W.Frag) (w : World) : R2 := fun x y H Q => ∃ a p k xs, x = .ref a ∧ y = .ref p ∧ NkV K H k (.ref a) ∧ k.depth ≤ 8 ∧ NDct w H p xs ∧ NKeys K H xs ∧ Q (.bl (!(atKey xs k).isSome)) H
def rNIx (K : PySem.W.Frag) (w : World) : R2 := fun x y H Q => ∃ a p k xs c u v, y = .ref a ∧ x = .ref p ∧ NkV K H k (.ref a) ∧ k.depth ≤ 8 ∧ NDct w H p xs ∧ NKeys K H xs ∧ atKey xs k = some (c, u) ∧ RelV v u ∧ Q v H
def rNSet (K : PySem.W.Frag) (w : World) : V → V → V → Hp → (Hp → Prop) → Prop := fun o i v H Q => ∃ a p k xs, o = .ref p ∧ i = .ref a ∧ NkV K H k (.ref a) ∧ k.depth ≤ 8 ∧ NDct w H p xs ∧ NKeys K H xs ∧ xs.length < sizeLine ∧
  ∀ u, RelV v u → Q (upd H p (DN w p (storedH xs k a u)))
theorem stored_len (xs : NE) (k : NestedKey) (a : Addr) (u : Value) : (storedH xs k a u).length ≤ xs.length + 1 := PySem.storedH_length xs k a u
section
variable {X : Cx}
theorem ix_n (hu : X.A.units + 65 < cLine) : IxR X (rNIx X.K X.w) := by
  intro value slice pins s σ H x y v u Q I rx ry h hs
  obtain ⟨a, p, k, xs, c, u', r, ey, ex, hk, hd, hp, hx, hat, hr, q⟩ := h
  subst ex ey
  obtain rfl : v = Value.ref p := rx
  obtain rfl : u = Value.ref a := ry
  obtain ⟨h1, h2, h3⟩ := ndct_at I hp hx
  have e : ((nestedKind X.prog X.w).room X.A.in1) := by
    show X.A.in1.units + 8 < cLine
    have : X.A.in1.units ≤ X.A.units + 1 := by first | exact Nat.le_refl _ | decide | simp [Around.in1]
    omega
  exact tail_any h3.typeIs slot_dict_getitem.lookup (wpAny_getItem_heap e ⟨nis_of I k _ _ hk rfl, hd⟩ h3 hat ⟨r, H, I.tok _, hr, q⟩) hs
end
/-! ### the mirror -/
def nkT (d : D) : Option NestedKey := match d with
  | .tup l => match nkD (.tup l) with
    | some k => if k.depth ≤ 8 then some k else none
    | none => none
  | _ => none
def getN (h : MH) (x : D) : Option (List (NestedKey × D)) := match x with
  | .ref i => match h[i]? with
    | some (.dN l) => some l
    | some (.dK []) => some []
    | _ => none
  | _ => none
def valN (kvs : List (NestedKey × D)) (k : NestedKey) : Option D := (kvs.find? fun x => decide (x.1 = k)).map (·.2)
def putN (kvs : List (NestedKey × D)) (k : NestedKey) (d : D) : List (NestedKey × D) :=
  if (valN kvs k).isSome = true then kvs.map (fun x => if x.1 = k then (x.1, d) else x) else kvs ++ [(k, d)]
section
variable {g : G} {H : Hp} {μ : List Addr} {h : MH}
theorem nkT_of {v : V} {d : D} {k : NestedKey} (vx : VR g H μ v d) (e : nkT d = some k) : ∃ a, v = .ref a ∧ NkV g.K H k (.ref a) ∧ k.depth ≤ 8 ∧ nkD d = some k := by
  unfold nkT at e
  split at e
  · rename_i l
    split at e
    · rename_i k' e1
      split at e
      · rename_i hd
        cases e
        have n := nkv_of _ _ _ vx e1
        cases vx with
        | tup hs vs => exact ⟨_, rfl, n, hd, e1⟩
      · cases e
    · cases e
  · cases e
theorem NR.keys : ∀ {xs : NE} {kvs : List (NestedKey × D)}, NR g H μ xs kvs → NKeys g.K H xs
  | _, _, .nil => fun e he => by simp at he
  | _, _, .cons a e l r v b => fun x hx => by
    rcases List.mem_cons.mp hx with rfl | hx
    · exact ⟨nkv_of _ _ _ a e, l⟩
    · exact NR.keys b x hx
theorem getN_of {x : V} {d : D} {l : List (NestedKey × D)} (hr : HR g H μ h) (vx : VR g H μ x d) (e : getN h d = some l) : ∃ i p xs, d = .ref i ∧ x = .ref p ∧ μ[i]? = some p ∧ NDct g.w H p xs ∧ NR g H μ xs l ∧ (h[i]? = some (.dN l) ∨ (h[i]? = some (.dK []) ∧ l = [])) := by
  cases vx with
  | @ref p i hi =>
    simp only [getN] at e
    split at e
    · rename_i l' q
      cases e
      obtain ⟨xs, h1, h2⟩ := hr.ob _ _ _ hi q
      exact ⟨i, p, xs, rfl, rfl, hi, .inl h1, h2, .inl q⟩
    · rename_i q
      cases e
      obtain ⟨kv, h1, h2⟩ := hr.ob _ _ _ hi q
      cases h2
      exact ⟨i, p, [], rfl, rfl, hi, .inr ⟨h1, rfl⟩, .nil, .inr ⟨q, rfl⟩⟩
    · cases e
  | _ => cases e
theorem NR.val (k : NestedKey) : ∀ {xs : NE} {kvs : List (NestedKey × D)}, NR g H μ xs kvs → (atKey xs k = none ∧ valN kvs k = none) ∨ ∃ a u v d, atKey xs k = some (a, u) ∧ valN kvs k = some d ∧ RelV v u ∧ VR g H μ v d
  | _, _, .nil => .inl ⟨rfl, rfl⟩
  | _, _, @NR.cons _ _ _ k' a u e d v xs ds va ek l r vd b => by
    by_cases c : k' = k
    · refine .inr ⟨a, u, v, d, ?_, ?_, r, vd⟩
      · simp [atKey, List.find?_cons, c]
      · simp [valN, List.find?_cons, c]
    · have e1 : atKey ((k', a, u) :: xs) k = atKey xs k := by simp [atKey, List.find?_cons, c]
      have e2 : valN ((k', d) :: ds) k = valN ds k := by simp [valN, List.find?_cons, c]
      rw [e1, e2]
      exact NR.val k b
theorem NR.some_eq (k : NestedKey) {xs : NE} {kvs : List (NestedKey × D)} (r : NR g H μ xs kvs) : (atKey xs k).isSome = (valN kvs k).isSome := by
  rcases r.val k with ⟨e1, e2⟩ | ⟨a, u, v, d, e1, e2, _⟩ <;> rw [e1, e2] <;> rfl
theorem NR.repl (k : NestedKey) {u : Value} {v : V} {d : D} (ru : RelV v u) (vd : VR g H μ v d) : ∀ {xs : NE} {kvs : List (NestedKey × D)}, NR g H μ xs kvs → NR g H μ (xs.map (putAt k u)) (kvs.map fun x => if x.1 = k then (x.1, d) else x)
  | _, _, .nil => .nil
  | _, _, @NR.cons _ _ _ k' a u' e d' v' xs ds va ek l r vd' b => by
    rw [List.map_cons, List.map_cons]
    by_cases c : k' = k
    · simp only [putAt, c, if_true]
      exact .cons va (c ▸ ek) (c ▸ l) ru vd (NR.repl k ru vd b)
    · simp only [putAt, c, if_false]
      exact .cons va ek l r vd' (NR.repl k ru vd b)
theorem NR.snoc {k : NestedKey} {a : Addr} {u : Value} {e d : D} {v : V} (va : VR g H μ (.ref a) e) (ek : nkD e = some k) (l : k.depth ≤ 8) (ru : RelV v u) (vd : VR g H μ v d) : ∀ {xs : NE} {kvs : List (NestedKey × D)}, NR g H μ xs kvs → NR g H μ (xs ++ [(k, a, u)]) (kvs ++ [(k, d)])
  | _, _, .nil => .cons va ek l ru vd .nil
  | _, _, .cons a1 e1 l1 r1 v1 b => .cons a1 e1 l1 r1 v1 (NR.snoc va ek l ru vd b)
theorem NR.put {k : NestedKey} {a : Addr} {u : Value} {e d : D} {v : V} (va : VR g H μ (.ref a) e) (ek : nkD e = some k) (l : k.depth ≤ 8) (ru : RelV v u) (vd : VR g H μ v d) {xs : NE} {kvs : List (NestedKey × D)} (r : NR g H μ xs kvs) : NR g H μ (storedH xs k a u) (putN kvs k d) := by
  unfold storedH putN
  rw [r.some_eq k]
  split
  · exact r.repl k ru vd
  · exact r.snoc va ek l ru vd
theorem NR.len : ∀ {xs : NE} {kvs : List (NestedKey × D)}, NR g H μ xs kvs → xs.length = kvs.length
  | _, _, .nil => rfl
  | _, _, .cons _ _ _ _ _ b => by rw [List.length_cons, List.length_cons, NR.len b]
end
def dNIn (a b : D) (h : MH) : R D := match nkT a, getN h b with
  | some k, some l => .ok (.bl (valN l k).isSome) h
  | _, _ => .bad
def dNNotIn (a b : D) (h : MH) : R D := match nkT a, getN h b with
  | some k, some l => .ok (.bl (!(valN l k).isSome)) h
  | _, _ => .bad
def dNIx (a b : D) (h : MH) : R D := match getN h a, nkT b with
  | some l, some k => match valN l k with
    | some v => .ok v h
    | none => .bad
  | _, _ => .bad
def dNSet (x y d : D) (h : MH) : R Unit := match x, nkT y, getN h x with
  | .ref i, some k, some l => if l.length < 1000000 then .ok () (h.set i (.dN (putN l k d))) else .bad
  | _, _, _ => .bad
/-- any key: an int, a text, or a tuple of such -/
def dAIn (a b : D) (h : MH) : R D := match keyD a with
  | some _ => dDIn a b h
  | none => dNIn a b h
def dANotIn (a b : D) (h : MH) : R D := match keyD a with
  | some _ => dDNotIn a b h
  | none => dNNotIn a b h
def dAIx (a b : D) (h : MH) : R D := match keyD b with
  | some _ => dDIx a b h
  | none => dNIx a b h
def dASet (x y d : D) (h : MH) : R Unit := match keyD y with
  | some _ => dDSet x y d h
  | none => dNSet x y d h
def mASet (o i e : ME) : MS := fun ρ h => (e ρ h).out ρ fun d h1 => (o ρ h1).out ρ fun x h2 => (i ρ h2).out ρ fun y h3 => (dASet x y d h3).out ρ fun _ h4 => .nx ρ h4
def rAIn (K : PySem.W.Frag) (w : World) : R2 := fun x y H Q => rDIn x y H Q ∨ rNIn K w x y H Q
def rANotIn (K : PySem.W.Frag) (w : World) : R2 := fun x y H Q => rDNotIn x y H Q ∨ rNNotIn K w x y H Q
def rDIxK : R2 := fun x y H Q => ∃ a k kvs v, x = .ref a ∧ y = kV k ∧ H a = some (.dK kvs) ∧ valV kvs k = some v ∧ Q v H
def rAIx (K : PySem.W.Frag) (w : World) : R2 := fun x y H Q => rDIxK x y H Q ∨ rNIx K w x y H Q
section
variable {X : Cx} {g : G} {W : WX}
theorem ix_dK (hu : X.A.units + 65 < cLine) : IxR X rDIxK := by
  intro value slice pins s σ H x y v u Q I rx ry h hs
  obtain ⟨a, k, kvs, r, ex, ey, ha, hv, q⟩ := h
  subst ex ey
  obtain rfl : v = Value.ref a := rx
  obtain ⟨z, hd, vs, rel, dd⟩ := dk_of I.hok ha
  refine tail_any dd.typeIs slot_dict_getitem.lookup ?_ hs
  exact d_getItem (v := r) (by omega) I (by have := DGet.k (k := k) ha; rw [hv] at this; exact this) ry fun w' s' I' r' => ⟨r, H, I', r', q⟩
theorem ix_a (hu : X.A.units + 65 < cLine) : IxR X (rAIx X.K X.w) := (ix_dK hu).or (ix_n hu)
theorem s2_nIx : S2 g (rNIx g.K g.w) dNIx := by
  intro H μ h x y a b Q W hr vx vy bk
  unfold dNIx at bk
  split at bk
  · rename_i l k e1 e2
    obtain ⟨c, rfl, n1, n2, n3⟩ := nkT_of vy e2
    obtain ⟨i, p, xs, rfl, rfl, hi, hp, nr, _⟩ := getN_of hr vx e1
    split at bk
    · rename_i v ev
      rcases nr.val k with ⟨_, z⟩ | ⟨a', u', v', d', z1, z2, z3, z4⟩
      · rw [ev] at z; cases z
      · rw [ev] at z2
        cases z2
        exact ⟨c, p, k, xs, a', u', v', rfl, rfl, n1, n2, hp, nr.keys, z1, z3, bk.val hr z4⟩
    · exact bk.elim
  · exact bk.elim
theorem s2_aIx : S2 g (rAIx g.K g.w) dAIx := by
  intro H μ h x y a b Q W hr vx vy bk
  unfold dAIx at bk
  split at bk
  · rename_i k0 ek0
    refine .inl ?_
    unfold dDIx at bk
    split at bk
    · rename_i l k e1 e2
      obtain ⟨i, p, kv, rfl, rfl, hi, q, hp, kr⟩ := getK_of hr vx e1
      split at bk
      · rename_i v ev
        rcases kr.val k with ⟨_, z⟩ | ⟨v', d, h1, h2, h3⟩
        · rw [ev] at z; cases z
        · rw [ev] at h2
          cases h2
          exact ⟨p, k, kv, v', rfl, keyD_of vy e2, hp, h1, bk.val hr h3⟩
      · exact bk.elim
    · exact bk.elim
  · exact .inr (s2_nIx H μ h x y a b Q W hr vx vy bk)
variable {o i e : Expr} {mo mi me : ME} {pos p2 : Pos}
theorem se_aix (hu : X.A.units + 65 < cLine) (ho : PE X o (tE (gOf X.w X.K) W mo)) (hi : PE X i (tE (gOf X.w X.K) W mi)) (hp : PlainIx i) : PE X (.Subscript o i pos) (tE (gOf X.w X.K) W (mBin dAIx mo mi)) := se_ix (ix_a hu) s2_aIx ho hi hp
end
end Mi

/-! dict(xs) of a list of pairs whose firsts are tuples. -/
namespace Mi
open PySem L2 PySem.Spec PyProof.Rows
/-- a pair as it stands: its address, the key's, the key, the value -/
structure PR4 where
  t : Addr
  a : Addr
  k : NestedKey
  v : V
abbrev PRU := List (PR4 × Value)
def neOf (T : PRU) : NE := T.map fun q => (q.1.k, q.1.a, q.2)
def rDictP (K : PySem.W.Frag) (w : World) : List V → Hp → VK → Prop := fun xs H Q => ∃ (l : Addr) (T : List PR4), xs = [V.ref l] ∧ SqL K H l (T.map fun r => V.ref r.t) ∧ (∀ r ∈ T, SqT K H r.t [V.ref r.a, r.v] ∧ NkV K H r.k (.ref r.a) ∧ r.k.depth ≤ 8) ∧ T.length < sizeLine ∧
  ∀ p (TU : PRU), H p = none → TU.map (·.1) = T → (∀ x ∈ TU, RelV x.1.v x.2) → Q (.ref p) (upd H p (DN w p (PySem.storedAllH [] (neOf TU))))
theorem storedAll_len (xs ps : NE) : (PySem.storedAllH xs ps).length ≤ xs.length + ps.length := by
  induction ps generalizing xs with
  | nil => exact Nat.le_refl _
  | cons p ps ih =>
    show (PySem.storedAllH (storedH xs p.1 p.2.1 p.2.2) ps).length ≤ _
    have h1 := ih (storedH xs p.1 p.2.1 p.2.2)
    have h2 := stored_len xs p.1 p.2.1 p.2.2
    rw [List.length_cons]
    omega
theorem refs_of {as : List Addr} : ∀ {its : List Value}, Vals (as.map V.ref) its → its = as.map Value.ref := by
  induction as with
  | nil => intro its h; cases h; rfl
  | cons a as ih =>
    intro its h
    cases h with
    | cons x y =>
      cases x
      rw [List.map_cons, ih y]
section
variable {X : Cx}
theorem cr_dictP (hc : X.calm = true) (hu : X.A.units + 65 < cLine) : CallR X (.type "dict") (rDictP X.K X.w) := by
  intro pins s σ H xs us Q I rr hh
  obtain ⟨l, T, rfl, hl, hT, hz, q⟩ := hh
  rw [Vals.ref1 rr]
  obtain ⟨its, rv, pl, _⟩ := I.list hl
  have eits : its = T.map fun r => Value.ref r.t := by
    have : Vals ((T.map PR4.t).map V.ref) its := by rw [List.map_map]; exact rv
    have := refs_of this
    rw [List.map_map] at this
    exact this
  -- each pair's two items
  have each : ∀ r ∈ T, ∃ u, RelV r.v u ∧ s.heap.IsTuple r.t #[.ref r.a, u] := fun r hr => by
    obtain ⟨i2, rv2, ⟨o, ho, hcl, n, hd⟩, _⟩ := I.tuple (hT r hr).1
    cases rv2 with
    | cons x y =>
      cases y with
      | cons x2 y2 =>
        cases y2
        cases x
        exact ⟨_, x2, o, ho, hcl, n, hd⟩
  have exu : ∀ L : List PR4, (∀ r ∈ L, ∃ u, RelV r.v u ∧ s.heap.IsTuple r.t #[.ref r.a, u]) → ∃ TU : PRU, TU.map (·.1) = L ∧ ∀ x ∈ TU, RelV x.1.v x.2 ∧ s.heap.IsTuple x.1.t #[.ref x.1.a, x.2] := by
    intro L
    induction L with
    | nil => intro _; exact ⟨[], rfl, fun x hx => by simp at hx⟩
    | cons r L ih =>
      intro h
      obtain ⟨u, h1⟩ := h r List.mem_cons_self
      obtain ⟨TU, h2, h3⟩ := ih fun x hx => h x (List.mem_cons_of_mem _ hx)
      refine ⟨(r, u) :: TU, by simp [h2], fun x hx => ?_⟩
      rcases List.mem_cons.mp hx with rfl | hx
      · exact h1
      · exact h3 x hx
  obtain ⟨TU, e1, e2⟩ := exu T each
  have tl : TU.length = T.length := by rw [← e1, List.length_map]
  have P := PySem.PairArg.list (prog := X.prog) (w := X.w) l its.toArray (fun j => ((TU[j]?).map (·.1.t)).getD 0) (TU.map fun q => (Value.ref q.1.a, q.2))
  obtain ⟨⟨cls, dd, dat, sls⟩, n, ho, hcl, hdn, hdt⟩ := pl
  simp only at hcl hdn hdt
  have ok : PySem.PlainSeq "list" s.heap l its.toArray ∧ PySem.PairItems s.heap its.toArray (fun j => ((TU[j]?).map (·.1.t)).getD 0) (TU.map fun q => (Value.ref q.1.a, q.2)) := by
    refine ⟨⟨_, n, ho, hcl, hdn, hdt⟩, by rw [eits, List.size_toArray, List.length_map, List.length_map, tl], fun j k v e => ?_⟩
    rw [List.getElem?_map, Option.map_eq_some_iff] at e
    obtain ⟨x, ex, e⟩ := e
    cases e
    have hx := e2 x (List.mem_of_getElem? ex)
    refine ⟨?_, ?_⟩
    · show its.toArray[j]? = some (Value.ref (((TU[j]?).map (·.1.t)).getD 0))
      rw [ex, List.getElem?_toArray, eits, ← e1, List.map_map, List.getElem?_map, ex]
      rfl
    · show PySem.PairAt s.heap (((TU[j]?).map (·.1.t)).getD 0) _ _
      rw [ex]
      exact .inl hx.2
  have keys : ∀ x ∈ neOf TU, (nestedKind X.prog X.w).is s.heap x.1 x.2.1 := fun x hx => by
    obtain ⟨y, hy, rfl⟩ := List.mem_map.mp hx
    have hm : y.1 ∈ T := by rw [← e1]; exact List.mem_map.mpr ⟨y, hy, rfl⟩
    exact ⟨nis_of I y.1.k (.ref y.1.a) (.ref y.1.a) (hT _ hm).2.1 rfl, (hT _ hm).2.2⟩
  have room : (nestedKind X.prog X.w).room X.A.in1.in1 := by
    show X.A.in1.in1.units + 8 < cLine
    have : X.A.in1.in1.units ≤ X.A.units + 2 := by first | exact Nat.le_refl _ | decide | simp [Around.in1]
    omega
  have hn : H s.heap.objs.size = none := I.hok.fresh (Nat.le_refl _)
  refine PySem.call_dict_pairsH (knd := nestedKind X.prog X.w) (ps := neOf TU) P (I.ok.hd hc) room ok ⟨?_, fun i key v e => ?_⟩ (fun h' hk x hx => ?_) ?_ fun h' tk dd' hk => ?_
  · unfold neOf; rw [List.length_map, List.length_map]
  · have e : (TU.map fun q => (Value.ref q.1.a, q.2))[i]? = some (key, v) := e
    rw [List.getElem?_map, Option.map_eq_some_iff] at e
    obtain ⟨x, ex, e⟩ := e
    cases e
    exact ⟨x.1.k, x.1.a, by unfold neOf; rw [List.getElem?_map, ex]; rfl, rfl⟩
  · obtain ⟨k1, k2⟩ := keys x hx
    exact ⟨NestedIs.at (fun b o vs m hb _ => hk b o (Nat.ne_of_lt (Heap.lt_size hb)) (by simp) hb) x.1 _ k1, k2⟩
  · rw [List.length_map, tl]; exact Nat.le_of_lt hz
  · obtain ⟨o, es, ep, h1, h2, h3, h4, h5, h6⟩ := dd'
    have hd : (s.heap.objs.size == sysModules) = false := by
      have := I.big
      exact beq_false_of_ne (Nat.ne_of_gt this)
    have hlen : (PySem.storedAllH [] (neOf TU)).length ≤ sizeLine := by
      have := storedAll_len [] (neOf TU)
      have h9 : (neOf TU).length = T.length := by unfold neOf; rw [List.length_map, tl]
      rw [h9] at this
      simp at this
      omega
    refine ⟨.ref _, upd H _ (DN X.w _ (PySem.storedAllH [] (neOf TU))), ?_, rfl, q _ TU hn e1 fun x hx => (e2 x hx).1⟩
    refine I.laid (t' := tk) (fun b u e => hk b u (by simp) e) (Nat.le_refl _) ⟨⟨hlen, hd, o, es, ep, h1, h2, h3, h4, h6⟩, ⟨o, h1⟩, fun a b ha hb => ?_⟩
    obtain ⟨z, d, o', es', ep', q1, q2⟩ := ha
    exact ⟨z, d, o', es', ep', hb _ q1, q2⟩
end
/-! ### the mirror -/
def pairsN : List D → Option (List (NestedKey × D))
  | [] => some []
  | .tup [kd, vd] :: l => match nkT kd, pairsN l with
    | some k, some r => some ((k, vd) :: r)
    | _, _ => none
  | _ :: _ => none
def foldN (acc : List (NestedKey × D)) (l : List (NestedKey × D)) : List (NestedKey × D) := l.foldl (fun a p => putN a p.1 p.2) acc
def dDictP : List D → MH → R D
  | [.ref i], h => match (getL h i).bind pairsN with
    | some l => if l.length < 1000000 then .ok (.ref h.length) (h ++ [.dN (foldN [] l)]) else .bad
    | none => .bad
  | _, _ => .bad
inductive PRR (g : G) (H : Hp) (μ : List Addr) : List PR4 → List (NestedKey × D) → Prop
  | nil : PRR g H μ [] []
  | cons {r : PR4} {e d : D} {T : List PR4} {l : List (NestedKey × D)} : VR g H μ (.ref r.a) e → nkD e = some r.k → r.k.depth ≤ 8 → VR g H μ r.v d → PRR g H μ T l → PRR g H μ (r :: T) ((r.k, d) :: l)
section
variable {g : G} {H H1 : Hp} {μ μ1 : List Addr}
theorem PRR.mono (m : Mon g H H1 μ μ1) : ∀ {T : List PR4} {l : List (NestedKey × D)}, PRR g H μ T l → PRR g H1 μ1 T l
  | _, _, .nil => .nil
  | _, _, .cons a b c d e => .cons (a.mono m) b c (d.mono m) (PRR.mono m e)
theorem PRR.len : ∀ {T : List PR4} {l : List (NestedKey × D)}, PRR g H μ T l → T.length = l.length
  | _, _, .nil => rfl
  | _, _, .cons _ _ _ _ e => by rw [List.length_cons, List.length_cons, PRR.len e]
theorem NR.fold : ∀ {TU : PRU} {l : List (NestedKey × D)} {xs : NE} {kvs : List (NestedKey × D)}, NR g H μ xs kvs → PRR g H μ (TU.map (·.1)) l → (∀ x ∈ TU, RelV x.1.v x.2) → NR g H μ (PySem.storedAllH xs (neOf TU)) (foldN kvs l)
  | [], l, xs, kvs, n, p, _ => by
    cases p
    exact n
  | x :: TU, l, xs, kvs, n, p, h => by
    rw [List.map_cons] at p
    cases p with
    | cons a b c d e =>
      show NR g H μ (PySem.storedAllH (storedH xs x.1.k x.1.a x.2) (neOf TU)) (foldN (putN kvs x.1.k _) _)
      exact NR.fold (n.put a b c (h x List.mem_cons_self) d) e fun y hy => h y (List.mem_cons_of_mem _ hy)
theorem pairs_of : ∀ {vs : List V} {ds : List D} {l : List (NestedKey × D)}, VRs g H μ vs ds → pairsN ds = some l → ∃ T : List PR4, vs = T.map (fun r => V.ref r.t) ∧ (∀ r ∈ T, SqT g.K H r.t [V.ref r.a, r.v] ∧ NkV g.K H r.k (.ref r.a) ∧ r.k.depth ≤ 8) ∧ PRR g H μ T l
  | _, _, l, .nil, e => by
    cases e
    exact ⟨[], rfl, fun r hr => by simp at hr, .nil⟩
  | _, _, l, @VRs.cons _ _ _ v d vs ds a b, e => by
    unfold pairsN at e
    split at e
    · rename_i q; cases q
    · rename_i kd vd l' q
      cases q
      split at e
      · rename_i k r e1 e2
        cases e
        obtain ⟨T, h1, h2, h3⟩ := pairs_of b e2
        cases a with
        | @tup p xs _ hs hv =>
          cases hv with
          | cons a1 b1 =>
            cases b1 with
            | cons a2 b2 =>
              cases b2
              obtain ⟨c, rfl, n1, n2, n3⟩ := nkT_of a1 e1
              refine ⟨⟨p, c, k, _⟩ :: T, by rw [h1]; rfl, fun r hr => ?_, .cons a1 n3 n2 a2 h3⟩
              rcases List.mem_cons.mp hr with rfl | hr
              · exact ⟨hs.sq, n1, n2⟩
              · exact h2 r hr
      · cases e
    · cases e
end
theorem sn_dictP {g : G} : SN g (rDictP g.K g.w) dDictP := sn1 (fun H μ h x a Q W hr va bk => by
  cases va with
  | @ref p i hi =>
    simp only [dDictP] at bk
    split at bk
    · rename_i l e
      rw [Option.bind_eq_some_iff] at e
      obtain ⟨ds, e1, e2⟩ := e
      split at bk
      · rename_i hz
        obtain ⟨xs, h1, h2⟩ := hr.list hi e1
        obtain ⟨T, rfl, t2, t3⟩ := pairs_of h2 e2
        refine ⟨p, T, rfl, h1, t2, by rw [t3.len]; exact sz6' hz, fun r TU hn et hu => ?_⟩
        have m0 : Mon g H (upd H r (DN g.w r (PySem.storedAllH [] (neOf TU)))) μ (μ ++ [r]) := mon_push hn
        have nr : NR g (upd H r (DN g.w r (PySem.storedAllH [] (neOf TU)))) (μ ++ [r]) (PySem.storedAllH [] (neOf TU)) (foldN [] l) := NR.fold .nil (by rw [et]; exact t3.mono m0) hu
        exact bk _ _ (μ ++ [r]) m0 (hr.push (u := .dN (foldN [] l)) hn ⟨_, upd_same, nr⟩) (.ref (ix_push hr.len))
      · exact bk.elim
    · exact bk.elim
  | _ => exact bk.elim) (fun _ => rfl) (fun a b l h => by simp [dDictP])
/-! ### the calculus -/
theorem getN_ref {h : MH} {i : Nat} {l : List (NestedKey × D)} (e : h[i]? = some (.dN l)) : getN h (.ref i) = some l := by simp only [getN, e]
theorem w_nIx {h : MH} {i : Nat} {l : List (NestedKey × D)} {x v : D} {k : NestedKey} {Q : D → MH → Prop} {E : XE} (c : keyD x = none) (ek : nkT x = some k) (e : getN h (.ref i) = some l) (ev : valN l k = some v) (q : Q v h) : Sat (dAIx (.ref i) x h) Q E := w_eq (by simp only [dAIx, c, dNIx, ek, e, ev]) q
theorem w_dictP {h : MH} {i : Nat} {ds : List D} {l : List (NestedKey × D)} {Q : D → MH → Prop} {E : XE} (e : getL h i = some ds) (ep : pairsN ds = some l) (c : l.length < 1000000) (q : Q (.ref h.length) (h ++ [.dN (foldN [] l)])) : Sat (dDictP [.ref i] h) Q E := w_eq (by simp only [dDictP, e, Option.bind_some, ep, if_pos c]) q
end Mi

/-! A def of a class, called through the class: Base.__init__(self). -/
namespace Mi
open PySem L2 PySem.Spec PyProof.Rows ClX
def Dc (K : PySem.W.Frag) (mg : Str → Option Value) (c x qual : Str) (st : Stmt) (ps : List Str) : Prop :=
  ∃ C mc f fd, mg c = some (.ref C) ∧ CRead K C mc ∧ PySem.W.findCls K (.ref C) mc x = some (.val (.ref f)) ∧ Fun K x qual st f fd ∧ Binds K fd ps []
def CfOf (P : Program) (w : World) (K : PySem.W.Frag) (mg : Str → Option Value) (base : Heap) (c x : Str) (k : Nat) (F : List D → MH → R D) : Prop :=
  ∃ C mc f fd ps, mg c = some (.ref C) ∧ CRead K C mc ∧ PySem.W.findCls K (.ref C) mc x = some (.val (.ref f)) ∧ PySem.W.keepIn K (.ref f) = true ∧ FnOk P w K mg base (L2.CX P w) k f fd ps (spM (gOf w K) F) ∧ Binds K fd ps []
section
variable {P : Program} {w : World} {K : PySem.W.Frag} {mg : Str → Option Value} {base : Heap} {h : Heap}
theorem CfOf.mono {c x : Str} {F : List D → MH → R D} {j k : Nat} (e : CfOf P w K mg base c x j F) (h : j ≤ k) : CfOf P w K mg base c x k F := by
  obtain ⟨C, mc, f, fd, ps, h1, h2, h3, h4, h5, h6⟩ := e
  exact ⟨C, mc, f, fd, ps, h1, h2, h3, h4, h5.mono h, h6⟩
end
section
variable {X : Cx} {W : WX} {e : Expr} {es : List Expr} {mr : MA} {p pos apos : Pos} {c x : Str}
end
end Mi

namespace Mi
open PySem L2
def m_way_05370 : List D → MH → R D := mFun 2 4
 (mSeq (mAsg 2 (mTup (mNil)))
 (mSeq (mWhile 1000 (mAnd (mB (mBin dNe (mBin dIx (mVar 0) (mC (.int 1))) (mTup (mNil)))) (mB (mBin dNe (mBin dMod (mVar 1) (mC (.int 7))) (mC (.int 0)))))
 (mSeq (mAsg 3 (mBin dMod (mBin dFdiv (mVar 1) (mC (.int 7))) (mCall dLen (mCons (mBin dIx (mVar 0) (mC (.int 1))) (mNil)))))
 (mSeq (mAsg 2 (mBin dAdd (mVar 2) (mTup (mCons (mVar 3) (mNil)))))
 (mSeq (mAsg 0 (mBin dIx (mBin dIx (mVar 0) (mC (.int 1))) (mVar 3)))
 (mIf (mB (mBin dLt (mVar 1) (mBin dPow (mC (.int 10)) (mC (.int 18)))))
 (mAsg 1 (mBin dMod (mBin dAdd (mBin dMul (mVar 1) (mC (.int 48271))) (mC (.int 11))) (mC (.int 2147483647))))
 (mAsg 1 (mBin dFdiv (mVar 1) (mC (.int 700)))))))))
 (mSeq (mIf (mB (mBin dLt (mVar 1) (mBin dPow (mC (.int 10)) (mC (.int 18)))))
 (mRet (mTup (mCons (mVar 2) (mCons (mVar 0) (mCons (mBin dMod (mBin dAdd (mBin dMul (mVar 1) (mC (.int 69621))) (mC (.int 5))) (mC (.int 2147483647))) (mNil))))))
 (mSkip))
 (mRet (mTup (mCons (mVar 2) (mCons (mVar 0) (mCons (mBin dFdiv (mVar 1) (mC (.int 7))) (mNil)))))))))
def m_Kept_look_1e813 : List D → MH → R D := mFun 3 7
 (mSeq (mAsg 3 (mLst (mNil)))
 (mSeq (mFor (mRev1 (mCall dLen (mCons (mVar 1) (mNil)))) (mgName 4)
 (mSeq (mAsg 5 (mBin dIx (mVar 1) (mVar 4)))
 (mSeq (mAsg 6 (mCall (m_state_by_14b94) (mCons (mFld [(Str.ofString "Kept")] (Str.ofString "machine") (mVar 0)) (mCons (mFld [(Str.ofString "Spot")] (Str.ofString "name") (mVar 5)) (mCons (mFld [(Str.ofString "Spot")] (Str.ofString "below") (mVar 5)) (mNil))))))
 (mSeq (mDrop (mMeth isListD dAppend (mVar 3) (mCons (mSl (mVar 2) (mNo) (mSome (mVar 4))) (mNil))))
 (mSeq (mIf (mB (mBin dEq (mVar 6) (mFld [(Str.ofString "Spot")] (Str.ofString "state") (mVar 5))))
 (mRet (mVar 3))
 (mSkip))
 (mSetFld [(Str.ofString "Spot")] (Str.ofString "state") (mVar 5) (mVar 6)))))))
 (mRet (mVar 3))))
def m_is_name_50395 : List D → MH → R D := mFun 1 2
 (mSeq (mIf (mOr (mNot (mB (mIsi "str" (mVar 0)))) (mOr (mB (mBin dLt (mCall dLen (mCons (mVar 0) (mNil))) (mC (.int 1)))) (mB (mBin dGt (mCall dLen (mCons (mVar 0) (mNil))) (mC (.int 8))))))
 (mRet (mC (.bl false)))
 (mSkip))
 (mSeq (mFor (mIter (mVar 0)) (mgName 1)
 (mIf (mB (mBin dNotIn (mVar 1) (mC (.str (Str.ofString "abcdefghijklmnopqrstuvwxyz")))))
 (mRet (mC (.bl false)))
 (mSkip)))
 (mRet (mC (.bl true)))))
def m_Kept_rename_e8d43 : List D → MH → R D := mFun 3 4
 (mSeq (mAsg 3 (mMethI (Str.ofString "spots") [((Str.ofString "Kept"), (m_Kept_spots_cf332))] (mVar 0) (mCons (mVar 1) (mCons (mVar 1) (mNil)))))
 (mSeq (mIf (mNot (mB (mCall (m_is_name_50395) (mCons (mVar 2) (mNil)))))
 (mRaise (Str.ofString "NoName") (Str.ofString "name") (mVar 2))
 (mSkip))
 (mSeq (mSetFld [(Str.ofString "Spot")] (Str.ofString "name") (mBin dIx (mVar 3) (mUn dNeg (mC (.int 1)))) (mVar 2))
 (mSetFld [(Str.ofString "Kept")] (Str.ofString "last") (mVar 0) (mMethI (Str.ofString "look") [((Str.ofString "Kept"), (m_Kept_look_1e813))] (mVar 0) (mCons (mVar 3) (mCons (mVar 1) (mNil))))))))
def m_done_94800 : Nat → List D → MH → R D
 | 0 => fun _ _ => .bad
 | n + 1 => mFun 4 6
    (mSeq (mIf (mB (mBin dEq (mVar 1) (mTup (mNil))))
     (mRet (mTup (mCons (mVar 3) (mCons (mBin dIx (mVar 0) (mC (.int 1))) (mNil)))))
     (mSkip))
     (mSeq (mAsg 4 (mBin dIx (mVar 1) (mC (.int 0))))
     (mSeq (mAsg 5 (mBin dIx (mVar 0) (mC (.int 1))))
     (mSeq (mIf (mAnd (mB (mBin dEq (mCall dLen (mCons (mVar 1) (mNil))) (mC (.int 1)))) (mB (mBin dEq (mVar 2) (mC (.str (Str.ofString "put"))))))
     (mRet (mTup (mCons (mBin dIx (mVar 0) (mC (.int 0))) (mCons (mBin dAdd (mBin dAdd (mSl (mVar 5) (mNo) (mSome (mVar 4))) (mTup (mCons (mVar 3) (mNil)))) (mSl (mVar 5) (mSome (mVar 4)) (mNo))) (mNil)))))
     (mSkip))
     (mSeq (mIf (mAnd (mB (mBin dEq (mCall dLen (mCons (mVar 1) (mNil))) (mC (.int 1)))) (mB (mBin dEq (mVar 2) (mC (.str (Str.ofString "cut"))))))
     (mRet (mTup (mCons (mBin dIx (mVar 0) (mC (.int 0))) (mCons (mBin dAdd (mSl (mVar 5) (mNo) (mSome (mVar 4))) (mSl (mVar 5) (mSome (mBin dAdd (mVar 4) (mC (.int 1)))) (mNo))) (mNil)))))
     (mSkip))
     (mRet (mTup (mCons (mBin dIx (mVar 0) (mC (.int 0))) (mCons (mBin dAdd (mBin dAdd (mSl (mVar 5) (mNo) (mSome (mVar 4))) (mTup (mCons (mCall (m_done_94800 n) (mCons (mBin dIx (mVar 5) (mVar 4)) (mCons (mSl (mVar 1) (mSome (mC (.int 1))) (mNo)) (mCons (mVar 2) (mCons (mVar 3) (mNil)))))) (mNil)))) (mSl (mVar 5) (mSome (mBin dAdd (mVar 4) (mC (.int 1)))) (mNo))) (mNil))))))))))
def m_due_d181f : List D → MH → R D := mFun 3 4
 (mSeq (mAsg 3 (mLst (mCons (mVar 0) (mNil))))
 (mSeq (mWhile 1000 (mAnd (mB (mBin dNe (mVar 0) (mTup (mNil)))) (mB (mBin dNe (mBin dAIx (mVar 1) (mVar 0)) (mBin dAIx (mVar 2) (mVar 0)))))
 (mSeq (mAsg 0 (mSl (mVar 0) (mNo) (mSome (mUn dNeg (mC (.int 1))))))
 (mDrop (mMeth isListD dAppend (mVar 3) (mCons (mVar 0) (mNil))))))
 (mRet (mVar 3))))
def m_looked_c1575 : List D → MH → R D := mFun 2 3
 (mSeq (mIf (mOr (mNot (mB (mIsi "list" (mVar 0)))) (mB (mBin dNe (mCall dLen (mCons (mVar 0) (mNil))) (mCall dLen (mCons (mVar 1) (mNil))))))
 (mRet (mC (.bl false)))
 (mSkip))
 (mSeq (mFor (mRange1 (mCall dLen (mCons (mVar 1) (mNil)))) (mgName 2)
 (mIf (mNot (mB (mCall (m_place_2af87) (mCons (mBin dIx (mVar 0) (mVar 2)) (mCons (mBin dIx (mVar 1) (mVar 2)) (mNil))))))
 (mRet (mC (.bl false)))
 (mSkip)))
 (mRet (mC (.bl true)))))
def m_law_7b532 : List D → MH → R D := mFun 1 17
 (mSeq (mAsg 1 (mCall (m_pool_0b659) (mCons (mCall (m_cell_at_5ae90) (mCons (mVar 0) (mCons (mC (.int 0)) (mNil)))) (mCons (mBin dMod (mCall (m_cell_at_5ae90) (mCons (mVar 0) (mCons (mC (.int 1)) (mNil)))) (mC (.int 6))) (mNil)))))
 (mSeq (mAsg 2 (mCall dSorted (mCons (mCall (m_pool_0b659) (mCons (mCall (m_cell_at_5ae90) (mCons (mVar 0) (mCons (mC (.int 2)) (mNil)))) (mCons (mBin dMod (mBin dFdiv (mCall (m_cell_at_5ae90) (mCons (mVar 0) (mCons (mC (.int 1)) (mNil)))) (mC (.int 6))) (mC (.int 5))) (mNil)))) (mNil))))
 (mSeq (mAsg 3 (mCall (m_machine_128e4) (mCons (mVar 0) (mCons (mC (.int 16)) (mCons (mVar 1) (mCons (mVar 2) (mCons (mC (.int 6)) (mNil))))))))
 (mSeq (mAsg 4 (mCall (m_cell_at_5ae90) (mCons (mVar 0) (mCons (mC (.int 3)) (mNil)))))
 (mSeq (mAsg 5 (mCall (m_doc_3ac0d) (mCons (mBin dFdiv (mVar 4) (mC (.int 40))) (mCons (mBin dAdd (mC (.int 1)) (mBin dMod (mVar 4) (mC (.int 40)))) (mCons (mBin dAdd (mVar 2) (mLst (mCons (mC (.str (Str.ofString "zz"))) (mNil)))) (mNil))))))
 (mSeq (mAsg 6 (mNew (Str.ofString "Kept") (m_Kept___init___3777c) (mCons (mVar 3) (mCons (mVar 5) (mNil)))))
 (mSeq (mFor (mRange2 (mC (.int 4)) (mCall dMax (mCons (mC (.int 5)) (mCons (mCall dMin (mCons (mC (.int 16)) (mCons (mCall dLen (mCons (mVar 0) (mNil))) (mNil)))) (mNil))))) (mgName 7)
 (mSeq (mAsg 4 (mCall (m_cell_at_5ae90) (mCons (mVar 0) (mCons (mVar 7) (mNil)))))
 (mSeq (mAsg 8 (mBin dFdiv (mVar 4) (mC (.int 4))))
 (mSeq (mIf (mB (mBin dLt (mVar 4) (mBin dPow (mC (.int 10)) (mC (.int 18)))))
 (mAsg 8 (mBin dMod (mBin dMul (mVar 4) (mC (.int 16807))) (mC (.int 2147483629))))
 (mSkip))
 (mSeq (mAsgT (mgTup (mgCons (mgName 14) (mgCons (mgName 15) (mgCons (mgName 16) (mgNil))))) (mCall (m_way_05370) (mCons (mVar 5) (mCons (mVar 8) (mNil)))))
 (mSeq (mAsg 9 (mBin dIx (mBin dAdd (mVar 2) (mLst (mCons (mC (.str (Str.ofString "zz"))) (mNil)))) (mBin dMod (mVar 16) (mBin dAdd (mCall dLen (mCons (mVar 2) (mNil))) (mC (.int 1))))))
 (mSeq (mIf (mB (mBin dEq (mBin dMod (mVar 4) (mC (.int 4))) (mC (.int 1))))
 (mAsg 9 (mBin dIx (mVar 15) (mC (.int 0))))
 (mSkip))
 (mSeq (mAsg 10 (mCall dDictP (mCons (mCall (m_states_ee0d6 100) (mCons (mVar 3) (mCons (mVar 5) (mCons (mTup (mNil)) (mNil))))) (mNil))))
 (mSeq (mDrop (mMethI (Str.ofString "rename") [((Str.ofString "Kept"), (m_Kept_rename_e8d43))] (mVar 6) (mCons (mVar 14) (mCons (mVar 9) (mNil)))))
 (mSeq (mAsg 5 (mCall (m_done_94800 100) (mCons (mVar 5) (mCons (mVar 14) (mCons (mC (.str (Str.ofString "name"))) (mCons (mVar 9) (mNil)))))))
 (mSeq (mAsg 11 (mCall (m_states_ee0d6 100) (mCons (mVar 3) (mCons (mVar 5) (mCons (mTup (mNil)) (mNil))))))
 (mSeq (mAsg 12 (mCall (m_due_d181f) (mCons (mVar 14) (mCons (mVar 10) (mCons (mCall dDictP (mCons (mVar 11) (mNil))) (mNil))))))
 (mSeq (mAsg 13 (mMethI (Str.ofString "looked") [((Str.ofString "Kept"), (m_Kept_looked_024ca))] (mVar 6) (mNil)))
 (mSeq (mIf (mNot (mB (mCall (m_looked_c1575) (mCons (mVar 13) (mCons (mVar 12) (mNil))))))
 (mRet (mC (.bl false)))
 (mSkip))
 (mSeq (mDrop (mMeth isListD dAppend (mVar 13) (mCons (mTup (mNil)) (mNil))))
 (mSeq (mIf (mOr (mNot (mB (mCall (m_same_49f62 100) (mCons (mMethI (Str.ofString "now") [((Str.ofString "Kept"), (m_Kept_now_9db09))] (mVar 6) (mNil)) (mCons (mVar 5) (mNil)))))) (mNot (mB (mCall (m_all_22e5f) (mCons (mMethI (Str.ofString "all_forms") [((Str.ofString "Kept"), (m_Kept_all_forms_cad78))] (mVar 6) (mNil)) (mCons (mVar 3) (mCons (mVar 11) (mNil))))))))
 (mRet (mC (.bl false)))
 (mSkip))
 (mIf (mNot (mB (mCall (m_looked_c1575) (mCons (mMethI (Str.ofString "looked") [((Str.ofString "Kept"), (m_Kept_looked_024ca))] (mVar 6) (mNil)) (mCons (mVar 12) (mNil))))))
 (mRet (mC (.bl false)))
 (mSkip))))))))))))))))))
 (mRet (mC (.bl true))))))))))
end Mi

namespace Mi
open PySem L2
local macro_rules | `(tactic| walk_at "gl") => `(tactic| first
  | assumption
  | (refine Own.atL (h0 := ?_) (L := ?_) ?_ 0 ?_; rotate_left; rotate_left; assumption; rfl)
  | (refine Own.atL (h0 := ?_) (L := ?_) ?_ 1 ?_; rotate_left; rotate_left; assumption; rfl)
  | (refine Own.atL (h0 := ?_) (L := ?_) ?_ 2 ?_; rotate_left; rotate_left; assumption; rfl)
  | (refine Own.atL (h0 := ?_) (L := ?_) ?_ 3 ?_; rotate_left; rotate_left; assumption; rfl)
  | (refine Own.atL (h0 := ?_) (L := ?_) ?_ 4 ?_; rotate_left; rotate_left; assumption; rfl)
  | (refine Own.atL (h0 := ?_) (L := ?_) ?_ 5 ?_; rotate_left; rotate_left; assumption; rfl)
  | (refine Own.atL (h0 := ?_) (L := ?_) ?_ 6 ?_; rotate_left; rotate_left; assumption; rfl)
  | (refine Own.atL (h0 := ?_) (L := ?_) ?_ 7 ?_; rotate_left; rotate_left; assumption; rfl)
  | (refine Own.atL (h0 := ?_) (L := ?_) ?_ 8 ?_; rotate_left; rotate_left; assumption; rfl)
  | (refine Own.atL (h0 := ?_) (L := ?_) ?_ 9 ?_; rotate_left; rotate_left; assumption; rfl)
  | (refine Own.getL (h0 := ?_) (L := ?_) ?_ ?_; rotate_left; rotate_left; assumption; assumption))
local macro_rules | `(tactic| walk_at "il") => `(tactic| first
  | (refine Own.isL (h0 := ?_) (L := ?_) (l := ?_) ?_ 0 ?_; rotate_left; rotate_left; rotate_left; assumption; rfl)
  | (refine Own.isL (h0 := ?_) (L := ?_) (l := ?_) ?_ 1 ?_; rotate_left; rotate_left; rotate_left; assumption; rfl)
  | (refine Own.isL (h0 := ?_) (L := ?_) (l := ?_) ?_ 2 ?_; rotate_left; rotate_left; rotate_left; assumption; rfl)
  | (refine Own.isL (h0 := ?_) (L := ?_) (l := ?_) ?_ 3 ?_; rotate_left; rotate_left; rotate_left; assumption; rfl)
  | (refine Own.isL (h0 := ?_) (L := ?_) (l := ?_) ?_ 4 ?_; rotate_left; rotate_left; rotate_left; assumption; rfl)
  | (refine Own.isL (h0 := ?_) (L := ?_) (l := ?_) ?_ 5 ?_; rotate_left; rotate_left; rotate_left; assumption; rfl)
  | (refine Own.isL (h0 := ?_) (L := ?_) (l := ?_) ?_ 6 ?_; rotate_left; rotate_left; rotate_left; assumption; rfl)
  | (refine Own.isL (h0 := ?_) (L := ?_) (l := ?_) ?_ 7 ?_; rotate_left; rotate_left; rotate_left; assumption; rfl)
  | (refine Own.isL (h0 := ?_) (L := ?_) (l := ?_) ?_ 8 ?_; rotate_left; rotate_left; rotate_left; assumption; rfl)
  | (refine Own.isL (h0 := ?_) (L := ?_) (l := ?_) ?_ 9 ?_; rotate_left; rotate_left; rotate_left; assumption; rfl))
local macro_rules | `(tactic| walk_at "bd") => `(tactic| first | assumption | omega | (simp; done) | (simp; omega) | (simp [*]; done) | (simp [*]; omega))
local macro_rules | `(tactic| walk_at "w") => `(tactic| first
  | with_reducible refine w_seq ?_
  | with_reducible refine w_asg ?_
  | with_reducible refine w_cons ?_
  | with_reducible refine w_nil ?_
  | with_reducible refine w_c ?_
  | ((with_reducible refine w_var (d := ?_) ?_ ?_); rotate_left; rfl)
  | with_reducible refine w_bin ?_
  | with_reducible refine w_call ?_
  | with_reducible refine w_if ?_
  | with_reducible refine w_B ?_
  | with_reducible refine w_unB ?_
  | with_reducible refine w_ret ?_
  | with_reducible refine w_drop ?_
  | with_reducible refine w_skip ?_
  | with_reducible refine w_eq (dAdd_int _ _ _) ?_
  | with_reducible refine w_eq (dSub_int _ _ _) ?_
  | with_reducible refine w_eq (dEq_int _ _ _) ?_
  | with_reducible refine w_eq (dEq_str _ _ _) ?_
  | with_reducible refine w_eq (dNe_strs _ _ _) ?_
  | with_reducible refine w_eq (dEq_bls _ _ _) ?_
  | with_reducible refine w_eq (dNe_bls _ _ _) ?_
  | with_reducible refine w_eq (dLt_int _ _ _) ?_
  | with_reducible refine w_eq (dLe_int _ _ _) ?_
  | with_reducible refine w_eq (dGt_int _ _ _) ?_
  | with_reducible refine w_eq (dGe_int _ _ _) ?_
  | with_reducible refine w_eq (dNe_int _ _ _) ?_
  | ((with_reducible refine w_mod ?_ ?_); (first | assumption | decide | omega))
  | ((with_reducible refine w_fdiv ?_ ?_); (first | assumption | decide | omega))
  | ((with_reducible refine w_mulS ?_ ?_); (first | decide | omega))
  | ((with_reducible refine w_addS ?_ ?_); (first | assumption | decide | omega))
  | ((with_reducible refine w_lenS ?_ ?_); (first | assumption | decide | omega))
  | ((with_reducible refine w_slS ?_ ?_); (first | assumption | decide | omega))
  | with_reducible refine w_lenTm ?_
  | with_reducible refine w_eq (dLen_tup _ _) ?_
  | with_reducible refine w_eq (dSl_tup _ _ _ _) ?_
  | with_reducible refine w_eq (dMax_ev _ _ _) ?_
  | with_reducible refine w_eq (dMin_ev _ _ _) ?_
  | with_reducible refine w_eq (dAbs_ev _ _) ?_
  | with_reducible refine w_not ?_
  | with_reducible refine w_and ?_
  | with_reducible refine w_or ?_
  | with_reducible refine br_n ?_
  | with_reducible refine br_tt ?_
  | with_reducible refine br_ff ?_
  | ((with_reducible refine br_dt ?_ ?_); (first | assumption | omega | rfl))
  | ((with_reducible refine br_df ?_ ?_); (first | assumption | omega))
  | with_reducible refine w_tup ?_
  | ((with_reducible refine w_toTup ?_ ?_); exact (by simp))
  | with_reducible refine w_lst ?_
  | with_reducible refine w_lc ?_
  | with_reducible refine w_for ?_
  | with_reducible refine w_range1 ?_
  | with_reducible refine w_range2 ?_
  | ((with_reducible refine w_dR1 ?_ ?_); (first | decide | omega))
  | ((with_reducible refine w_dR2 ?_ ?_); (first | decide | omega))
  | with_reducible refine w_iter ?_
  | with_reducible refine w_eq (iter1_tup _ _) ?_
  | with_reducible refine w_eq (iter1_str _ _) ?_
  | with_reducible refine w_sl ?_
  | with_reducible refine w_no ?_
  | with_reducible refine w_some ?_
  | with_reducible refine w_unI ?_
  | with_reducible refine w_meth ?_
  | with_reducible refine w_isi ?_
  | with_reducible refine w_zip ?_
  | with_reducible refine w_ifE ?_
  | with_reducible refine w_andV ?_
  | with_reducible refine w_orV ?_
  | with_reducible refine w_notV ?_
  | with_reducible refine w_andK ?_
  | with_reducible refine w_orK ?_
  | with_reducible refine w_notK ?_
  | with_reducible refine w_revL ?_
  | with_reducible refine w_listRg1 ?_
  | with_reducible refine w_tindex ?_
  | with_reducible refine w_setIx ?_
  | with_reducible refine w_un ?_
  | with_reducible refine w_rev1 ?_
  | with_reducible refine w_rev2 ?_
  | with_reducible refine w_chain ?_
  | with_reducible refine w_chK ?_
  | with_reducible refine w_retN ?_
  | with_reducible refine w_brk ?_
  | with_reducible refine w_cont ?_
  | with_reducible refine w_asgT ?_
  | with_reducible refine w_eq (isi_str_str _ _) ?_
  | with_reducible refine w_eq (isi_int_int _ _) ?_
  | with_reducible refine w_eq (isi_tup_tup _ _) ?_
  | with_reducible refine w_eq (isi_bool_int _ _) ?_
  | with_reducible refine w_eq (isi_str_int _ _) ?_
  | ((with_reducible refine w_lenLm (α := ?_) (f := ?_) (l := ?_) ?_ ?_); rotate_left; rotate_left; rotate_left; walk_at "gl")
  | ((with_reducible refine w_lenL (l := ?_) ?_ ?_); rotate_left; walk_at "gl")
  | ((with_reducible refine w_iterL (l := ?_) ?_ ?_); rotate_left; walk_at "gl"; dsimp only)
  | ((with_reducible refine w_tupL (l := ?_) ?_ ?_); rotate_left; walk_at "gl")
  | ((with_reducible refine w_ixT (d := ?_) ?_ ?_); rotate_left; (first | with_reducible assumption | rfl))
  | ((with_reducible refine w_ixL (l := ?_) (d := ?_) ?_ ?_ ?_); rotate_left; rotate_left; walk_at "gl"; (first | with_reducible assumption | rfl))
  | ((with_reducible refine w_addT ?_ ?_); walk_at "bd")
  | ((with_reducible refine ⟨?_, ?_⟩); (with_reducible (show isListD (.ref _) _ = true)); walk_at "il")
  | with_reducible refine w_tryK ?_
  | with_reducible refine w_raise ?_
  | with_reducible refine w_raise0 ?_
  | with_reducible refine w_isX ?_
  | ((with_reducible refine w_isXK (k := ?_) ?_ ?_); rotate_left; (first | with_reducible exact lkA | (apply lkB; decide +kernel; exact lkA) | (apply lkB; decide +kernel; apply lkB; decide +kernel; exact lkA) | (apply lkB; decide +kernel; apply lkB; decide +kernel; apply lkB; decide +kernel; exact lkA)))
  | with_reducible refine w_xf ?_
  | ((with_reducible refine w_xfK ?_ ?_ ?_); (exact List.mem_cons_self); (decide))
  | with_reducible refine w_eq (isN_xo _) ?_
  | with_reducible refine w_eq (dNeg_int _ _) ?_)
local macro_rules | `(tactic| walk_at "go") => `(tactic| (repeat (walk_at "w")); try dsimp only [List.set])
local macro_rules | `(tactic| walk_at "fn") => `(tactic| ((refine w_fun ?_); simp only [startD, List.map_cons, List.map_nil, List.reduceReplicate, Nat.reduceSub, List.cons_append, List.nil_append]; walk_at "go"))
local macro_rules | `(tactic| walk_at "lk") => `(tactic| first | with_reducible exact lkA | (apply lkB; decide +kernel; walk_at "lk"))
local macro_rules | `(tactic| walk_at "mk") => `(tactic| first | with_reducible exact mkA | (apply mkB; decide +kernel; walk_at "mk"))
local macro_rules | `(tactic| walk_at "fk") => `(tactic| first | with_reducible exact fkA | exact fkN | (apply fkB; decide +kernel; walk_at "fk"))
local macro_rules | `(tactic| walk_at "cs") => `(tactic| first | exact List.mem_cons_self | (apply List.mem_cons_of_mem; walk_at "cs"))
local macro_rules | `(tactic| walk_at "w") => `(tactic| first
  | with_reducible refine w_fld ?_
  | ((with_reducible refine w_fldK (c := ?_) (fs := ?_) (v := ?_) ?_ ?_ ?_ ?_); rotate_left; rotate_left; rotate_left; (with_reducible assumption); (walk_at "cs"); (walk_at "fk"))
  | with_reducible refine w_setFld ?_
  | with_reducible refine w_new ?_
  | with_reducible refine w_methI ?_
  | ((with_reducible refine w_methK (c := ?_) (fs := ?_) (F := ?_) ?_ ?_ ?_ ?_); rotate_left; rotate_left; rotate_left; (with_reducible assumption); (walk_at "mk"); (walk_at "fk"))
  | with_reducible refine w_isC ?_
  | ((with_reducible refine w_isCK (c := ?_) (fs := ?_) (k := ?_) ?_ ?_ ?_); rotate_left; rotate_left; rotate_left; (with_reducible assumption); (walk_at "lk"))
  | with_reducible refine w_callD ?_
  | with_reducible refine w_mDSet ?_
  | with_reducible refine w_eq (nN_non _) ?_
  | with_reducible refine w_eq (nN_int _ _) ?_
  | with_reducible refine w_eq (nN_tup _ _) ?_
  | with_reducible refine w_eq (nN_ref _ _) ?_
  | with_reducible refine w_eq (iN_non _) ?_
  | with_reducible refine w_eq (iN_int _ _) ?_
  | with_reducible refine w_eq (iN_tup _ _) ?_
  | with_reducible refine w_eq (iN_ref _ _) ?_)
/-! ### a name given, in plain documents -/
def Doc.ren : List Int → Str → Doc → Doc
  | [], x, d => .mk x d.ks
  | v :: r, x, d => .mk d.nm (d.ks.modify v.toNat (Doc.ren r x))
theorem ren_ks (pl : List Int) (x : Str) (d : Doc) : (Doc.ren pl x d).ks.length = d.ks.length := by
  cases pl with
  | nil => rfl
  | cons v r => show (d.ks.modify v.toNat (Doc.ren r x)).length = _; rw [List.length_modify]
theorem ren_nm (pl : List Int) (x : Str) (d : Doc) : (Doc.ren pl x d).nm = if pl = [] then x else d.nm := by
  cases pl with
  | nil => rfl
  | cons v r => rfl
theorem at_cons (d : Doc) (u : Int) (r : List Int) : d.at (u :: r) = if 0 ≤ u then (d.ks[u.toNat]?).bind fun c => c.at r else none := by
  rw [Doc.at]
  split
  · cases d.ks[u.toNat]? <;> rfl
  · rfl
theorem ren_at (x : Str) : ∀ (pl : List Int) (d : Doc) (r : List Int), (∀ v ∈ pl, 0 ≤ v) → (Doc.ren pl x d).at r = (d.at r).map fun e => if r <+: pl then Doc.ren (pl.drop r.length) x e else e
  | [], d, [], _ => by simp [Doc.at]
  | [], d, u :: r, _ => by
    rw [at_cons, at_cons]
    show (if 0 ≤ u then (d.ks[u.toNat]?).bind fun c => c.at r else none) = _
    simp
  | v :: pl, d, [], _ => by simp [Doc.at]
  | v :: pl, d, u :: r, hp => by
    rw [at_cons, at_cons]
    show (if 0 ≤ u then ((d.ks.modify v.toNat (Doc.ren pl x))[u.toNat]?).bind fun c => c.at r else none) = _
    have hv := hp v List.mem_cons_self
    by_cases hu : 0 ≤ u
    · rw [if_pos hu, if_pos hu, List.getElem?_modify]
      cases d.ks[u.toNat]? with
      | none => simp
      | some c =>
        by_cases e : v = u
        · subst e
          have ih := ren_at x pl c r fun w hw => hp w (List.mem_cons_of_mem _ hw)
          simp [ih, List.cons_prefix_cons]
        · have e2 : ¬ v.toNat = u.toNat := by omega
          have e3 : ¬ u = v := fun z => e z.symm
          simp [e2, e3, List.cons_prefix_cons]
    · rw [if_neg hu, if_neg hu]; rfl
theorem modify_pos {α : Type} {l : List α} {i : Nat} {f : α → α} (h : i < l.length) : l.modify i f = l.take i ++ f l[i] :: l.drop (i + 1) := by
  rw [List.modify_eq_take_cons_drop h]
theorem szks_modify {f : Doc → Doc} (hf : ∀ d, (f d).szk = d.szk) : ∀ (l : List Doc) (i : Nat), Doc.szks (l.modify i f) = Doc.szks l
  | [], i => by simp
  | d :: l, 0 => by rw [List.modify_zero_cons, Doc.szks, Doc.szks, hf]
  | d :: l, i + 1 => by rw [List.modify_succ_cons, Doc.szks, Doc.szks, szks_modify hf l i]
theorem ren_szk (x : Str) : ∀ (pl : List Int) (d : Doc), (Doc.ren pl x d).szk = d.szk
  | [], .mk y l => by show (Doc.mk x l).szk = _; rw [Doc.szk, Doc.szk]
  | v :: pl, .mk y l => by
    show (Doc.mk y (l.modify v.toNat (Doc.ren pl x))).szk = _
    rw [Doc.szk, Doc.szk, szks_modify (ren_szk x pl)]
theorem mem_modify {α : Type} {f : α → α} {l : List α} {i : Nat} {y : α} (h : y ∈ l.modify i f) : y ∈ l ∨ ∃ c ∈ l, y = f c := by
  obtain ⟨k, hk⟩ := List.mem_iff_getElem?.mp h
  rw [List.getElem?_modify] at hk
  cases e : l[k]? with
  | none => rw [e] at hk; simp at hk
  | some c =>
    rw [e] at hk
    have hm := List.mem_of_getElem? e
    by_cases z : i = k
    · simp [z] at hk; exact .inr ⟨c, hm, hk.symm⟩
    · simp [z] at hk; exact .inl (hk ▸ hm)
theorem ren_good {x : Str} (hx : Nm x) : ∀ (pl : List Int) (d : Doc), d.good → (Doc.ren pl x d).good
  | [], .mk y l, g => ⟨hx, g.2⟩
  | v :: pl, .mk y l, g => by
    refine ⟨g.1, goods_iff.mpr fun c hc => ?_⟩
    have gg := goods_iff.mp g.2
    rcases mem_modify hc with h | ⟨c', h, rfl⟩
    · exact gg c h
    · exact ren_good hx pl c' (gg c' h)
theorem ren_toD {x : Str} {v : Int} {pl : List Int} {d c : Doc} (hv : 0 ≤ v) (e : d.ks[v.toNat]? = some c) : (Doc.ren (v :: pl) x d).toD = .tup [.str d.nm, .tup ((d.ks.map Doc.toD).take v.toNat ++ [(Doc.ren pl x c).toD] ++ (d.ks.map Doc.toD).drop (v.toNat + 1))] := by
  obtain ⟨h1, h2⟩ := List.getElem?_eq_some_iff.mp e
  show (Doc.mk d.nm (d.ks.modify v.toNat (Doc.ren pl x))).toD = _
  rw [toD_mk, modify_pos h1, h2]
  simp [List.map_take, List.map_drop]
section
variable {F0 K0 : D} {nl : List Str} {sv : List Int} {T : List D} {m : Int}
theorem stt_nk (d : Doc) : d.stt nl sv T = (d.ks.map (Doc.stt nl sv T)).foldl (tAt T) (startI nl sv d.nm) := by
  obtain ⟨x, l⟩ := d
  exact stt_mk x l
theorem stt_same {x : Str} {b : List Int} {c : Doc} (hc : (Doc.ren b x c).stt nl sv T = c.stt nl sv T) : ∀ (a : List Int) (d : Doc), d.at a = some c → (Doc.ren (a ++ b) x d).stt nl sv T = d.stt nl sv T
  | [], d, e => by
    simp [Doc.at] at e
    subst e
    exact hc
  | v :: a, d, e => by
    rw [at_cons] at e
    split at e
    · rename_i hv
      rw [Option.bind_eq_some_iff] at e
      obtain ⟨c0, e1, e2⟩ := e
      have ih := stt_same hc a c0 e2
      rw [stt_nk, stt_nk (d := d)]
      show ((d.ks.modify v.toNat (Doc.ren (a ++ b) x)).map (Doc.stt nl sv T)).foldl (tAt T) (startI nl sv d.nm) = _
      congr 1
      refine List.ext_getElem? fun k => ?_
      rw [List.getElem?_map, List.getElem?_map, List.getElem?_modify]
      by_cases z : v.toNat = k
      · subst z
        rw [e1]
        simp [ih]
      · cases d.ks[k]? <;> simp [z]
    · cases e
/-- states and names by place -/
def stA (nl : List Str) (sv : List Int) (T : List D) (d : Doc) (r : List Int) : Int := match d.at r with
  | some e => e.stt nl sv T
  | none => 0
def nmA (d : Doc) (r : List Int) : Str := match d.at r with
  | some e => e.nm
  | none => Str.ofString ""
theorem stA_of {d e : Doc} {r : List Int} (h : d.at r = some e) : stA nl sv T d r = e.stt nl sv T := by unfold stA; rw [h]
theorem nmA_of {d e : Doc} {r : List Int} (h : d.at r = some e) : nmA d r = e.nm := by unfold nmA; rw [h]
/-! ### spots, laid flat -/
def kidR (I : List Int → Nat) (r : List Int) (n : Nat) : List D := (List.range n).map fun (k : Nat) => D.ref (I (r ++ [(k : Int)]))
theorem kidR_get {I : List Int → Nat} {r : List Int} {n k : Nat} {y : D} (h : (kidR I r n)[k]? = some y) : k < n ∧ y = .ref (I (r ++ [(k : Int)])) := by
  unfold kidR at h
  rw [List.getElem?_map, Option.map_eq_some_iff] at h
  obtain ⟨q, h1, rfl⟩ := h
  obtain ⟨h2, h3⟩ := List.getElem?_eq_some_iff.mp h1
  simp at h2 h3
  subst h3
  exact ⟨h2, rfl⟩
theorem kidR_at {I : List Int → Nat} {r : List Int} {n k : Nat} (h : k < n) : (kidR I r n)[k]? = some (.ref (I (r ++ [(k : Int)]))) := by
  unfold kidR
  rw [List.getElem?_map, List.getElem?_range h]; rfl
@[simp] theorem kidR_len {I : List Int → Nat} {r : List Int} {n : Nat} : (kidR I r n).length = n := by unfold kidR; simp
structure Fl (lo hi : Nat) (h : MH) (d : Doc) (I J : List Int → Nat) (σ : List Int → Int) (ν : List Int → Str) : Prop where
  lay : ∀ r e, d.at r = some e → (lo ≤ I r ∧ I r < hi) ∧ lo ≤ J r ∧ h[I r]? = some (.ins (Str.ofString "Spot") (spotF (ν r) (σ r) (J r))) ∧ h[J r]? = some (.lst (kidR I r e.ks.length))
  inj : ∀ r r' e e', d.at r = some e → d.at r' = some e' → I r = I r' → r = r'
theorem Fl.gen {lo hi lo' hi' : Nat} {h h' : MH} {d : Doc} {I J : List Int → Nat} {σ : List Int → Int} {ν : List Int → Str} (f : Fl lo hi h d I J σ ν) (h1 : lo' ≤ lo) (h2 : hi ≤ hi') (pr : ∀ i o, lo ≤ i → h[i]? = some o → h'[i]? = some o) : Fl lo' hi' h' d I J σ ν :=
  ⟨fun r e hr => by
    obtain ⟨⟨a, b⟩, c, e1, e2⟩ := f.lay r e hr
    exact ⟨⟨by omega, by omega⟩, by omega, pr _ _ a e1, pr _ _ c e2⟩, f.inj⟩
theorem Fl.congr {lo hi : Nat} {h : MH} {d : Doc} {I J : List Int → Nat} {σ σ' : List Int → Int} {ν ν' : List Int → Str} (f : Fl lo hi h d I J σ ν) (c : ∀ r e, d.at r = some e → σ r = σ' r ∧ ν r = ν' r) : Fl lo hi h d I J σ' ν' :=
  ⟨fun r e hr => by
    obtain ⟨c1, c2⟩ := c r e hr
    rw [← c1, ← c2]
    exact f.lay r e hr, f.inj⟩
theorem neSpot {h : MH} {i j : Nat} {c : Str} {fs : List (Str × D)} {l : List D} (e1 : h[i]? = some (.ins c fs)) (e2 : h[j]? = some (.lst l)) : i ≠ j := fun z => by
  subst z; rw [e1] at e2; cases e2
def updF {α : Type} (f : List Int → α) (r : List Int) (v : α) : List Int → α := fun q => if q = r then v else f q
theorem Fl.set {lo hi : Nat} {h : MH} {d e0 : Doc} {I J : List Int → Nat} {σ : List Int → Int} {ν : List Int → Str} (f : Fl lo hi h d I J σ ν) {r0 : List Int} (h0 : d.at r0 = some e0) (x : Str) (s : Int) : Fl lo hi (h.set (I r0) (.ins (Str.ofString "Spot") (spotF x s (J r0)))) d I J (updF σ r0 s) (updF ν r0 x) := by
  obtain ⟨_, _, k1, k2⟩ := f.lay r0 e0 h0
  have lt := (List.getElem?_eq_some_iff.mp k1).1
  refine ⟨fun r e hr => ?_, f.inj⟩
  obtain ⟨a, b, e1, e2⟩ := f.lay r e hr
  refine ⟨a, b, ?_, ?_⟩
  · by_cases z : r = r0
    · subst z
      simp only [updF, if_true]
      exact List.getElem?_set_self lt
    · simp only [updF, if_neg z]
      rw [List.getElem?_set_ne fun q => z (f.inj r r0 e e0 hr h0 q.symm)]
      exact e1
  · rw [List.getElem?_set_ne (neSpot k1 e2)]
    exact e2
/-- from flat to deep -/
theorem fl_spd {lo : Nat} {h : MH} : ∀ (n : Nat) (d : Doc) (I J : List Int → Nat), d.szk ≤ n → (∀ r e, d.at r = some e → lo ≤ I r ∧ lo ≤ J r ∧ h[I r]? = some (.ins (Str.ofString "Spot") (spotF e.nm (e.stt nl sv T) (J r))) ∧ h[J r]? = some (.lst (kidR I r e.ks.length))) → SpD nl sv T lo h d (.ref (I []))
  | 0, d, I, J, hs, _ => by have := szk_pos d; omega
  | n + 1, .mk x l, I, J, hs, f => by
    obtain ⟨a, b, e1, e2⟩ := f [] (.mk x l) (by simp [Doc.at])
    refine ⟨I [], J [], kidR I [] l.length, ⟨rfl, a, b, e1, e2⟩, SpDs.of (by simp) fun k y hk => ?_⟩
    obtain ⟨hk1, rfl⟩ := kidR_get hk
    have ec : l[k]? = some l[k] := List.getElem?_eq_getElem hk1
    have hsz := szks_mem (List.getElem_mem hk1)
    rw [Doc.szk] at hs
    refine ⟨l[k], ec, ?_⟩
    exact fl_spd n l[k] (fun r => I ((k : Int) :: r)) (fun r => J ((k : Int) :: r)) (by omega) fun r e hr => f ((k : Int) :: r) e (by
      rw [at_cons, if_pos (by omega)]
      show (l[((k : Int)).toNat]?).bind _ = _
      rw [Int.toNat_natCast, ec, Option.bind_some, hr])
theorem Fl.spd {lo hi : Nat} {h : MH} {d : Doc} {I J : List Int → Nat} (f : Fl lo hi h d I J (stA nl sv T d) (nmA d)) : SpD nl sv T lo h d (.ref (I [])) :=
  fl_spd d.szk d I J (Nat.le_refl _) fun r e hr => by
    obtain ⟨a, b, e1, e2⟩ := f.lay r e hr
    rw [stA_of hr, nmA_of hr] at e1
    exact ⟨a.1, b, e1, e2⟩
end
end Mi

namespace Mi
open PySem L2
local macro_rules | `(tactic| walk_at "gl") => `(tactic| first
  | assumption
  | (refine Own.atL (h0 := ?_) (L := ?_) ?_ 0 ?_; rotate_left; rotate_left; assumption; rfl)
  | (refine Own.atL (h0 := ?_) (L := ?_) ?_ 1 ?_; rotate_left; rotate_left; assumption; rfl)
  | (refine Own.atL (h0 := ?_) (L := ?_) ?_ 2 ?_; rotate_left; rotate_left; assumption; rfl)
  | (refine Own.atL (h0 := ?_) (L := ?_) ?_ 3 ?_; rotate_left; rotate_left; assumption; rfl)
  | (refine Own.atL (h0 := ?_) (L := ?_) ?_ 4 ?_; rotate_left; rotate_left; assumption; rfl)
  | (refine Own.atL (h0 := ?_) (L := ?_) ?_ 5 ?_; rotate_left; rotate_left; assumption; rfl)
  | (refine Own.atL (h0 := ?_) (L := ?_) ?_ 6 ?_; rotate_left; rotate_left; assumption; rfl)
  | (refine Own.atL (h0 := ?_) (L := ?_) ?_ 7 ?_; rotate_left; rotate_left; assumption; rfl)
  | (refine Own.atL (h0 := ?_) (L := ?_) ?_ 8 ?_; rotate_left; rotate_left; assumption; rfl)
  | (refine Own.atL (h0 := ?_) (L := ?_) ?_ 9 ?_; rotate_left; rotate_left; assumption; rfl)
  | (refine Own.getL (h0 := ?_) (L := ?_) ?_ ?_; rotate_left; rotate_left; assumption; assumption))
local macro_rules | `(tactic| walk_at "il") => `(tactic| first
  | (refine Own.isL (h0 := ?_) (L := ?_) (l := ?_) ?_ 0 ?_; rotate_left; rotate_left; rotate_left; assumption; rfl)
  | (refine Own.isL (h0 := ?_) (L := ?_) (l := ?_) ?_ 1 ?_; rotate_left; rotate_left; rotate_left; assumption; rfl)
  | (refine Own.isL (h0 := ?_) (L := ?_) (l := ?_) ?_ 2 ?_; rotate_left; rotate_left; rotate_left; assumption; rfl)
  | (refine Own.isL (h0 := ?_) (L := ?_) (l := ?_) ?_ 3 ?_; rotate_left; rotate_left; rotate_left; assumption; rfl)
  | (refine Own.isL (h0 := ?_) (L := ?_) (l := ?_) ?_ 4 ?_; rotate_left; rotate_left; rotate_left; assumption; rfl)
  | (refine Own.isL (h0 := ?_) (L := ?_) (l := ?_) ?_ 5 ?_; rotate_left; rotate_left; rotate_left; assumption; rfl)
  | (refine Own.isL (h0 := ?_) (L := ?_) (l := ?_) ?_ 6 ?_; rotate_left; rotate_left; rotate_left; assumption; rfl)
  | (refine Own.isL (h0 := ?_) (L := ?_) (l := ?_) ?_ 7 ?_; rotate_left; rotate_left; rotate_left; assumption; rfl)
  | (refine Own.isL (h0 := ?_) (L := ?_) (l := ?_) ?_ 8 ?_; rotate_left; rotate_left; rotate_left; assumption; rfl)
  | (refine Own.isL (h0 := ?_) (L := ?_) (l := ?_) ?_ 9 ?_; rotate_left; rotate_left; rotate_left; assumption; rfl))
local macro_rules | `(tactic| walk_at "bd") => `(tactic| first | assumption | omega | (simp; done) | (simp; omega) | (simp [*]; done) | (simp [*]; omega))
local macro_rules | `(tactic| walk_at "w") => `(tactic| first
  | with_reducible refine w_seq ?_
  | with_reducible refine w_asg ?_
  | with_reducible refine w_cons ?_
  | with_reducible refine w_nil ?_
  | with_reducible refine w_c ?_
  | ((with_reducible refine w_var (d := ?_) ?_ ?_); rotate_left; rfl)
  | with_reducible refine w_bin ?_
  | with_reducible refine w_call ?_
  | with_reducible refine w_if ?_
  | with_reducible refine w_B ?_
  | with_reducible refine w_unB ?_
  | with_reducible refine w_ret ?_
  | with_reducible refine w_drop ?_
  | with_reducible refine w_skip ?_
  | with_reducible refine w_eq (dAdd_int _ _ _) ?_
  | with_reducible refine w_eq (dSub_int _ _ _) ?_
  | with_reducible refine w_eq (dEq_int _ _ _) ?_
  | with_reducible refine w_eq (dEq_str _ _ _) ?_
  | with_reducible refine w_eq (dNe_strs _ _ _) ?_
  | with_reducible refine w_eq (dEq_bls _ _ _) ?_
  | with_reducible refine w_eq (dNe_bls _ _ _) ?_
  | with_reducible refine w_eq (dLt_int _ _ _) ?_
  | with_reducible refine w_eq (dLe_int _ _ _) ?_
  | with_reducible refine w_eq (dGt_int _ _ _) ?_
  | with_reducible refine w_eq (dGe_int _ _ _) ?_
  | with_reducible refine w_eq (dNe_int _ _ _) ?_
  | ((with_reducible refine w_mod ?_ ?_); (first | assumption | decide | omega))
  | ((with_reducible refine w_fdiv ?_ ?_); (first | assumption | decide | omega))
  | ((with_reducible refine w_mulS ?_ ?_); (first | decide | omega))
  | ((with_reducible refine w_addS ?_ ?_); (first | assumption | decide | omega))
  | ((with_reducible refine w_lenS ?_ ?_); (first | assumption | decide | omega))
  | ((with_reducible refine w_slS ?_ ?_); (first | assumption | decide | omega))
  | with_reducible refine w_lenTm ?_
  | with_reducible refine w_eq (dLen_tup _ _) ?_
  | with_reducible refine w_eq (dSl_tup _ _ _ _) ?_
  | with_reducible refine w_eq (dMax_ev _ _ _) ?_
  | with_reducible refine w_eq (dMin_ev _ _ _) ?_
  | with_reducible refine w_eq (dAbs_ev _ _) ?_
  | with_reducible refine w_not ?_
  | with_reducible refine w_and ?_
  | with_reducible refine w_or ?_
  | with_reducible refine br_n ?_
  | with_reducible refine br_tt ?_
  | with_reducible refine br_ff ?_
  | ((with_reducible refine br_dt ?_ ?_); (first | assumption | omega | rfl))
  | ((with_reducible refine br_df ?_ ?_); (first | assumption | omega))
  | with_reducible refine w_tup ?_
  | ((with_reducible refine w_toTup ?_ ?_); exact (by simp))
  | with_reducible refine w_lst ?_
  | with_reducible refine w_lc ?_
  | with_reducible refine w_for ?_
  | with_reducible refine w_range1 ?_
  | with_reducible refine w_range2 ?_
  | ((with_reducible refine w_dR1 ?_ ?_); (first | decide | omega))
  | ((with_reducible refine w_dR2 ?_ ?_); (first | decide | omega))
  | with_reducible refine w_iter ?_
  | with_reducible refine w_eq (iter1_tup _ _) ?_
  | with_reducible refine w_eq (iter1_str _ _) ?_
  | with_reducible refine w_sl ?_
  | with_reducible refine w_no ?_
  | with_reducible refine w_some ?_
  | with_reducible refine w_unI ?_
  | with_reducible refine w_meth ?_
  | with_reducible refine w_isi ?_
  | with_reducible refine w_zip ?_
  | with_reducible refine w_ifE ?_
  | with_reducible refine w_andV ?_
  | with_reducible refine w_orV ?_
  | with_reducible refine w_notV ?_
  | with_reducible refine w_andK ?_
  | with_reducible refine w_orK ?_
  | with_reducible refine w_notK ?_
  | with_reducible refine w_revL ?_
  | with_reducible refine w_listRg1 ?_
  | with_reducible refine w_tindex ?_
  | with_reducible refine w_setIx ?_
  | with_reducible refine w_un ?_
  | with_reducible refine w_rev1 ?_
  | with_reducible refine w_rev2 ?_
  | with_reducible refine w_chain ?_
  | with_reducible refine w_chK ?_
  | with_reducible refine w_retN ?_
  | with_reducible refine w_brk ?_
  | with_reducible refine w_cont ?_
  | with_reducible refine w_asgT ?_
  | with_reducible refine w_eq (isi_str_str _ _) ?_
  | with_reducible refine w_eq (isi_int_int _ _) ?_
  | with_reducible refine w_eq (isi_tup_tup _ _) ?_
  | with_reducible refine w_eq (isi_bool_int _ _) ?_
  | with_reducible refine w_eq (isi_str_int _ _) ?_
  | ((with_reducible refine w_lenLm (α := ?_) (f := ?_) (l := ?_) ?_ ?_); rotate_left; rotate_left; rotate_left; walk_at "gl")
  | ((with_reducible refine w_lenL (l := ?_) ?_ ?_); rotate_left; walk_at "gl")
  | ((with_reducible refine w_iterL (l := ?_) ?_ ?_); rotate_left; walk_at "gl"; dsimp only)
  | ((with_reducible refine w_tupL (l := ?_) ?_ ?_); rotate_left; walk_at "gl")
  | ((with_reducible refine w_ixT (d := ?_) ?_ ?_); rotate_left; (first | with_reducible assumption | rfl))
  | ((with_reducible refine w_ixL (l := ?_) (d := ?_) ?_ ?_ ?_); rotate_left; rotate_left; walk_at "gl"; (first | with_reducible assumption | rfl))
  | ((with_reducible refine w_addT ?_ ?_); walk_at "bd")
  | ((with_reducible refine ⟨?_, ?_⟩); (with_reducible (show isListD (.ref _) _ = true)); walk_at "il")
  | with_reducible refine w_tryK ?_
  | with_reducible refine w_raise ?_
  | with_reducible refine w_raise0 ?_
  | with_reducible refine w_isX ?_
  | ((with_reducible refine w_isXK (k := ?_) ?_ ?_); rotate_left; (first | with_reducible exact lkA | (apply lkB; decide +kernel; exact lkA) | (apply lkB; decide +kernel; apply lkB; decide +kernel; exact lkA) | (apply lkB; decide +kernel; apply lkB; decide +kernel; apply lkB; decide +kernel; exact lkA)))
  | with_reducible refine w_xf ?_
  | ((with_reducible refine w_xfK ?_ ?_ ?_); (exact List.mem_cons_self); (decide))
  | with_reducible refine w_eq (isN_xo _) ?_
  | with_reducible refine w_eq (dNeg_int _ _) ?_)
local macro_rules | `(tactic| walk_at "go") => `(tactic| (repeat (walk_at "w")); try dsimp only [List.set])
local macro_rules | `(tactic| walk_at "fn") => `(tactic| ((refine w_fun ?_); simp only [startD, List.map_cons, List.map_nil, List.reduceReplicate, Nat.reduceSub, List.cons_append, List.nil_append]; walk_at "go"))
local macro_rules | `(tactic| walk_at "lk") => `(tactic| first | with_reducible exact lkA | (apply lkB; decide +kernel; walk_at "lk"))
local macro_rules | `(tactic| walk_at "mk") => `(tactic| first | with_reducible exact mkA | (apply mkB; decide +kernel; walk_at "mk"))
local macro_rules | `(tactic| walk_at "fk") => `(tactic| first | with_reducible exact fkA | exact fkN | (apply fkB; decide +kernel; walk_at "fk"))
local macro_rules | `(tactic| walk_at "cs") => `(tactic| first | exact List.mem_cons_self | (apply List.mem_cons_of_mem; walk_at "cs"))
local macro_rules | `(tactic| walk_at "w") => `(tactic| first
  | with_reducible refine w_fld ?_
  | ((with_reducible refine w_fldK (c := ?_) (fs := ?_) (v := ?_) ?_ ?_ ?_ ?_); rotate_left; rotate_left; rotate_left; (with_reducible assumption); (walk_at "cs"); (walk_at "fk"))
  | with_reducible refine w_setFld ?_
  | with_reducible refine w_new ?_
  | with_reducible refine w_methI ?_
  | ((with_reducible refine w_methK (c := ?_) (fs := ?_) (F := ?_) ?_ ?_ ?_ ?_); rotate_left; rotate_left; rotate_left; (with_reducible assumption); (walk_at "mk"); (walk_at "fk"))
  | with_reducible refine w_isC ?_
  | ((with_reducible refine w_isCK (c := ?_) (fs := ?_) (k := ?_) ?_ ?_ ?_); rotate_left; rotate_left; rotate_left; (with_reducible assumption); (walk_at "lk"))
  | with_reducible refine w_callD ?_
  | with_reducible refine w_mDSet ?_
  | with_reducible refine w_eq (nN_non _) ?_
  | with_reducible refine w_eq (nN_int _ _) ?_
  | with_reducible refine w_eq (nN_tup _ _) ?_
  | with_reducible refine w_eq (nN_ref _ _) ?_
  | with_reducible refine w_eq (iN_non _) ?_
  | with_reducible refine w_eq (iN_int _ _) ?_
  | with_reducible refine w_eq (iN_tup _ _) ?_
  | with_reducible refine w_eq (iN_ref _ _) ?_)
section
variable {F0 K0 : D} {nl : List Str} {sv mk : List Int} {fs : List Str} {T : List D} {m : Int}
theorem k_statebyF (M : Mc nl sv T m) {x : Str} {h : MH} {j : Nat} {l : List Doc} {I : List Int → Nat} {r : List Int} (hj : getL h j = some (kidR I r l.length)) (hs : ∀ (k : Nat) c, l[k]? = some c → ∃ y j', h[I (r ++ [(k : Int)])]? = some (.ins (Str.ofString "Spot") (spotF y (c.stt nl sv T) j'))) (hll : l.length ≤ 1000) :
    Sat (m_state_by_14b94 [tabD F0 nl sv T K0, .str x, .ref j] h) (fun y h' => h' = h ∧ y = .int ((l.map (Doc.stt nl sv T)).foldl (tAt T) (startI nl sv x))) noX := by
  walk_at "fn"
  refine (c_start M x).mono ?_
  rintro y h' ⟨rfl, rfl⟩
  walk_at "go"
  refine w_loop0 (fun k ρ h2 => h2 = h' ∧ ∃ o4 : Option D, ρ = [some (tabD F0 nl sv T K0), some (.str x), some (.ref j), some (.int (((l.take k).map (Doc.stt nl sv T)).foldl (tAt T) (startI nl sv x))), o4]) ⟨rfl, none, rfl⟩ (fun k ρ h2 ⟨e, _⟩ => by rw [e]; exact decide_eq_true hj) ?_ ?_
  · rintro k d ρ h2 hd ⟨rfl, o4, rfl⟩
    obtain ⟨hk, rfl⟩ := kidR_get hd
    have ec : l[k]? = some l[k] := List.getElem?_eq_getElem hk
    generalize l[k] = c at ec
    obtain ⟨y, jc, e4⟩ := hs k c ec
    have hci := stt_in M c
    have hfi := fold_in M (startI_in M.ss M.sl x) (vs := (l.take k).map (Doc.stt nl sv T)) (fun v hv => by
      obtain ⟨e, _, rfl⟩ := List.mem_map.mp hv
      exact stt_in M e)
    have htt := tAt_in M.tl M.ts hfi hci
    have efs := fold_step (f := tAt T) (s0 := startI nl sv x) (vs := l.map (Doc.stt nl sv T)) (k := k) (v := c.stt nl sv T) (by rw [List.getElem?_map, ec]; rfl)
    rw [← List.map_take, ← List.map_take] at efs
    rw [efs]
    generalize ((l.take k).map (Doc.stt nl sv T)).foldl (tAt T) (startI nl sv x) = s at *
    obtain ⟨_, lr, e1, e2⟩ := htt
    refine ⟨_, rfl, ?_⟩
    dsimp only [List.set]
    walk_at "go"
    exact ⟨rfl, _, rfl⟩
  · rintro ρ h2 ⟨rfl, o4, rfl⟩
    rw [kidR_len, List.take_length]
    walk_at "go"
    exact ⟨rfl, rfl⟩
theorem at_kid {d : Doc} {x : Str} {l : List Doc} {r : List Int} {k : Nat} {c : Doc} (h : d.at r = some (.mk x l)) (e : l[k]? = some c) : d.at (r ++ [(k : Int)]) = some c := by
  rw [at_app, h, Option.bind_some, at_cons, if_pos (by omega)]
  show (l[((k : Int)).toNat]?).bind _ = _
  rw [Int.toNat_natCast, e]
  simp [Doc.at]
def consF (i : Nat) (II : Nat → List Int → Nat) : List Int → Nat
  | [] => i
  | v :: r => II v.toNat r
theorem k_spotofF (M : Mc nl sv T m) : ∀ (n : Nat) (d : Doc) (h : MH), d.ok n → Sat (m_spot_of_63ba3 n [tabD F0 nl sv T K0, d.toD] h) (fun y h' => h <+: h' ∧ ∃ I J, y = .ref (I []) ∧ Fl h.length h'.length h' d I J (stA nl sv T d) (nmA d)) noX
  | 0, d, h, ho => ho.elim
  | n + 1, .mk x l, h, ho => by
    have hll := ho.2.1
    rw [toD_mk]
    unfold m_spot_of_63ba3
    walk_at "fn"
    refine w_comp (fun k acc h' => acc.length = k ∧ Own h h' [(h.length, acc)] ∧ ∃ (II JJ : Nat → List Int → Nat) (lo : Nat → Nat), h.length + 1 ≤ lo 0 ∧ (∀ i, i < k → lo i ≤ lo (i + 1)) ∧ lo k ≤ h'.length ∧ ∀ i c, i < k → l[i]? = some c → acc[i]? = some (.ref (II i [])) ∧ Fl (lo i) (lo (i + 1)) h' c (II i) (JJ i) (stA nl sv T c) (nmA c)) (k := 0) ⟨rfl, (Own.nil h).alloc [], fun _ _ => 0, fun _ _ => 0, fun _ => h.length + 1, Nat.le_refl _, fun i hi => by omega, by simp, fun i c hi => by omega⟩ (by simp) (by simp; omega) (fun i acc h' hi => rfl) ?_ ?_
    · rintro k d acc h' hd' ⟨ha, ow, II, JJ, lo, l0, lm, lk, hf⟩ hc
      rw [Nat.zero_add] at ha lm lk hf ⊢
      rw [List.getElem?_map, Option.map_eq_some_iff] at hd'
      obtain ⟨c, ec, rfl⟩ := hd'
      refine ⟨_, rfl, true, h', rfl, (fun z => Bool.noConfusion z), fun _ => ?_⟩
      dsimp only [wipeD, List.set]
      walk_at "go"
      refine (k_spotofF M n c h' (ho.2.2 c (List.mem_of_getElem? ec))).mono ?_
      rintro y h2 ⟨p2, I, J, rfl, f2⟩
      have o2 := ow.ext p2
      have hl2 := p2.length_le
      have hc2 := o2.at 0 rfl
      have lt : h.length < h'.length := (List.getElem?_eq_some_iff.mp hc).1
      have lok : ∀ i, i ≤ k → h.length + 1 ≤ lo i := fun i hi => by
        induction i with
        | zero => exact l0
        | succ i ih => have := ih (by omega); have := lm i (by omega); omega
      refine ⟨hc2, by simp [ha], o2.setAt 0 rfl _, fun i => if i = k then I else II i, fun i => if i = k then J else JJ i, fun i => if i = k + 1 then h2.length else lo i, by simp; omega, fun i hi => ?_, by simp, fun i c' hi ec' => ?_⟩
      · by_cases z : i = k
        · subst z; simp; omega
        · have z1 : ¬ i = k + 1 := by omega
          have z2 : ¬ i + 1 = k + 1 := by omega
          simp only [if_neg z1, if_neg z2]
          exact lm i (by omega)
      · by_cases z : i = k
        · subst z
          rw [ec] at ec'
          cases ec'
          have z1 : ¬ i = i + 1 := by omega
          simp only [if_true, if_neg z1]
          refine ⟨by rw [List.getElem?_append_right (by omega), ha, Nat.sub_self]; rfl, ?_⟩
          refine f2.gen lk (Nat.le_refl _) fun j o hj e => ?_
          rw [List.getElem?_set_ne (by omega)]
          exact e
        · have z1 : ¬ i = k + 1 := by omega
          have z2 : ¬ i + 1 = k + 1 := by omega
          simp only [if_neg z, if_neg z1, if_neg z2]
          obtain ⟨g1, g2⟩ := hf i c' (by omega) ec'
          refine ⟨by rw [List.getElem?_append_left (by omega)]; exact g1, ?_⟩
          refine g2.gen (Nat.le_refl _) (Nat.le_refl _) fun j o hj e => ?_
          have := lok i (by omega)
          rw [List.getElem?_set_ne (by omega)]
          exact pre_get p2 e
    · rintro ys h' ⟨hy, ow, II, JJ, lo, l0, lm, lk, hf⟩ hc
      have el : (l.map Doc.toD).length = l.length := by simp
      rw [Nat.zero_add, el] at hy lk
      rw [Nat.zero_add, el] at lm hf
      have lom : ∀ i i', i ≤ i' → i' ≤ l.length → lo i ≤ lo i' := fun i i' hi hi' => by
        induction i' with
        | zero => have : i = 0 := by omega
                  subst this; exact Nat.le_refl _
        | succ i' ih =>
          rcases Nat.lt_or_ge i (i' + 1) with z | z
          · have := ih (by omega) (by omega); have := lm i' (by omega); omega
          · have : i = i' + 1 := by omega
            subst this; exact Nat.le_refl _
      have hys : ys = kidR (consF h'.length II) [] l.length := by
        refine List.ext_getElem? fun k => ?_
        rcases Nat.lt_or_ge k l.length with z | z
        · obtain ⟨g1, _⟩ := hf k _ z (List.getElem?_eq_getElem z)
          rw [g1, kidR_at z]
          rfl
        · rw [List.getElem?_eq_none (by omega), List.getElem?_eq_none (by rw [kidR_len]; omega)]
      have gj := ow.atL 0 rfl
      have cj := ow.at 0 rfl
      rw [hys] at gj cj
      clear hy hc
      have key : ∀ (k : Nat) c, l[k]? = some c → lo 0 ≤ lo k ∧ lo (k + 1) ≤ h'.length ∧ Fl (lo k) (lo (k + 1)) h' c (II k) (JJ k) (stA nl sv T c) (nmA c) := fun k c e => by
        have z := (List.getElem?_eq_some_iff.mp e).1
        exact ⟨lom 0 k (by omega) (by omega), by have := lom (k + 1) l.length (by omega) (by omega); omega, (hf k c z e).2⟩
      walk_at "go"
      refine (k_statebyF M (r := []) gj (fun k c e => ?_) (by omega)).mono ?_
      · obtain ⟨_, _, f⟩ := key k c e
        obtain ⟨_, _, q1, _⟩ := f.lay [] c (by simp [Doc.at])
        rw [stA_of (e := c) (by simp [Doc.at])] at q1
        exact ⟨_, _, q1⟩
      rintro y h2 ⟨rfl, rfl⟩
      rw [← stt_mk]
      walk_at "go"
      have hle := ow.pre.length_le
      have e0 : (h2 ++ [MO.ins (Str.ofString "Spot") []])[h2.length]? = some (.ins (Str.ofString "Spot") []) := get_new61
      unfold m_Spot___init___64891
      walk_at "fn"
      refine w_setFldK e0 (by simp) (by simp) ?_
      rw [List.set_append_right _ _ (Nat.le_refl _), Nat.sub_self]
      simp only [List.set_cons_zero, putFD]
      walk_at "go"
      refine w_setFldK get_new61 (by simp) (by simp) ?_
      rw [List.set_append_right _ _ (Nat.le_refl _), Nat.sub_self]
      simp only [List.set_cons_zero]
      rw [putFD2]
      walk_at "go"
      refine w_setFldK get_new61 (by simp) (by simp) ?_
      rw [List.set_append_right _ _ (Nat.le_refl _), Nat.sub_self]
      simp only [List.set_cons_zero]
      rw [putFD3]
      have pp : h2 <+: h2 ++ [MO.ins (Str.ofString "Spot") (spotF x ((Doc.mk x l).stt nl sv T) h.length)] := List.prefix_append _ _
      have hjl : h.length < h2.length := (List.getElem?_eq_some_iff.mp cj).1
      have dk : ∀ v r e, (Doc.mk x l).at (v :: r) = some e → ∃ c, 0 ≤ v ∧ l[v.toNat]? = some c ∧ c.at r = some e := fun v r e hr => by
        rw [at_cons] at hr
        split at hr
        · rename_i hv
          rw [Option.bind_eq_some_iff] at hr
          obtain ⟨c, e1, e2⟩ := hr
          exact ⟨c, hv, e1, e2⟩
        · cases hr
      refine ⟨by trivial, ow.pre.trans pp, consF h2.length II, consF h.length JJ, rfl, fun r e hr => ?_, fun r r' e e' hr hr' ee => ?_⟩
      · cases r with
        | nil =>
          simp [Doc.at] at hr
          subst hr
          rw [stA_of (e := .mk x l) (by simp [Doc.at]), nmA_of (e := .mk x l) (by simp [Doc.at])]
          exact ⟨⟨hle, by simp [consF]⟩, Nat.le_refl _, get_new61, pre_get pp cj⟩
        | cons v r =>
          obtain ⟨c, hv, e1, e2⟩ := dk v r e hr
          obtain ⟨b1, b2, f⟩ := key v.toNat c e1
          obtain ⟨⟨q1, q2⟩, q3, q4, q5⟩ := f.lay r e e2
          rw [stA_of hr, nmA_of hr]
          rw [stA_of e2, nmA_of e2] at q4
          refine ⟨⟨?_, ?_⟩, ?_, pre_get pp q4, pre_get pp q5⟩
          · show h.length ≤ II v.toNat r
            omega
          · show II v.toNat r < _
            simp; omega
          · show h.length ≤ JJ v.toNat r
            omega
      · cases r with
        | nil =>
          cases r' with
          | nil => rfl
          | cons v' r' =>
            obtain ⟨c, hv, e1, e2⟩ := dk v' r' e' hr'
            obtain ⟨b1, b2, f⟩ := key v'.toNat c e1
            obtain ⟨⟨q1, q2⟩, _⟩ := f.lay r' e' e2
            exfalso
            have : h2.length = II v'.toNat r' := ee
            omega
        | cons v r =>
          obtain ⟨c, hv, e1, e2⟩ := dk v r e hr
          obtain ⟨b1, b2, f⟩ := key v.toNat c e1
          obtain ⟨⟨q1, q2⟩, _⟩ := f.lay r e e2
          have z1 := (List.getElem?_eq_some_iff.mp e1).1
          cases r' with
          | nil =>
            exfalso
            have : II v.toNat r = h2.length := ee
            omega
          | cons v' r' =>
            obtain ⟨c', hv', e1', e2'⟩ := dk v' r' e' hr'
            obtain ⟨b1', b2', f'⟩ := key v'.toNat c' e1'
            obtain ⟨⟨q1', q2'⟩, _⟩ := f'.lay r' e' e2'
            have z1' := (List.getElem?_eq_some_iff.mp e1').1
            have ee' : II v.toNat r = II v'.toNat r' := ee
            rcases Nat.lt_trichotomy v.toNat v'.toNat with z | z | z
            · exfalso
              have := lom (v.toNat + 1) v'.toNat (by omega) (by omega)
              omega
            · have hvv : v = v' := by omega
              subst hvv
              rw [e1] at e1'
              cases e1'
              rw [f.inj r r' e e' e2 e2' ee']
            · exfalso
              have := lom (v'.toNat + 1) v.toNat (by omega) (by omega)
              omega
end
end Mi

namespace Mi
open PySem L2
local macro_rules | `(tactic| walk_at "gl") => `(tactic| first
  | assumption
  | (refine Own.atL (h0 := ?_) (L := ?_) ?_ 0 ?_; rotate_left; rotate_left; assumption; rfl)
  | (refine Own.atL (h0 := ?_) (L := ?_) ?_ 1 ?_; rotate_left; rotate_left; assumption; rfl)
  | (refine Own.atL (h0 := ?_) (L := ?_) ?_ 2 ?_; rotate_left; rotate_left; assumption; rfl)
  | (refine Own.atL (h0 := ?_) (L := ?_) ?_ 3 ?_; rotate_left; rotate_left; assumption; rfl)
  | (refine Own.atL (h0 := ?_) (L := ?_) ?_ 4 ?_; rotate_left; rotate_left; assumption; rfl)
  | (refine Own.atL (h0 := ?_) (L := ?_) ?_ 5 ?_; rotate_left; rotate_left; assumption; rfl)
  | (refine Own.atL (h0 := ?_) (L := ?_) ?_ 6 ?_; rotate_left; rotate_left; assumption; rfl)
  | (refine Own.atL (h0 := ?_) (L := ?_) ?_ 7 ?_; rotate_left; rotate_left; assumption; rfl)
  | (refine Own.atL (h0 := ?_) (L := ?_) ?_ 8 ?_; rotate_left; rotate_left; assumption; rfl)
  | (refine Own.atL (h0 := ?_) (L := ?_) ?_ 9 ?_; rotate_left; rotate_left; assumption; rfl)
  | (refine Own.getL (h0 := ?_) (L := ?_) ?_ ?_; rotate_left; rotate_left; assumption; assumption))
local macro_rules | `(tactic| walk_at "il") => `(tactic| first
  | (refine Own.isL (h0 := ?_) (L := ?_) (l := ?_) ?_ 0 ?_; rotate_left; rotate_left; rotate_left; assumption; rfl)
  | (refine Own.isL (h0 := ?_) (L := ?_) (l := ?_) ?_ 1 ?_; rotate_left; rotate_left; rotate_left; assumption; rfl)
  | (refine Own.isL (h0 := ?_) (L := ?_) (l := ?_) ?_ 2 ?_; rotate_left; rotate_left; rotate_left; assumption; rfl)
  | (refine Own.isL (h0 := ?_) (L := ?_) (l := ?_) ?_ 3 ?_; rotate_left; rotate_left; rotate_left; assumption; rfl)
  | (refine Own.isL (h0 := ?_) (L := ?_) (l := ?_) ?_ 4 ?_; rotate_left; rotate_left; rotate_left; assumption; rfl)
  | (refine Own.isL (h0 := ?_) (L := ?_) (l := ?_) ?_ 5 ?_; rotate_left; rotate_left; rotate_left; assumption; rfl)
  | (refine Own.isL (h0 := ?_) (L := ?_) (l := ?_) ?_ 6 ?_; rotate_left; rotate_left; rotate_left; assumption; rfl)
  | (refine Own.isL (h0 := ?_) (L := ?_) (l := ?_) ?_ 7 ?_; rotate_left; rotate_left; rotate_left; assumption; rfl)
  | (refine Own.isL (h0 := ?_) (L := ?_) (l := ?_) ?_ 8 ?_; rotate_left; rotate_left; rotate_left; assumption; rfl)
  | (refine Own.isL (h0 := ?_) (L := ?_) (l := ?_) ?_ 9 ?_; rotate_left; rotate_left; rotate_left; assumption; rfl))
local macro_rules | `(tactic| walk_at "bd") => `(tactic| first | assumption | omega | (simp; done) | (simp; omega) | (simp [*]; done) | (simp [*]; omega))
local macro_rules | `(tactic| walk_at "w") => `(tactic| first
  | with_reducible refine w_seq ?_
  | with_reducible refine w_asg ?_
  | with_reducible refine w_cons ?_
  | with_reducible refine w_nil ?_
  | with_reducible refine w_c ?_
  | ((with_reducible refine w_var (d := ?_) ?_ ?_); rotate_left; rfl)
  | with_reducible refine w_bin ?_
  | with_reducible refine w_call ?_
  | with_reducible refine w_if ?_
  | with_reducible refine w_B ?_
  | with_reducible refine w_unB ?_
  | with_reducible refine w_ret ?_
  | with_reducible refine w_drop ?_
  | with_reducible refine w_skip ?_
  | with_reducible refine w_eq (dAdd_int _ _ _) ?_
  | with_reducible refine w_eq (dSub_int _ _ _) ?_
  | with_reducible refine w_eq (dEq_int _ _ _) ?_
  | with_reducible refine w_eq (dEq_str _ _ _) ?_
  | with_reducible refine w_eq (dNe_strs _ _ _) ?_
  | with_reducible refine w_eq (dEq_bls _ _ _) ?_
  | with_reducible refine w_eq (dNe_bls _ _ _) ?_
  | with_reducible refine w_eq (dLt_int _ _ _) ?_
  | with_reducible refine w_eq (dLe_int _ _ _) ?_
  | with_reducible refine w_eq (dGt_int _ _ _) ?_
  | with_reducible refine w_eq (dGe_int _ _ _) ?_
  | with_reducible refine w_eq (dNe_int _ _ _) ?_
  | ((with_reducible refine w_mod ?_ ?_); (first | assumption | decide | omega))
  | ((with_reducible refine w_fdiv ?_ ?_); (first | assumption | decide | omega))
  | ((with_reducible refine w_mulS ?_ ?_); (first | decide | omega))
  | ((with_reducible refine w_addS ?_ ?_); (first | assumption | decide | omega))
  | ((with_reducible refine w_lenS ?_ ?_); (first | assumption | decide | omega))
  | ((with_reducible refine w_slS ?_ ?_); (first | assumption | decide | omega))
  | with_reducible refine w_lenTm ?_
  | with_reducible refine w_eq (dLen_tup _ _) ?_
  | with_reducible refine w_eq (dSl_tup _ _ _ _) ?_
  | with_reducible refine w_eq (dMax_ev _ _ _) ?_
  | with_reducible refine w_eq (dMin_ev _ _ _) ?_
  | with_reducible refine w_eq (dAbs_ev _ _) ?_
  | with_reducible refine w_not ?_
  | with_reducible refine w_and ?_
  | with_reducible refine w_or ?_
  | with_reducible refine br_n ?_
  | with_reducible refine br_tt ?_
  | with_reducible refine br_ff ?_
  | ((with_reducible refine br_dt ?_ ?_); (first | assumption | omega | rfl))
  | ((with_reducible refine br_df ?_ ?_); (first | assumption | omega))
  | with_reducible refine w_tup ?_
  | ((with_reducible refine w_toTup ?_ ?_); exact (by simp))
  | with_reducible refine w_lst ?_
  | with_reducible refine w_lc ?_
  | with_reducible refine w_for ?_
  | with_reducible refine w_range1 ?_
  | with_reducible refine w_range2 ?_
  | ((with_reducible refine w_dR1 ?_ ?_); (first | decide | omega))
  | ((with_reducible refine w_dR2 ?_ ?_); (first | decide | omega))
  | with_reducible refine w_iter ?_
  | with_reducible refine w_eq (iter1_tup _ _) ?_
  | with_reducible refine w_eq (iter1_str _ _) ?_
  | with_reducible refine w_sl ?_
  | with_reducible refine w_no ?_
  | with_reducible refine w_some ?_
  | with_reducible refine w_unI ?_
  | with_reducible refine w_meth ?_
  | with_reducible refine w_isi ?_
  | with_reducible refine w_zip ?_
  | with_reducible refine w_ifE ?_
  | with_reducible refine w_andV ?_
  | with_reducible refine w_orV ?_
  | with_reducible refine w_notV ?_
  | with_reducible refine w_andK ?_
  | with_reducible refine w_orK ?_
  | with_reducible refine w_notK ?_
  | with_reducible refine w_revL ?_
  | with_reducible refine w_listRg1 ?_
  | with_reducible refine w_tindex ?_
  | with_reducible refine w_setIx ?_
  | with_reducible refine w_un ?_
  | with_reducible refine w_rev1 ?_
  | with_reducible refine w_rev2 ?_
  | with_reducible refine w_chain ?_
  | with_reducible refine w_chK ?_
  | with_reducible refine w_retN ?_
  | with_reducible refine w_brk ?_
  | with_reducible refine w_cont ?_
  | with_reducible refine w_asgT ?_
  | with_reducible refine w_eq (isi_str_str _ _) ?_
  | with_reducible refine w_eq (isi_int_int _ _) ?_
  | with_reducible refine w_eq (isi_tup_tup _ _) ?_
  | with_reducible refine w_eq (isi_bool_int _ _) ?_
  | with_reducible refine w_eq (isi_str_int _ _) ?_
  | ((with_reducible refine w_lenLm (α := ?_) (f := ?_) (l := ?_) ?_ ?_); rotate_left; rotate_left; rotate_left; walk_at "gl")
  | ((with_reducible refine w_lenL (l := ?_) ?_ ?_); rotate_left; walk_at "gl")
  | ((with_reducible refine w_iterL (l := ?_) ?_ ?_); rotate_left; walk_at "gl"; dsimp only)
  | ((with_reducible refine w_tupL (l := ?_) ?_ ?_); rotate_left; walk_at "gl")
  | ((with_reducible refine w_ixT (d := ?_) ?_ ?_); rotate_left; (first | with_reducible assumption | rfl))
  | ((with_reducible refine w_ixL (l := ?_) (d := ?_) ?_ ?_ ?_); rotate_left; rotate_left; walk_at "gl"; (first | with_reducible assumption | rfl))
  | ((with_reducible refine w_addT ?_ ?_); walk_at "bd")
  | ((with_reducible refine ⟨?_, ?_⟩); (with_reducible (show isListD (.ref _) _ = true)); walk_at "il")
  | with_reducible refine w_tryK ?_
  | with_reducible refine w_raise ?_
  | with_reducible refine w_raise0 ?_
  | with_reducible refine w_isX ?_
  | ((with_reducible refine w_isXK (k := ?_) ?_ ?_); rotate_left; (first | with_reducible exact lkA | (apply lkB; decide +kernel; exact lkA) | (apply lkB; decide +kernel; apply lkB; decide +kernel; exact lkA) | (apply lkB; decide +kernel; apply lkB; decide +kernel; apply lkB; decide +kernel; exact lkA)))
  | with_reducible refine w_xf ?_
  | ((with_reducible refine w_xfK ?_ ?_ ?_); (exact List.mem_cons_self); (decide))
  | with_reducible refine w_eq (isN_xo _) ?_
  | with_reducible refine w_eq (dNeg_int _ _) ?_)
local macro_rules | `(tactic| walk_at "go") => `(tactic| (repeat (walk_at "w")); try dsimp only [List.set])
local macro_rules | `(tactic| walk_at "fn") => `(tactic| ((refine w_fun ?_); simp only [startD, List.map_cons, List.map_nil, List.reduceReplicate, Nat.reduceSub, List.cons_append, List.nil_append]; walk_at "go"))
local macro_rules | `(tactic| walk_at "lk") => `(tactic| first | with_reducible exact lkA | (apply lkB; decide +kernel; walk_at "lk"))
local macro_rules | `(tactic| walk_at "mk") => `(tactic| first | with_reducible exact mkA | (apply mkB; decide +kernel; walk_at "mk"))
local macro_rules | `(tactic| walk_at "fk") => `(tactic| first | with_reducible exact fkA | exact fkN | (apply fkB; decide +kernel; walk_at "fk"))
local macro_rules | `(tactic| walk_at "cs") => `(tactic| first | exact List.mem_cons_self | (apply List.mem_cons_of_mem; walk_at "cs"))
local macro_rules | `(tactic| walk_at "w") => `(tactic| first
  | with_reducible refine w_fld ?_
  | ((with_reducible refine w_fldK (c := ?_) (fs := ?_) (v := ?_) ?_ ?_ ?_ ?_); rotate_left; rotate_left; rotate_left; (with_reducible assumption); (walk_at "cs"); (walk_at "fk"))
  | with_reducible refine w_setFld ?_
  | with_reducible refine w_new ?_
  | with_reducible refine w_methI ?_
  | ((with_reducible refine w_methK (c := ?_) (fs := ?_) (F := ?_) ?_ ?_ ?_ ?_); rotate_left; rotate_left; rotate_left; (with_reducible assumption); (walk_at "mk"); (walk_at "fk"))
  | with_reducible refine w_isC ?_
  | ((with_reducible refine w_isCK (c := ?_) (fs := ?_) (k := ?_) ?_ ?_ ?_); rotate_left; rotate_left; rotate_left; (with_reducible assumption); (walk_at "lk"))
  | with_reducible refine w_callD ?_
  | with_reducible refine w_mDSet ?_
  | with_reducible refine w_eq (nN_non _) ?_
  | with_reducible refine w_eq (nN_int _ _) ?_
  | with_reducible refine w_eq (nN_tup _ _) ?_
  | with_reducible refine w_eq (nN_ref _ _) ?_
  | with_reducible refine w_eq (iN_non _) ?_
  | with_reducible refine w_eq (iN_int _ _) ?_
  | with_reducible refine w_eq (iN_tup _ _) ?_
  | with_reducible refine w_eq (iN_ref _ _) ?_)
section
variable {fs nl : List Str} {sv mk : List Int} {T : List D} {m : Int}
/-- all cells but the instances stand -/
def Fz (h h' : MH) : Prop := h.length ≤ h'.length ∧ ∀ (j : Nat) (o : MO), h[j]? = some o → (∀ c f, o ≠ .ins c f) → h'[j]? = some o
theorem Fz.refl (h : MH) : Fz h h := ⟨Nat.le_refl _, fun _ _ e _ => e⟩
theorem Fz.trans {h h1 h2 : MH} (a : Fz h h1) (b : Fz h1 h2) : Fz h h2 := ⟨Nat.le_trans a.1 b.1, fun j o e n => b.2 j o (a.2 j o e n) n⟩
theorem Fz.pre {h h1 : MH} (p : h <+: h1) : Fz h h1 := ⟨p.length_le, fun _ _ e _ => pre_get p e⟩
theorem Fz.lst {h h1 : MH} (a : Fz h h1) {j : Nat} {l : List D} (e : h[j]? = some (.lst l)) : h1[j]? = some (.lst l) := a.2 j _ e fun _ _ => by simp
theorem Fz.getL {h h1 : MH} (a : Fz h h1) {j : Nat} {l : List D} (e : getL h j = some l) : Mi.getL h1 j = some l := by
  unfold Mi.getL at e ⊢
  split at e
  · rename_i q; cases e; rw [a.2 j _ q fun _ _ => by simp]
  · rename_i q; cases e; rw [a.2 j _ q fun _ _ => by simp]
  · cases e
theorem Fz.setI {h : MH} {i : Nat} {c : Str} {f : List (Str × D)} {o : MO} (e : h[i]? = some (.ins c f)) : Fz h (h.set i o) := ⟨by simp, fun j o' e' n => by
  have : i ≠ j := fun z => by subst z; rw [e] at e'; cases e'; exact n _ _ rfl
  rw [List.getElem?_set_ne this]; exact e'⟩
theorem Fz.setN {h0 h : MH} {i : Nat} {o : MO} (a : Fz h0 h) (hi : h0.length ≤ i) : Fz h0 (h.set i o) := ⟨by simpa using a.1, fun j o' e' n => by
  have := (List.getElem?_eq_some_iff.mp e').1
  rw [List.getElem?_set_ne (by omega)]; exact a.2 j o' e' n⟩
theorem Fl.keep {lo hi c : Nat} {h : MH} {d : Doc} {I J : List Int → Nat} {σ : List Int → Int} {ν : List Int → Str} {l : List D} {o : MO} (f : Fl lo hi h d I J σ ν) (hJ : ∀ r e, d.at r = some e → J r ≠ c) (hc : h[c]? = some (.lst l)) : Fl lo hi (h.set c o) d I J σ ν :=
  ⟨fun r e hr => by
    obtain ⟨a, b, e1, e2⟩ := f.lay r e hr
    refine ⟨a, b, ?_, ?_⟩
    · rw [List.getElem?_set_ne (neSpot e1 hc).symm]; exact e1
    · rw [List.getElem?_set_ne (hJ r e hr).symm]; exact e2, f.inj⟩
theorem Fl.pre {lo hi : Nat} {h h' : MH} {d : Doc} {I J : List Int → Nat} {σ : List Int → Int} {ν : List Int → Str} (f : Fl lo hi h d I J σ ν) (p : h <+: h') : Fl lo hi h' d I J σ ν := f.gen (Nat.le_refl _) (Nat.le_refl _) fun _ _ _ e => pre_get p e
theorem neKS : ¬ Str.ofString "Kept" = Str.ofString "Spot" := neS61 "Kept" "Spot"
theorem Fl.setK {lo hi ik : Nat} {h : MH} {d : Doc} {I J : List Int → Nat} {σ : List Int → Int} {ν : List Int → Str} {k : List (Str × D)} {o : MO} (f : Fl lo hi h d I J σ ν) (hk : h[ik]? = some (.ins (Str.ofString "Kept") k)) : Fl lo hi (h.set ik o) d I J σ ν :=
  ⟨fun r e hr => by
    obtain ⟨a, b, e1, e2⟩ := f.lay r e hr
    refine ⟨a, b, ?_, ?_⟩
    · have : ik ≠ I r := fun z => by
        rw [z, e1] at hk
        simp only [Option.some.injEq, MO.ins.injEq] at hk
        exact neKS hk.1.symm
      rw [List.getElem?_set_ne this]; exact e1
    · rw [List.getElem?_set_ne (neSpot hk e2)]; exact e2, f.inj⟩
/-- the object -/
def KpL (fs nl : List Str) (sv mk : List Int) (T : List D) (h : MH) (ik : Nat) (d : Doc) (Ls : List D) : Prop := ∃ I J jl hi, h[ik]? = some (.ins (Str.ofString "Kept") (keptF (tab61 fs nl sv T mk) (.ref (I [])) jl)) ∧ h[jl]? = some (.lst Ls) ∧ Fl 0 hi h d I J (stA nl sv T d) (nmA d)
theorem KpL.mono {h h' : MH} {ik : Nat} {d : Doc} {Ls : List D} (x : KpL fs nl sv mk T h ik d Ls) (p : h <+: h') : KpL fs nl sv mk T h' ik d Ls := by
  obtain ⟨I, J, jl, hi, a, b, c⟩ := x
  exact ⟨I, J, jl, hi, pre_get p a, pre_get p b, c.pre p⟩
theorem k_keptnewF (M : Mc nl sv T m) {d : Doc} (hd : d.ok 100) {h : MH} :
    Sat (m_Kept___init___3777c [.ref h.length, tab61 fs nl sv T mk, d.toD] (h ++ [.ins (Str.ofString "Kept") []])) (fun y h' => y = .non ∧ h <+: h' ∧ KpL fs nl sv mk T h' h.length d []) noX := by
  have e0 : (h ++ [MO.ins (Str.ofString "Kept") []])[h.length]? = some (.ins (Str.ofString "Kept") []) := get_new61
  walk_at "fn"
  refine w_setFldK e0 (by simp) (by simp) ?_
  rw [List.set_append_right _ _ (Nat.le_refl _), Nat.sub_self]
  simp only [List.set_cons_zero, putFD]
  have p1 : h <+: h ++ [MO.ins (Str.ofString "Kept") [(Str.ofString "machine", tab61 fs nl sv T mk)]] := List.prefix_append _ _
  have e1 : (h ++ [MO.ins (Str.ofString "Kept") [(Str.ofString "machine", tab61 fs nl sv T mk)]])[h.length]? = some (.ins (Str.ofString "Kept") [(Str.ofString "machine", tab61 fs nl sv T mk)]) := get_new61
  generalize h ++ [MO.ins (Str.ofString "Kept") [(Str.ofString "machine", tab61 fs nl sv T mk)]] = h1 at *
  walk_at "go"
  refine (k_spotofF M 100 d h1 hd).mono ?_
  rintro y h2 ⟨p2, I, J, rfl, x2⟩
  have e2 := pre_get p2 e1
  have f2 : Fl 0 h2.length h2 d I J (stA nl sv T d) (nmA d) := x2.gen (Nat.zero_le _) (Nat.le_refl _) fun _ _ _ e => e
  walk_at "go"
  refine w_setFldK e2 (by simp) (by simp) ?_
  rw [putK2]
  have f3 := f2.setK e2 (o := .ins (Str.ofString "Kept") [(Str.ofString "machine", tab61 fs nl sv T mk), (Str.ofString "top", .ref (I []))])
  have lt2 := (List.getElem?_eq_some_iff.mp e2).1
  have e3 : (h2.set h.length (.ins (Str.ofString "Kept") [(Str.ofString "machine", tab61 fs nl sv T mk), (Str.ofString "top", .ref (I []))]))[h.length]? = some (.ins (Str.ofString "Kept") [(Str.ofString "machine", tab61 fs nl sv T mk), (Str.ofString "top", .ref (I []))]) := List.getElem?_set_self lt2
  have p3 : h <+: h2.set h.length (.ins (Str.ofString "Kept") [(Str.ofString "machine", tab61 fs nl sv T mk), (Str.ofString "top", .ref (I []))]) := pre_set61 (p1.trans p2) (Nat.le_refl _)
  generalize h2.set h.length (.ins (Str.ofString "Kept") [(Str.ofString "machine", tab61 fs nl sv T mk), (Str.ofString "top", .ref (I []))]) = h3 at *
  walk_at "go"
  refine o_new (Own.nil h3) (by simp) fun iL h4 o4 => ?_
  have cL := o4.at 0 rfl
  have e4 := pre_get o4.pre e3
  walk_at "go"
  refine w_setFldK e4 (by simp) (by simp) ?_
  rw [putK3]
  have lt4 := (List.getElem?_eq_some_iff.mp e4).1
  refine ⟨by trivial, pre_set61 (p3.trans o4.pre) (Nat.le_refl _), I, J, iL, h2.length, List.getElem?_set_self lt4, ?_, (f3.pre o4.pre).setK e4⟩
  rw [List.getElem?_set_ne (neSpot e4 cL)]; exact cL
/-! ### the way down -/
def pathL (I : List Int → Nat) (pl : List Int) (k : Nat) : List D := (List.range (k + 1)).map fun (q : Nat) => D.ref (I (pl.take q))
@[simp] theorem pathL_len {I : List Int → Nat} {pl : List Int} {k : Nat} : (pathL I pl k).length = k + 1 := by simp [pathL]
theorem pathL_succ {I : List Int → Nat} {pl : List Int} {k : Nat} : pathL I pl (k + 1) = pathL I pl k ++ [.ref (I (pl.take (k + 1)))] := by
  unfold pathL
  rw [List.range_succ, List.map_append]; rfl
theorem pathL_last {I : List Int → Nat} {pl : List Int} {k : Nat} : atI (pathL I pl k) (-1) = some (.ref (I (pl.take k))) := by
  unfold pathL
  rw [List.range_succ, List.map_append]
  exact at_end61
theorem pathL_at {I : List Int → Nat} {pl : List Int} {k a : Nat} (h : a ≤ k) : atI (pathL I pl k) (a : Int) = some (.ref (I (pl.take a))) := atI_at (by
  unfold pathL
  rw [List.getElem?_map, List.getElem?_range (by omega)]; rfl)
theorem at_pre {d e : Doc} {pl : List Int} (he : d.at pl = some e) (k : Nat) : ∃ c, d.at (pl.take k) = some c ∧ c.at (pl.drop k) = some e := by
  rw [← List.take_append_drop k pl, at_app, Option.bind_eq_some_iff] at he
  exact he
theorem at_steps {d e : Doc} {pl : List Int} (he : d.at pl = some e) {k : Nat} {v : Int} (ev : pl[k]? = some v) : ∃ c, d.at (pl.take k) = some c ∧ 0 ≤ v ∧ v.toNat < c.ks.length := by
  obtain ⟨c, h1, h2⟩ := at_pre he k
  obtain ⟨hk, hv⟩ := List.getElem?_eq_some_iff.mp ev
  rw [List.drop_eq_getElem_cons hk, hv, at_cons] at h2
  split at h2
  · rename_i h0
    rw [Option.bind_eq_some_iff] at h2
    obtain ⟨c', h3, _⟩ := h2
    exact ⟨c, h1, h0, (List.getElem?_eq_some_iff.mp h3).1⟩
  · cases h2
theorem at_nonneg {e : Doc} : ∀ {pl : List Int} {d : Doc}, d.at pl = some e → ∀ v ∈ pl, 0 ≤ v
  | [], d, _, v, hv => by simp at hv
  | u :: pl, d, h, v, hv => by
    rw [at_cons] at h
    split at h
    · rename_i h0
      rw [Option.bind_eq_some_iff] at h
      obtain ⟨c, _, h2⟩ := h
      rcases List.mem_cons.mp hv with rfl | hv
      · exact h0
      · exact at_nonneg h2 v hv
    · cases h
theorem k_spotsF {h : MH} {ik jl lo hi : Nat} {tb asked : D} {d e : Doc} {pl : List Int} {I J : List Int → Nat} {σ : List Int → Int} {ν : List Int → Str} (hk : h[ik]? = some (.ins (Str.ofString "Kept") (keptF tb (.ref (I [])) jl))) (f : Fl lo hi h d I J σ ν) (he : d.at pl = some e) (hpl : pl.length ≤ 1000) :
    Sat (m_Kept_spots_cf332 [.ref ik, .tup (pl.map .int), asked] h) (fun y h' => ∃ j, y = .ref j ∧ Own h h' [(j, pathL I pl pl.length)]) noX := by
  walk_at "fn"
  refine o_new (Own.nil h) (by simp) fun iL h1 o1 => ?_
  walk_at "go"
  refine w_loop0 (fun k ρ h' => ∃ (o4 : Option D), ρ = [some (.ref ik), some (.tup (pl.map .int)), some asked, some (.ref iL), o4] ∧ Own h h' [(iL, pathL I pl k)]) ⟨none, rfl, o1⟩ (fun _ _ _ _ => rfl) ?_ ?_
  · rintro k d' ρ h' hd' ⟨o4, rfl, o⟩
    rw [List.getElem?_map, Option.map_eq_some_iff] at hd'
    obtain ⟨v, ev, rfl⟩ := hd'
    have hkl := (List.getElem?_eq_some_iff.mp ev).1
    obtain ⟨c, ec, hv, hlt⟩ := at_steps he ev
    obtain ⟨_, _, e4, e5⟩ := f.lay _ c ec
    have ae : atI (pathL I pl k) (-1) = some (.ref (I (pl.take k))) := pathL_last
    have e4' := pre_get o.pre e4
    have e5' := getL_of (pre_get o.pre e5)
    have hkr : (kidR I (pl.take k) c.ks.length).length = c.ks.length := kidR_len
    have av : atI (kidR I (pl.take k) c.ks.length) v = some (.ref (I (pl.take (k + 1)))) := by
      obtain ⟨V, rfl⟩ := Int.eq_ofNat_of_zero_le hv
      rw [take_sn61 ev]
      exact atI_at (kidR_at (by simpa using hlt))
    have hpk : (pathL I pl k).length = k + 1 := pathL_len
    refine ⟨_, rfl, ?_⟩
    dsimp only [List.set]
    walk_at "go"
    refine br_df (by rw [List.length_range]; omega) ?_
    walk_at "go"
    refine o_app o 0 rfl (by omega) fun h2 o2 => ?_
    rw [← pathL_succ] at o2
    exact ⟨_, rfl, o2⟩
  · rintro ρ h' ⟨o4, rfl, o⟩
    rw [List.length_map] at o
    walk_at "go"
    exact ⟨iL, rfl, o⟩
theorem k_isname {x : Str} (hx : Nm x) {h : MH} : Sat (m_is_name_50395 [.str x] h) (fun y h' => h' = h ∧ y = .bl true) noX := by
  obtain ⟨h1, h2, h3⟩ := hx
  have hz : x.length ≤ 1000000 := by omega
  walk_at "fn"
  refine w_loop0 (fun k ρ h' => h' = h ∧ ∃ o1 : Option D, ρ = [some (.str x), o1]) ⟨rfl, none, rfl⟩ (fun _ _ _ _ => rfl) ?_ ?_
  · rintro k d ρ h' hd ⟨rfl, o1, rfl⟩
    rw [List.getElem?_map, Option.map_eq_some_iff] at hd
    obtain ⟨c, ec, rfl⟩ := hd
    have hc := h3 c (List.mem_of_getElem? ec)
    have hin : c ∈ (Str.ofString "abcdefghijklmnopqrstuvwxyz").cps.toList := by
      have e : (Str.ofString "abcdefghijklmnopqrstuvwxyz").cps.toList = List.map (fun k => 97 + k) (List.range 26) := by decide +kernel
      rw [e]
      unfold Ltr at hc
      exact List.mem_map.mpr ⟨c - 97, by simp; omega, by omega⟩
    refine ⟨_, rfl, ?_⟩
    dsimp only [List.set]
    walk_at "go"
    refine w_eq (dNotIn_sign _) ?_
    rw [decide_eq_true hin]
    walk_at "go"
    exact ⟨rfl, _, rfl⟩
  · rintro ρ h' ⟨rfl, o1, rfl⟩
    walk_at "go"
    exact ⟨rfl, rfl⟩
end
end Mi

namespace Mi
open PySem L2
local macro_rules | `(tactic| walk_at "gl") => `(tactic| first
  | assumption
  | (refine Own.atL (h0 := ?_) (L := ?_) ?_ 0 ?_; rotate_left; rotate_left; assumption; rfl)
  | (refine Own.atL (h0 := ?_) (L := ?_) ?_ 1 ?_; rotate_left; rotate_left; assumption; rfl)
  | (refine Own.atL (h0 := ?_) (L := ?_) ?_ 2 ?_; rotate_left; rotate_left; assumption; rfl)
  | (refine Own.atL (h0 := ?_) (L := ?_) ?_ 3 ?_; rotate_left; rotate_left; assumption; rfl)
  | (refine Own.atL (h0 := ?_) (L := ?_) ?_ 4 ?_; rotate_left; rotate_left; assumption; rfl)
  | (refine Own.atL (h0 := ?_) (L := ?_) ?_ 5 ?_; rotate_left; rotate_left; assumption; rfl)
  | (refine Own.atL (h0 := ?_) (L := ?_) ?_ 6 ?_; rotate_left; rotate_left; assumption; rfl)
  | (refine Own.atL (h0 := ?_) (L := ?_) ?_ 7 ?_; rotate_left; rotate_left; assumption; rfl)
  | (refine Own.atL (h0 := ?_) (L := ?_) ?_ 8 ?_; rotate_left; rotate_left; assumption; rfl)
  | (refine Own.atL (h0 := ?_) (L := ?_) ?_ 9 ?_; rotate_left; rotate_left; assumption; rfl)
  | (refine Own.getL (h0 := ?_) (L := ?_) ?_ ?_; rotate_left; rotate_left; assumption; assumption))
local macro_rules | `(tactic| walk_at "il") => `(tactic| first
  | (refine Own.isL (h0 := ?_) (L := ?_) (l := ?_) ?_ 0 ?_; rotate_left; rotate_left; rotate_left; assumption; rfl)
  | (refine Own.isL (h0 := ?_) (L := ?_) (l := ?_) ?_ 1 ?_; rotate_left; rotate_left; rotate_left; assumption; rfl)
  | (refine Own.isL (h0 := ?_) (L := ?_) (l := ?_) ?_ 2 ?_; rotate_left; rotate_left; rotate_left; assumption; rfl)
  | (refine Own.isL (h0 := ?_) (L := ?_) (l := ?_) ?_ 3 ?_; rotate_left; rotate_left; rotate_left; assumption; rfl)
  | (refine Own.isL (h0 := ?_) (L := ?_) (l := ?_) ?_ 4 ?_; rotate_left; rotate_left; rotate_left; assumption; rfl)
  | (refine Own.isL (h0 := ?_) (L := ?_) (l := ?_) ?_ 5 ?_; rotate_left; rotate_left; rotate_left; assumption; rfl)
  | (refine Own.isL (h0 := ?_) (L := ?_) (l := ?_) ?_ 6 ?_; rotate_left; rotate_left; rotate_left; assumption; rfl)
  | (refine Own.isL (h0 := ?_) (L := ?_) (l := ?_) ?_ 7 ?_; rotate_left; rotate_left; rotate_left; assumption; rfl)
  | (refine Own.isL (h0 := ?_) (L := ?_) (l := ?_) ?_ 8 ?_; rotate_left; rotate_left; rotate_left; assumption; rfl)
  | (refine Own.isL (h0 := ?_) (L := ?_) (l := ?_) ?_ 9 ?_; rotate_left; rotate_left; rotate_left; assumption; rfl))
local macro_rules | `(tactic| walk_at "bd") => `(tactic| first | assumption | omega | (simp; done) | (simp; omega) | (simp [*]; done) | (simp [*]; omega))
local macro_rules | `(tactic| walk_at "w") => `(tactic| first
  | with_reducible refine w_seq ?_
  | with_reducible refine w_asg ?_
  | with_reducible refine w_cons ?_
  | with_reducible refine w_nil ?_
  | with_reducible refine w_c ?_
  | ((with_reducible refine w_var (d := ?_) ?_ ?_); rotate_left; rfl)
  | with_reducible refine w_bin ?_
  | with_reducible refine w_call ?_
  | with_reducible refine w_if ?_
  | with_reducible refine w_B ?_
  | with_reducible refine w_unB ?_
  | with_reducible refine w_ret ?_
  | with_reducible refine w_drop ?_
  | with_reducible refine w_skip ?_
  | with_reducible refine w_eq (dAdd_int _ _ _) ?_
  | with_reducible refine w_eq (dSub_int _ _ _) ?_
  | with_reducible refine w_eq (dEq_int _ _ _) ?_
  | with_reducible refine w_eq (dEq_str _ _ _) ?_
  | with_reducible refine w_eq (dNe_strs _ _ _) ?_
  | with_reducible refine w_eq (dEq_bls _ _ _) ?_
  | with_reducible refine w_eq (dNe_bls _ _ _) ?_
  | with_reducible refine w_eq (dLt_int _ _ _) ?_
  | with_reducible refine w_eq (dLe_int _ _ _) ?_
  | with_reducible refine w_eq (dGt_int _ _ _) ?_
  | with_reducible refine w_eq (dGe_int _ _ _) ?_
  | with_reducible refine w_eq (dNe_int _ _ _) ?_
  | ((with_reducible refine w_mod ?_ ?_); (first | assumption | decide | omega))
  | ((with_reducible refine w_fdiv ?_ ?_); (first | assumption | decide | omega))
  | ((with_reducible refine w_mulS ?_ ?_); (first | decide | omega))
  | ((with_reducible refine w_addS ?_ ?_); (first | assumption | decide | omega))
  | ((with_reducible refine w_lenS ?_ ?_); (first | assumption | decide | omega))
  | ((with_reducible refine w_slS ?_ ?_); (first | assumption | decide | omega))
  | with_reducible refine w_lenTm ?_
  | with_reducible refine w_eq (dLen_tup _ _) ?_
  | with_reducible refine w_eq (dSl_tup _ _ _ _) ?_
  | with_reducible refine w_eq (dMax_ev _ _ _) ?_
  | with_reducible refine w_eq (dMin_ev _ _ _) ?_
  | with_reducible refine w_eq (dAbs_ev _ _) ?_
  | with_reducible refine w_not ?_
  | with_reducible refine w_and ?_
  | with_reducible refine w_or ?_
  | with_reducible refine br_n ?_
  | with_reducible refine br_tt ?_
  | with_reducible refine br_ff ?_
  | ((with_reducible refine br_dt ?_ ?_); (first | assumption | omega | rfl))
  | ((with_reducible refine br_df ?_ ?_); (first | assumption | omega))
  | with_reducible refine w_tup ?_
  | ((with_reducible refine w_toTup ?_ ?_); exact (by simp))
  | with_reducible refine w_lst ?_
  | with_reducible refine w_lc ?_
  | with_reducible refine w_for ?_
  | with_reducible refine w_range1 ?_
  | with_reducible refine w_range2 ?_
  | ((with_reducible refine w_dR1 ?_ ?_); (first | decide | omega))
  | ((with_reducible refine w_dR2 ?_ ?_); (first | decide | omega))
  | with_reducible refine w_iter ?_
  | with_reducible refine w_eq (iter1_tup _ _) ?_
  | with_reducible refine w_eq (iter1_str _ _) ?_
  | with_reducible refine w_sl ?_
  | with_reducible refine w_no ?_
  | with_reducible refine w_some ?_
  | with_reducible refine w_unI ?_
  | with_reducible refine w_meth ?_
  | with_reducible refine w_isi ?_
  | with_reducible refine w_zip ?_
  | with_reducible refine w_ifE ?_
  | with_reducible refine w_andV ?_
  | with_reducible refine w_orV ?_
  | with_reducible refine w_notV ?_
  | with_reducible refine w_andK ?_
  | with_reducible refine w_orK ?_
  | with_reducible refine w_notK ?_
  | with_reducible refine w_revL ?_
  | with_reducible refine w_listRg1 ?_
  | with_reducible refine w_tindex ?_
  | with_reducible refine w_setIx ?_
  | with_reducible refine w_un ?_
  | with_reducible refine w_rev1 ?_
  | with_reducible refine w_rev2 ?_
  | with_reducible refine w_chain ?_
  | with_reducible refine w_chK ?_
  | with_reducible refine w_retN ?_
  | with_reducible refine w_brk ?_
  | with_reducible refine w_cont ?_
  | with_reducible refine w_asgT ?_
  | with_reducible refine w_eq (isi_str_str _ _) ?_
  | with_reducible refine w_eq (isi_int_int _ _) ?_
  | with_reducible refine w_eq (isi_tup_tup _ _) ?_
  | with_reducible refine w_eq (isi_bool_int _ _) ?_
  | with_reducible refine w_eq (isi_str_int _ _) ?_
  | ((with_reducible refine w_lenLm (α := ?_) (f := ?_) (l := ?_) ?_ ?_); rotate_left; rotate_left; rotate_left; walk_at "gl")
  | ((with_reducible refine w_lenL (l := ?_) ?_ ?_); rotate_left; walk_at "gl")
  | ((with_reducible refine w_iterL (l := ?_) ?_ ?_); rotate_left; walk_at "gl"; dsimp only)
  | ((with_reducible refine w_tupL (l := ?_) ?_ ?_); rotate_left; walk_at "gl")
  | ((with_reducible refine w_ixT (d := ?_) ?_ ?_); rotate_left; (first | with_reducible assumption | rfl))
  | ((with_reducible refine w_ixL (l := ?_) (d := ?_) ?_ ?_ ?_); rotate_left; rotate_left; walk_at "gl"; (first | with_reducible assumption | rfl))
  | ((with_reducible refine w_addT ?_ ?_); walk_at "bd")
  | ((with_reducible refine ⟨?_, ?_⟩); (with_reducible (show isListD (.ref _) _ = true)); walk_at "il")
  | with_reducible refine w_tryK ?_
  | with_reducible refine w_raise ?_
  | with_reducible refine w_raise0 ?_
  | with_reducible refine w_isX ?_
  | ((with_reducible refine w_isXK (k := ?_) ?_ ?_); rotate_left; (first | with_reducible exact lkA | (apply lkB; decide +kernel; exact lkA) | (apply lkB; decide +kernel; apply lkB; decide +kernel; exact lkA) | (apply lkB; decide +kernel; apply lkB; decide +kernel; apply lkB; decide +kernel; exact lkA)))
  | with_reducible refine w_xf ?_
  | ((with_reducible refine w_xfK ?_ ?_ ?_); (exact List.mem_cons_self); (decide))
  | with_reducible refine w_eq (isN_xo _) ?_
  | with_reducible refine w_eq (dNeg_int _ _) ?_)
local macro_rules | `(tactic| walk_at "go") => `(tactic| (repeat (walk_at "w")); try dsimp only [List.set])
local macro_rules | `(tactic| walk_at "fn") => `(tactic| ((refine w_fun ?_); simp only [startD, List.map_cons, List.map_nil, List.reduceReplicate, Nat.reduceSub, List.cons_append, List.nil_append]; walk_at "go"))
local macro_rules | `(tactic| walk_at "lk") => `(tactic| first | with_reducible exact lkA | (apply lkB; decide +kernel; walk_at "lk"))
local macro_rules | `(tactic| walk_at "mk") => `(tactic| first | with_reducible exact mkA | (apply mkB; decide +kernel; walk_at "mk"))
local macro_rules | `(tactic| walk_at "fk") => `(tactic| first | with_reducible exact fkA | exact fkN | (apply fkB; decide +kernel; walk_at "fk"))
local macro_rules | `(tactic| walk_at "cs") => `(tactic| first | exact List.mem_cons_self | (apply List.mem_cons_of_mem; walk_at "cs"))
local macro_rules | `(tactic| walk_at "w") => `(tactic| first
  | with_reducible refine w_fld ?_
  | ((with_reducible refine w_fldK (c := ?_) (fs := ?_) (v := ?_) ?_ ?_ ?_ ?_); rotate_left; rotate_left; rotate_left; (with_reducible assumption); (walk_at "cs"); (walk_at "fk"))
  | with_reducible refine w_setFld ?_
  | with_reducible refine w_new ?_
  | with_reducible refine w_methI ?_
  | ((with_reducible refine w_methK (c := ?_) (fs := ?_) (F := ?_) ?_ ?_ ?_ ?_); rotate_left; rotate_left; rotate_left; (with_reducible assumption); (walk_at "mk"); (walk_at "fk"))
  | with_reducible refine w_isC ?_
  | ((with_reducible refine w_isCK (c := ?_) (fs := ?_) (k := ?_) ?_ ?_ ?_); rotate_left; rotate_left; rotate_left; (with_reducible assumption); (walk_at "lk"))
  | with_reducible refine w_callD ?_
  | with_reducible refine w_mDSet ?_
  | with_reducible refine w_eq (nN_non _) ?_
  | with_reducible refine w_eq (nN_int _ _) ?_
  | with_reducible refine w_eq (nN_tup _ _) ?_
  | with_reducible refine w_eq (nN_ref _ _) ?_
  | with_reducible refine w_eq (iN_non _) ?_
  | with_reducible refine w_eq (iN_int _ _) ?_
  | with_reducible refine w_eq (iN_tup _ _) ?_
  | with_reducible refine w_eq (iN_ref _ _) ?_)
theorem cutD_take62 (l : List D) (k : Nat) : cutD l none (some (k : Int)) = l.take k := by
  unfold cutD
  rw [HT.sIx_none, HT.sIx_nat, List.drop_zero, Nat.sub_zero]
  rcases Nat.lt_or_ge k l.length with z | z
  · rw [Nat.min_eq_left (Nat.le_of_lt z)]
  · rw [Nat.min_eq_right z, List.take_length, List.take_of_length_le z]
theorem cutD_drop62 (l : List D) (k : Nat) : cutD l (some (k : Int)) none = l.drop k := by
  unfold cutD
  rw [HT.sIx_none, HT.sIx_nat]
  rcases Nat.lt_or_ge k l.length with z | z
  · rw [Nat.min_eq_left (Nat.le_of_lt z), List.take_of_length_le (by simp)]
  · rw [Nat.min_eq_right z, List.drop_of_length_le z, List.drop_length, List.take_nil]
section
variable {fs nl : List Str} {sv mk : List Int} {T : List D} {m : Int}
/-- the places looked at, from below up -/
def dueR (eq : Nat → Bool) : Nat → List Nat
  | 0 => []
  | a + 1 => a :: if eq a = true then [] else dueR eq a
def plT (pl : List Int) (a : Nat) : D := .tup ((pl.take a).map .int)
def eqA (nl : List Str) (sv : List Int) (T : List D) (d d' : Doc) (pl : List Int) (a : Nat) : Bool := decide (stA nl sv T d' (pl.take a) = stA nl sv T d (pl.take a))
def dueD (nl : List Str) (sv : List Int) (T : List D) (d d' : Doc) (pl : List Int) (n : Nat) : List D := (dueR (eqA nl sv T d d' pl) n).map (plT pl)
theorem dueR_len (eq : Nat → Bool) : ∀ n, (dueR eq n).length ≤ n
  | 0 => Nat.le_refl _
  | a + 1 => by
    rw [dueR, List.length_cons]
    split
    · simp
    · have := dueR_len eq a; omega
/-- the states while looking -/
def Sg (nl : List Str) (sv : List Int) (T : List D) (d d' : Doc) (pl : List Int) (n : Nat) (r : List Int) : Int := if r <+: pl ∧ r.length < n then stA nl sv T d r else stA nl sv T d' r
theorem pre_take {r pl : List Int} (h : r <+: pl) : r = pl.take r.length := by
  obtain ⟨t, rfl⟩ := h
  simp
theorem take_pre (pl : List Int) (a : Nat) : pl.take a <+: pl := List.take_prefix _ _
theorem same_below {d e : Doc} {pl : List Int} {x : Str} (he : d.at pl = some e) {a : Nat} (ha : a ≤ pl.length) (hs : stA nl sv T (Doc.ren pl x d) (pl.take a) = stA nl sv T d (pl.take a)) {b : Nat} (hb : b ≤ a) : stA nl sv T (Doc.ren pl x d) (pl.take b) = stA nl sv T d (pl.take b) := by
  have hn := at_nonneg he
  obtain ⟨ea, h1, _⟩ := at_pre he a
  obtain ⟨eb, h2, _⟩ := at_pre he b
  have r1 := ren_at x pl d (pl.take a) hn
  have r2 := ren_at x pl d (pl.take b) hn
  rw [h1, Option.map_some, if_pos (take_pre pl a), List.length_take, Nat.min_eq_left ha] at r1
  rw [h2, Option.map_some, if_pos (take_pre pl b), List.length_take, Nat.min_eq_left (by omega)] at r2
  rw [stA_of r1, stA_of h1] at hs
  rw [stA_of r2, stA_of h2]
  have ep : pl.drop b = (pl.take a).drop b ++ pl.drop a := by
    have : pl.take a ++ pl.drop a = pl := List.take_append_drop a pl
    calc pl.drop b = (pl.take a ++ pl.drop a).drop b := by rw [this]
      _ = _ := by rw [List.drop_append_of_le_length (by rw [List.length_take]; omega)]
  have em : eb.at ((pl.take a).drop b) = some ea := by
    have ez : pl.take a = (pl.take b) ++ (pl.take a).drop b := by
      have := List.take_append_drop b (pl.take a)
      rw [List.take_take, Nat.min_eq_left hb] at this
      exact this.symm
    rw [ez, at_app, h2, Option.bind_some] at h1
    exact h1
  rw [ep]
  exact stt_same hs _ eb em
/-- the renamed document, place by place -/
theorem ren_sp {d e : Doc} {pl : List Int} {x : Str} (he : d.at pl = some e) {r : List Int} {er : Doc} (hr : d.at r = some er) : ∃ er', (Doc.ren pl x d).at r = some er' ∧ er'.ks.length = er.ks.length ∧ er'.nm = (if r = pl then x else er.nm) ∧ (¬ r <+: pl → er' = er) := by
  have h := ren_at x pl d r (at_nonneg he)
  rw [hr, Option.map_some] at h
  refine ⟨_, h, ?_, ?_, fun n => by rw [if_neg n]⟩
  · split
    · rw [ren_ks]
    · rfl
  · by_cases p : r <+: pl
    · rw [if_pos p, ren_nm]
      have ep := pre_take p
      by_cases z : r = pl
      · subst z; simp
      · have hlt : r.length < pl.length := by
          have h1 := p.length_le
          rcases Nat.lt_or_ge r.length pl.length with q | q
          · exact q
          · exfalso; apply z; rw [ep, List.take_of_length_le q]
        have : ¬ pl.drop r.length = [] := fun q => by
          have := congrArg List.length q
          simp at this; omega
        rw [if_neg this, if_neg z]
    · rw [if_neg p]
      have z : ¬ r = pl := fun z => p (by subst z; exact List.prefix_rfl)
      rw [if_neg z]
theorem ren_back {d e : Doc} {pl : List Int} {x : Str} (he : d.at pl = some e) {r : List Int} {er' : Doc} (hr : (Doc.ren pl x d).at r = some er') : ∃ er, d.at r = some er := by
  have h := ren_at x pl d r (at_nonneg he)
  rw [hr] at h
  cases q : d.at r with
  | none => rw [q] at h; cases h
  | some er => exact ⟨er, rfl⟩
theorem at_szk : ∀ {r : List Int} {d e : Doc}, d.at r = some e → r.length + e.szk ≤ d.szk
  | [], d, e, h => by simp [Doc.at] at h; subst h; simp
  | v :: r, .mk x l, e, h => by
    rw [at_cons] at h
    split at h
    · rw [Option.bind_eq_some_iff] at h
      obtain ⟨c, h1, h2⟩ := h
      have h1 : l[v.toNat]? = some c := h1
      have := at_szk h2
      have := szks_mem (List.mem_of_getElem? h1)
      rw [Doc.szk, List.length_cons]; omega
    · cases h
theorem at_ks {r : List Int} {d e : Doc} (h : d.at r = some e) : e.ks.length < d.szk := by
  have := at_szk h
  obtain ⟨x, l⟩ := e
  have := szks_len l
  rw [Doc.szk] at *
  show l.length < _
  omega
theorem putS {x : Str} {s v : Int} {j : Nat} : putFD (Str.ofString "state") (.int v) (spotF x s j) = spotF x v j := by
  show putFD _ _ [_, _, _] = _
  rw [putFD, if_neg (neS61 "name" "state"), putFD, if_pos rfl]
theorem putN62 {x x' : Str} {s : Int} {j : Nat} : putFD (Str.ofString "name") (.str x') (spotF x s j) = spotF x' s j := by
  show putFD _ _ [_, _, _] = _
  rw [putFD, if_pos rfl]
theorem putK {tb y v : D} {j : Nat} : putFD (Str.ofString "last") v (keptF tb y j) = [(Str.ofString "machine", tb), (Str.ofString "top", y), (Str.ofString "last", v)] := by
  show putFD _ _ [_, _, _] = _
  rw [putFD, if_neg (neS61 "machine" "last"), putFD, if_neg (neS61 "top" "last"), putFD, if_pos rfl]
theorem updF_self {α : Type} (f : List Int → α) (r : List Int) : updF f r (f r) = f := by
  funext q
  unfold updF
  split
  · rename_i z; rw [z]
  · rfl
theorem k_look (M : Mc nl sv T m) {h : MH} {ik jl jp lo hi : Nat} {y : D} {d e : Doc} {x : Str} {pl : List Int} {I J : List Int → Nat} (hk : h[ik]? = some (.ins (Str.ofString "Kept") (keptF (tab61 fs nl sv T mk) y jl))) (hp : h[jp]? = some (.lst (pathL I pl pl.length))) (he : d.at pl = some e) (hz : d.szk ≤ 1000) (f : Fl lo hi h d I J (Sg nl sv T d (Doc.ren pl x d) pl (pl.length + 1)) (nmA (Doc.ren pl x d))) :
    Sat (m_Kept_look_1e813 [.ref ik, .ref jp, .tup (pl.map .int)] h) (fun y2 h' => ∃ js, y2 = .ref js ∧ h'[js]? = some (.lst (dueD nl sv T d (Doc.ren pl x d) pl (pl.length + 1))) ∧ Fz h h' ∧ h'[ik]? = some (.ins (Str.ofString "Kept") (keptF (tab61 fs nl sv T mk) y jl)) ∧ Fl lo hi h' d I J (stA nl sv T (Doc.ren pl x d)) (nmA (Doc.ren pl x d))) noX := by
  have hpl : pl.length ≤ 1000 := by have := at_szk he; omega
  have hpp : (pathL I pl pl.length).length = pl.length + 1 := pathL_len
  have gp := getL_of hp
  have hJb : ∀ r e, d.at r = some e → J r < h.length := fun r e hr => (List.getElem?_eq_some_iff.mp (f.lay r e hr).2.2.2).1
  walk_at "fn"
  refine o_new (Own.nil h) (by simp) fun iL h1 o1 => ?_
  have hiL := (o1.cell (iL, []) (by simp)).1
  simp only at hiL
  have cL := o1.at 0 rfl
  have hJ : ∀ r e, d.at r = some e → J r ≠ iL := fun r e hr => by have := hJb r e hr; omega
  have hnp : jp ≠ iL := by have := (List.getElem?_eq_some_iff.mp hp).1; omega
  have gp1 := pre_getL o1.pre gp
  walk_at "go"
  rw [List.length_range]
  walk_at "go"
  rw [Int.toNat_natCast]
  generalize hfull : dueD nl sv T d (Doc.ren pl x d) pl (pl.length + 1) = full at *
  refine w_loop0 (fun k ρ h' => ∃ (o4 o5 o6 : Option D) (acc : List D), ρ = [some (.ref ik), some (.ref jp), some (.tup (pl.map .int)), some (.ref iL), o4, o5, o6] ∧ h'[iL]? = some (.lst acc) ∧ Fz h h' ∧ h'[ik]? = some (.ins (Str.ofString "Kept") (keptF (tab61 fs nl sv T mk) y jl)) ∧ Fl lo hi h' d I J (Sg nl sv T d (Doc.ren pl x d) pl (pl.length + 1 - k)) (nmA (Doc.ren pl x d)) ∧ acc ++ dueD nl sv T d (Doc.ren pl x d) pl (pl.length + 1 - k) = full ∧ acc.length ≤ k) ⟨none, none, none, [], rfl, cL, Fz.pre o1.pre, pre_get o1.pre hk, f.pre o1.pre, by rw [List.nil_append]; exact hfull, Nat.le_refl _⟩ (fun _ _ _ _ => rfl) ?_ ?_
  · rintro k d' ρ h' hd' ⟨o4, o5, o6, acc, rfl, cL', fz, hk', f', hacc, hal⟩
    obtain ⟨hkk, rfl⟩ := revRangeD_get hd'
    obtain ⟨a, ha⟩ : ∃ a, pl.length = a + k := ⟨pl.length - k, by omega⟩
    have ea : pl.length + 1 - k = a + 1 := by omega
    have ea2 : pl.length + 1 - (k + 1) = a := by omega
    have ei : (0 : Int) + ((pl.length + 1 : Nat) : Int) - 1 - (k : Int) = (a : Int) := by omega
    rw [ea] at f' hacc
    rw [ei, ea2]
    have hal' : a ≤ pl.length := by omega
    obtain ⟨c, ec, _⟩ := at_pre he a
    have hn := at_nonneg he
    have rc := ren_at x pl d (pl.take a) hn
    rw [ec, Option.map_some, if_pos (take_pre pl a), List.length_take, Nat.min_eq_left hal'] at rc
    obtain ⟨_, _, e4, e5⟩ := f'.lay _ c ec
    have gp' := fz.getL gp
    have ap : atI (pathL I pl pl.length) (a : Int) = some (.ref (I (pl.take a))) := pathL_at hal'
    have hcl := at_ks ec
    have hks : (Doc.ren (pl.drop a) x c).ks.length = c.ks.length := ren_ks _ _ _
    -- the state from below
    have hsS : Sg nl sv T d (Doc.ren pl x d) pl (a + 1) (pl.take a) = c.stt nl sv T := by
      unfold Sg
      rw [if_pos ⟨take_pre pl a, by rw [List.length_take]; omega⟩, stA_of ec]
    rw [hsS] at e4
    have g5 := getL_of e5
    rw [← hks] at g5
    have kid : ∀ (q : Nat) cq, (Doc.ren (pl.drop a) x c).ks[q]? = some cq → ∃ y j', h'[I (pl.take a ++ [(q : Int)])]? = some (.ins (Str.ofString "Spot") (spotF y (cq.stt nl sv T) j')) := fun q cq hq => by
      have hq2 := (List.getElem?_eq_some_iff.mp hq).1
      have hat : (Doc.ren pl x d).at (pl.take a ++ [(q : Int)]) = some cq := by
        generalize hR : Doc.ren (pl.drop a) x c = R at *
        obtain ⟨xr, lr⟩ := R
        exact at_kid rc hq
      obtain ⟨er, her⟩ := ren_back he hat
      obtain ⟨_, _, q1, _⟩ := f'.lay _ er her
      have hs : Sg nl sv T d (Doc.ren pl x d) pl (a + 1) (pl.take a ++ [(q : Int)]) = cq.stt nl sv T := by
        unfold Sg
        rw [if_neg (fun z => by have := z.2; simp at this; omega), stA_of hat]
      rw [hs] at q1
      exact ⟨_, _, q1⟩
    have hnm : nmA (Doc.ren pl x d) (pl.take a) = (Doc.ren (pl.drop a) x c).nm := nmA_of rc
    rw [hnm] at e4
    refine ⟨_, rfl, ?_⟩
    dsimp only [List.set]
    walk_at "go"
    refine (k_statebyF M (r := pl.take a) g5 kid (by omega)).mono ?_
    rintro y3 h3 ⟨rfl, rfl⟩
    rw [← stt_nk]
    walk_at "go"
    refine ⟨by rw [isListD_ref, getL_of cL']; rfl, ?_⟩
    walk_at "go"
    refine w_app cL' (by omega) ?_
    have ltL := (List.getElem?_eq_some_iff.mp cL').1
    have ecut : cutD (pl.map D.int) none (some (a : Int)) = (pl.take a).map D.int := by
      rw [cutD_take62, List.map_take]
    rw [ecut]
    have f3 := f'.keep (o := .lst (acc ++ [.tup ((pl.take a).map D.int)])) hJ cL'
    have c3 : (h3.set iL (.lst (acc ++ [.tup ((pl.take a).map D.int)])))[iL]? = some (.lst (acc ++ [.tup ((pl.take a).map D.int)])) := List.getElem?_set_self ltL
    have fz3 : Fz h (h3.set iL (.lst (acc ++ [.tup ((pl.take a).map D.int)]))) := fz.setN hiL
    have hk3 : (h3.set iL (.lst (acc ++ [.tup ((pl.take a).map D.int)])))[ik]? = some (.ins (Str.ofString "Kept") (keptF (tab61 fs nl sv T mk) y jl)) := by
      rw [List.getElem?_set_ne (neSpot hk' cL').symm]; exact hk'
    have e43 : (h3.set iL (.lst (acc ++ [.tup ((pl.take a).map D.int)])))[I (pl.take a)]? = some (.ins (Str.ofString "Spot") (spotF (Doc.ren (pl.drop a) x c).nm (c.stt nl sv T) (J (pl.take a)))) := by
      rw [List.getElem?_set_ne (neSpot e4 cL').symm]; exact e4
    generalize h3.set iL (.lst (acc ++ [.tup ((pl.take a).map D.int)])) = h4 at *
    have heq : eqA nl sv T d (Doc.ren pl x d) pl a = decide ((Doc.ren (pl.drop a) x c).stt nl sv T = c.stt nl sv T) := by
      unfold eqA
      rw [stA_of rc, stA_of ec]
    have hdue : dueD nl sv T d (Doc.ren pl x d) pl (a + 1) = .tup ((pl.take a).map D.int) :: if eqA nl sv T d (Doc.ren pl x d) pl a = true then [] else dueD nl sv T d (Doc.ren pl x d) pl a := by
      unfold dueD
      rw [dueR, List.map_cons]
      split <;> rfl
    rw [hdue] at hacc
    walk_at "go"
    refine br_d (fun q => ?_) (fun q => ?_)
    · have hq : eqA nl sv T d (Doc.ren pl x d) pl a = true := by rw [heq]; exact decide_eq_true q
      rw [if_pos hq] at hacc
      walk_at "go"
      refine ⟨iL, rfl, by rw [c3, hacc], fz3, hk3, f3.congr fun r er hr => ⟨?_, rfl⟩⟩
      unfold Sg
      split
      · rename_i z
        have ez := pre_take z.1
        have hs : stA nl sv T (Doc.ren pl x d) (pl.take a) = stA nl sv T d (pl.take a) := by rw [stA_of rc, stA_of ec]; exact q
        rw [ez]
        exact (same_below he hal' hs (by have := z.2; omega)).symm
      · rfl
    · have hq : eqA nl sv T d (Doc.ren pl x d) pl a = false := by rw [heq]; exact decide_eq_false q
      rw [hq, if_neg (by simp)] at hacc
      walk_at "go"
      refine w_setFldK e43 (by simp) (by simp) ?_
      rw [putS]
      have f4 := f3.set ec (Doc.ren (pl.drop a) x c).nm ((Doc.ren (pl.drop a) x c).stt nl sv T)
      refine ⟨_, _, _, acc ++ [.tup ((pl.take a).map D.int)], rfl, ?_, fz3.trans (Fz.setI e43), ?_, ?_, ?_, by simp; omega⟩
      · rw [List.getElem?_set_ne (neSpot e43 c3)]; exact c3
      · have : I (pl.take a) ≠ ik := fun z => by
          rw [z, hk3] at e43
          simp only [Option.some.injEq, MO.ins.injEq] at e43
          exact neKS e43.1
        rw [List.getElem?_set_ne this]; exact hk3
      · refine f4.congr fun r er hr => ⟨?_, ?_⟩
        · unfold updF Sg
          by_cases z : r = pl.take a
          · subst z
            rw [if_pos rfl, if_neg (fun z => by have := z.2; rw [List.length_take] at this; omega), stA_of rc]
          · rw [if_neg z]
            by_cases z2 : r <+: pl ∧ r.length < a
            · rw [if_pos z2, if_pos ⟨z2.1, by omega⟩]
            · rw [if_neg z2, if_neg]
              rintro ⟨p, q2⟩
              have : r.length = a := by
                rcases Nat.lt_or_ge r.length a with q3 | q3
                · exact absurd ⟨p, q3⟩ z2
                · omega
              exact z (by rw [← this]; exact pre_take p)
        · rw [← hnm, updF_self]
      · rw [List.append_assoc]; exact hacc
  · rintro ρ h' ⟨o4, o5, o6, acc, rfl, cL', fz, hk', f', hacc, hal⟩
    rw [revRangeD_length, Nat.sub_self] at f' hacc
    walk_at "go"
    refine ⟨iL, rfl, ?_, fz, hk', f'.congr fun r er hr => ⟨?_, rfl⟩⟩
    · rw [cL', ← hacc]; simp [dueD, dueR]
    · unfold Sg; rw [if_neg (fun z => by have := z.2; omega)]
theorem k_rename (M : Mc nl sv T m) {h : MH} {ik : Nat} {d e : Doc} {x : Str} {pl : List Int} {Ls : List D} (kp : KpL fs nl sv mk T h ik d Ls) (he : d.at pl = some e) (hz : d.szk ≤ 1000) (hx : Nm x) :
    Sat (m_Kept_rename_e8d43 [.ref ik, .tup (pl.map .int), .str x] h) (fun y h' => y = .non ∧ Fz h h' ∧ KpL fs nl sv mk T h' ik (Doc.ren pl x d) (dueD nl sv T d (Doc.ren pl x d) pl (pl.length + 1))) noX := by
  obtain ⟨I, J, jl, hi, hk, hl, f⟩ := kp
  have hpl : pl.length ≤ 1000 := by have := at_szk he; omega
  walk_at "fn"
  refine (k_spotsF hk f he hpl).mono ?_
  rintro r h1 ⟨jp, rfl, o1⟩
  have hk1 := pre_get o1.pre hk
  have f1 := f.pre o1.pre
  have cp1 := o1.at 0 rfl
  have gp1 := getL_of cp1
  have apl : atI (pathL I pl pl.length) (-1) = some (.ref (I pl)) := by rw [pathL_last, List.take_length]
  obtain ⟨_, _, e4, e5⟩ := f1.lay pl e he
  walk_at "go"
  refine (k_isname hx).mono ?_
  rintro r h1' ⟨rfl, rfl⟩
  walk_at "go"
  refine w_setFldK e4 (by simp) (by simp) ?_
  rw [putN62]
  have f2 := f1.set he x (stA nl sv T d pl)
  have fz2 : Fz h (h1'.set (I pl) (.ins (Str.ofString "Spot") (spotF x (stA nl sv T d pl) (J pl)))) := (Fz.pre o1.pre).trans (Fz.setI e4)
  have hk2 : (h1'.set (I pl) (.ins (Str.ofString "Spot") (spotF x (stA nl sv T d pl) (J pl))))[ik]? = some (.ins (Str.ofString "Kept") (keptF (tab61 fs nl sv T mk) (.ref (I [])) jl)) := by
    have : I pl ≠ ik := fun z => by
      rw [z, hk1] at e4
      simp only [Option.some.injEq, MO.ins.injEq] at e4
      exact neKS e4.1
    rw [List.getElem?_set_ne this]; exact hk1
  have cp2 : (h1'.set (I pl) (.ins (Str.ofString "Spot") (spotF x (stA nl sv T d pl) (J pl))))[jp]? = some (.lst (pathL I pl pl.length)) := by
    rw [List.getElem?_set_ne (neSpot e4 cp1)]; exact cp1
  generalize h1'.set (I pl) (.ins (Str.ofString "Spot") (spotF x (stA nl sv T d pl) (J pl))) = h2 at *
  have f3 : Fl 0 hi h2 d I J (Sg nl sv T d (Doc.ren pl x d) pl (pl.length + 1)) (nmA (Doc.ren pl x d)) := f2.congr fun r er hr => by
    obtain ⟨er', k1, k2, k3, k4⟩ := ren_sp (x := x) he hr
    rw [updF_self]
    refine ⟨?_, ?_⟩
    · unfold Sg
      by_cases z : r <+: pl
      · rw [if_pos ⟨z, by have := z.length_le; omega⟩]
      · rw [if_neg fun q => z q.1, stA_of k1, stA_of hr, k4 z]
    · unfold updF
      rw [nmA_of k1, k3, nmA_of hr]
  walk_at "go"
  refine (k_look M hk2 cp2 he hz f3).mono ?_
  rintro r h3 ⟨js, rfl, c3, fz3, hk3, f4⟩
  walk_at "go"
  refine w_setFldK hk3 (by simp) (by simp) ?_
  rw [putK]
  have f5 := f4.setK hk3 (o := .ins (Str.ofString "Kept") (keptF (tab61 fs nl sv T mk) (.ref (I [])) js))
  refine ⟨by trivial, (fz2.trans fz3).trans (Fz.setI hk3), I, J, js, hi, List.getElem?_set_self (List.getElem?_eq_some_iff.mp hk3).1, ?_, ?_⟩
  · rw [List.getElem?_set_ne (neSpot hk3 c3)]; exact c3
  · refine ⟨fun r er hr => ?_, fun r r' er er' hr hr' q => ?_⟩
    · obtain ⟨e1, he1⟩ := ren_back he hr
      obtain ⟨er', k1, k2, _⟩ := ren_sp (x := x) he he1
      rw [hr] at k1
      cases k1
      have := f5.lay r e1 he1
      rw [← k2] at this
      exact this
    · obtain ⟨e1, he1⟩ := ren_back he hr
      obtain ⟨e2, he2⟩ := ren_back he hr'
      exact f5.inj r r' e1 e2 he1 he2 q
end
end Mi

namespace Mi
open PySem L2
local macro_rules | `(tactic| walk_at "gl") => `(tactic| first
  | assumption
  | (refine Own.atL (h0 := ?_) (L := ?_) ?_ 0 ?_; rotate_left; rotate_left; assumption; rfl)
  | (refine Own.atL (h0 := ?_) (L := ?_) ?_ 1 ?_; rotate_left; rotate_left; assumption; rfl)
  | (refine Own.atL (h0 := ?_) (L := ?_) ?_ 2 ?_; rotate_left; rotate_left; assumption; rfl)
  | (refine Own.atL (h0 := ?_) (L := ?_) ?_ 3 ?_; rotate_left; rotate_left; assumption; rfl)
  | (refine Own.atL (h0 := ?_) (L := ?_) ?_ 4 ?_; rotate_left; rotate_left; assumption; rfl)
  | (refine Own.atL (h0 := ?_) (L := ?_) ?_ 5 ?_; rotate_left; rotate_left; assumption; rfl)
  | (refine Own.atL (h0 := ?_) (L := ?_) ?_ 6 ?_; rotate_left; rotate_left; assumption; rfl)
  | (refine Own.atL (h0 := ?_) (L := ?_) ?_ 7 ?_; rotate_left; rotate_left; assumption; rfl)
  | (refine Own.atL (h0 := ?_) (L := ?_) ?_ 8 ?_; rotate_left; rotate_left; assumption; rfl)
  | (refine Own.atL (h0 := ?_) (L := ?_) ?_ 9 ?_; rotate_left; rotate_left; assumption; rfl)
  | (refine Own.getL (h0 := ?_) (L := ?_) ?_ ?_; rotate_left; rotate_left; assumption; assumption))
local macro_rules | `(tactic| walk_at "il") => `(tactic| first
  | (refine Own.isL (h0 := ?_) (L := ?_) (l := ?_) ?_ 0 ?_; rotate_left; rotate_left; rotate_left; assumption; rfl)
  | (refine Own.isL (h0 := ?_) (L := ?_) (l := ?_) ?_ 1 ?_; rotate_left; rotate_left; rotate_left; assumption; rfl)
  | (refine Own.isL (h0 := ?_) (L := ?_) (l := ?_) ?_ 2 ?_; rotate_left; rotate_left; rotate_left; assumption; rfl)
  | (refine Own.isL (h0 := ?_) (L := ?_) (l := ?_) ?_ 3 ?_; rotate_left; rotate_left; rotate_left; assumption; rfl)
  | (refine Own.isL (h0 := ?_) (L := ?_) (l := ?_) ?_ 4 ?_; rotate_left; rotate_left; rotate_left; assumption; rfl)
  | (refine Own.isL (h0 := ?_) (L := ?_) (l := ?_) ?_ 5 ?_; rotate_left; rotate_left; rotate_left; assumption; rfl)
  | (refine Own.isL (h0 := ?_) (L := ?_) (l := ?_) ?_ 6 ?_; rotate_left; rotate_left; rotate_left; assumption; rfl)
  | (refine Own.isL (h0 := ?_) (L := ?_) (l := ?_) ?_ 7 ?_; rotate_left; rotate_left; rotate_left; assumption; rfl)
  | (refine Own.isL (h0 := ?_) (L := ?_) (l := ?_) ?_ 8 ?_; rotate_left; rotate_left; rotate_left; assumption; rfl)
  | (refine Own.isL (h0 := ?_) (L := ?_) (l := ?_) ?_ 9 ?_; rotate_left; rotate_left; rotate_left; assumption; rfl))
local macro_rules | `(tactic| walk_at "bd") => `(tactic| first | assumption | omega | (simp; done) | (simp; omega) | (simp [*]; done) | (simp [*]; omega))
local macro_rules | `(tactic| walk_at "w") => `(tactic| first
  | with_reducible refine w_seq ?_
  | with_reducible refine w_asg ?_
  | with_reducible refine w_cons ?_
  | with_reducible refine w_nil ?_
  | with_reducible refine w_c ?_
  | ((with_reducible refine w_var (d := ?_) ?_ ?_); rotate_left; rfl)
  | with_reducible refine w_bin ?_
  | with_reducible refine w_call ?_
  | with_reducible refine w_if ?_
  | with_reducible refine w_B ?_
  | with_reducible refine w_unB ?_
  | with_reducible refine w_ret ?_
  | with_reducible refine w_drop ?_
  | with_reducible refine w_skip ?_
  | with_reducible refine w_eq (dAdd_int _ _ _) ?_
  | with_reducible refine w_eq (dSub_int _ _ _) ?_
  | with_reducible refine w_eq (dEq_int _ _ _) ?_
  | with_reducible refine w_eq (dEq_str _ _ _) ?_
  | with_reducible refine w_eq (dNe_strs _ _ _) ?_
  | with_reducible refine w_eq (dEq_bls _ _ _) ?_
  | with_reducible refine w_eq (dNe_bls _ _ _) ?_
  | with_reducible refine w_eq (dLt_int _ _ _) ?_
  | with_reducible refine w_eq (dLe_int _ _ _) ?_
  | with_reducible refine w_eq (dGt_int _ _ _) ?_
  | with_reducible refine w_eq (dGe_int _ _ _) ?_
  | with_reducible refine w_eq (dNe_int _ _ _) ?_
  | ((with_reducible refine w_mod ?_ ?_); (first | assumption | decide | omega))
  | ((with_reducible refine w_fdiv ?_ ?_); (first | assumption | decide | omega))
  | ((with_reducible refine w_mulS ?_ ?_); (first | decide | omega))
  | ((with_reducible refine w_addS ?_ ?_); (first | assumption | decide | omega))
  | ((with_reducible refine w_lenS ?_ ?_); (first | assumption | decide | omega))
  | ((with_reducible refine w_slS ?_ ?_); (first | assumption | decide | omega))
  | with_reducible refine w_lenTm ?_
  | with_reducible refine w_eq (dLen_tup _ _) ?_
  | with_reducible refine w_eq (dSl_tup _ _ _ _) ?_
  | with_reducible refine w_eq (dMax_ev _ _ _) ?_
  | with_reducible refine w_eq (dMin_ev _ _ _) ?_
  | with_reducible refine w_eq (dAbs_ev _ _) ?_
  | with_reducible refine w_not ?_
  | with_reducible refine w_and ?_
  | with_reducible refine w_or ?_
  | with_reducible refine br_n ?_
  | with_reducible refine br_tt ?_
  | with_reducible refine br_ff ?_
  | ((with_reducible refine br_dt ?_ ?_); (first | assumption | omega | rfl))
  | ((with_reducible refine br_df ?_ ?_); (first | assumption | omega))
  | with_reducible refine w_tup ?_
  | ((with_reducible refine w_toTup ?_ ?_); exact (by simp))
  | with_reducible refine w_lst ?_
  | with_reducible refine w_lc ?_
  | with_reducible refine w_for ?_
  | with_reducible refine w_range1 ?_
  | with_reducible refine w_range2 ?_
  | ((with_reducible refine w_dR1 ?_ ?_); (first | decide | omega))
  | ((with_reducible refine w_dR2 ?_ ?_); (first | decide | omega))
  | with_reducible refine w_iter ?_
  | with_reducible refine w_eq (iter1_tup _ _) ?_
  | with_reducible refine w_eq (iter1_str _ _) ?_
  | with_reducible refine w_sl ?_
  | with_reducible refine w_no ?_
  | with_reducible refine w_some ?_
  | with_reducible refine w_unI ?_
  | with_reducible refine w_meth ?_
  | with_reducible refine w_isi ?_
  | with_reducible refine w_zip ?_
  | with_reducible refine w_ifE ?_
  | with_reducible refine w_andV ?_
  | with_reducible refine w_orV ?_
  | with_reducible refine w_notV ?_
  | with_reducible refine w_andK ?_
  | with_reducible refine w_orK ?_
  | with_reducible refine w_notK ?_
  | with_reducible refine w_revL ?_
  | with_reducible refine w_listRg1 ?_
  | with_reducible refine w_tindex ?_
  | with_reducible refine w_setIx ?_
  | with_reducible refine w_un ?_
  | with_reducible refine w_rev1 ?_
  | with_reducible refine w_rev2 ?_
  | with_reducible refine w_chain ?_
  | with_reducible refine w_chK ?_
  | with_reducible refine w_retN ?_
  | with_reducible refine w_brk ?_
  | with_reducible refine w_cont ?_
  | with_reducible refine w_asgT ?_
  | with_reducible refine w_eq (isi_str_str _ _) ?_
  | with_reducible refine w_eq (isi_int_int _ _) ?_
  | with_reducible refine w_eq (isi_tup_tup _ _) ?_
  | with_reducible refine w_eq (isi_bool_int _ _) ?_
  | with_reducible refine w_eq (isi_str_int _ _) ?_
  | ((with_reducible refine w_lenLm (α := ?_) (f := ?_) (l := ?_) ?_ ?_); rotate_left; rotate_left; rotate_left; walk_at "gl")
  | ((with_reducible refine w_lenL (l := ?_) ?_ ?_); rotate_left; walk_at "gl")
  | ((with_reducible refine w_iterL (l := ?_) ?_ ?_); rotate_left; walk_at "gl"; dsimp only)
  | ((with_reducible refine w_tupL (l := ?_) ?_ ?_); rotate_left; walk_at "gl")
  | ((with_reducible refine w_ixT (d := ?_) ?_ ?_); rotate_left; (first | with_reducible assumption | rfl))
  | ((with_reducible refine w_ixL (l := ?_) (d := ?_) ?_ ?_ ?_); rotate_left; rotate_left; walk_at "gl"; (first | with_reducible assumption | rfl))
  | ((with_reducible refine w_addT ?_ ?_); walk_at "bd")
  | ((with_reducible refine ⟨?_, ?_⟩); (with_reducible (show isListD (.ref _) _ = true)); walk_at "il")
  | with_reducible refine w_tryK ?_
  | with_reducible refine w_raise ?_
  | with_reducible refine w_raise0 ?_
  | with_reducible refine w_isX ?_
  | ((with_reducible refine w_isXK (k := ?_) ?_ ?_); rotate_left; (first | with_reducible exact lkA | (apply lkB; decide +kernel; exact lkA) | (apply lkB; decide +kernel; apply lkB; decide +kernel; exact lkA) | (apply lkB; decide +kernel; apply lkB; decide +kernel; apply lkB; decide +kernel; exact lkA)))
  | with_reducible refine w_xf ?_
  | ((with_reducible refine w_xfK ?_ ?_ ?_); (exact List.mem_cons_self); (decide))
  | with_reducible refine w_eq (isN_xo _) ?_
  | with_reducible refine w_eq (dNeg_int _ _) ?_)
local macro_rules | `(tactic| walk_at "go") => `(tactic| (repeat (walk_at "w")); try dsimp only [List.set])
local macro_rules | `(tactic| walk_at "fn") => `(tactic| ((refine w_fun ?_); simp only [startD, List.map_cons, List.map_nil, List.reduceReplicate, Nat.reduceSub, List.cons_append, List.nil_append]; walk_at "go"))
local macro_rules | `(tactic| walk_at "lk") => `(tactic| first | with_reducible exact lkA | (apply lkB; decide +kernel; walk_at "lk"))
local macro_rules | `(tactic| walk_at "mk") => `(tactic| first | with_reducible exact mkA | (apply mkB; decide +kernel; walk_at "mk"))
local macro_rules | `(tactic| walk_at "fk") => `(tactic| first | with_reducible exact fkA | exact fkN | (apply fkB; decide +kernel; walk_at "fk"))
local macro_rules | `(tactic| walk_at "cs") => `(tactic| first | exact List.mem_cons_self | (apply List.mem_cons_of_mem; walk_at "cs"))
local macro_rules | `(tactic| walk_at "w") => `(tactic| first
  | with_reducible refine w_fld ?_
  | ((with_reducible refine w_fldK (c := ?_) (fs := ?_) (v := ?_) ?_ ?_ ?_ ?_); rotate_left; rotate_left; rotate_left; (with_reducible assumption); (walk_at "cs"); (walk_at "fk"))
  | with_reducible refine w_setFld ?_
  | with_reducible refine w_new ?_
  | with_reducible refine w_methI ?_
  | ((with_reducible refine w_methK (c := ?_) (fs := ?_) (F := ?_) ?_ ?_ ?_ ?_); rotate_left; rotate_left; rotate_left; (with_reducible assumption); (walk_at "mk"); (walk_at "fk"))
  | with_reducible refine w_isC ?_
  | ((with_reducible refine w_isCK (c := ?_) (fs := ?_) (k := ?_) ?_ ?_ ?_); rotate_left; rotate_left; rotate_left; (with_reducible assumption); (walk_at "lk"))
  | with_reducible refine w_callD ?_
  | with_reducible refine w_mDSet ?_
  | with_reducible refine w_eq (nN_non _) ?_
  | with_reducible refine w_eq (nN_int _ _) ?_
  | with_reducible refine w_eq (nN_tup _ _) ?_
  | with_reducible refine w_eq (nN_ref _ _) ?_
  | with_reducible refine w_eq (iN_non _) ?_
  | with_reducible refine w_eq (iN_int _ _) ?_
  | with_reducible refine w_eq (iN_tup _ _) ?_
  | with_reducible refine w_eq (iN_ref _ _) ?_)
/-! ### dicts of places -/
def nkP (pl : List Int) : NestedKey := .tup (pl.map .num)
theorem nkDs_int : ∀ pl : List Int, nkDs (pl.map .int) = some (pl.map .num)
  | [] => rfl
  | v :: pl => by
    show nkDs (D.int v :: pl.map .int) = _
    rw [nkDs, nkDs_int pl]
    rfl
theorem depthAll_num : ∀ pl : List Int, NestedKey.depthAll (pl.map .num) = 0
  | [] => rfl
  | v :: pl => by
    show NestedKey.depthAll (NestedKey.num v :: pl.map .num) = 0
    rw [NestedKey.depthAll, depthAll_num pl]
    rfl
theorem nkT_int (pl : List Int) : nkT (.tup (pl.map .int)) = some (nkP pl) := by
  have e : nkD (.tup (pl.map .int)) = some (nkP pl) := by
    rw [nkD, nkDs_int]; rfl
  have hd : (nkP pl).depth ≤ 8 := by
    unfold nkP
    rw [NestedKey.depth, depthAll_num]
    decide
  unfold nkT
  simp only [e, if_pos hd]
theorem nkP_inj {a b : List Int} (h : nkP a = nkP b) : a = b := by
  unfold nkP at h
  injection h with h
  exact List.map_inj_right (fun x y z => by injection z) |>.mp h
theorem pairsN_pls : ∀ qs : List (List Int × Int), pairsN (qs.map plD) = some (qs.map fun q => (nkP q.1, D.int q.2))
  | [] => rfl
  | q :: qs => by
    show pairsN (.tup [.tup (q.1.map .int), .int q.2] :: qs.map plD) = _
    unfold pairsN
    simp only [nkT_int, pairsN_pls qs]
    rfl
theorem valN_cons (p : NestedKey × D) (l : List (NestedKey × D)) (k : NestedKey) : valN (p :: l) k = if p.1 = k then some p.2 else valN l k := by
  unfold valN
  rw [List.find?_cons]
  by_cases z : p.1 = k <;> simp [z]
theorem valN_map (k : NestedKey) (d : D) (k' : NestedKey) : ∀ l : List (NestedKey × D), valN (l.map fun x => if x.1 = k then (x.1, d) else x) k' = if k' = k then (valN l k).map (fun _ => d) else valN l k'
  | [] => by simp [valN]
  | p :: l => by
    rw [List.map_cons, valN_cons, valN_map k d k' l, valN_cons, valN_cons]
    by_cases z : p.1 = k
    · rw [if_pos z]
      by_cases z2 : k' = k
      · subst z2; simp [z]
      · have z3 : ¬ p.1 = k' := fun q => z2 (by rw [← q, z])
        have z4 : ¬ k = k' := fun q => z2 q.symm
        simp [z, z2, z3, z4]
    · rw [if_neg z]
      by_cases z2 : k' = k
      · subst z2; simp [z]
      · simp [z, z2]
theorem valN_app (k : NestedKey) (d : D) (k' : NestedKey) : ∀ l : List (NestedKey × D), valN (l ++ [(k, d)]) k' = match valN l k' with
    | some v => some v
    | none => if k = k' then some d else none
  | [] => by simp [valN_cons]; simp [valN]
  | p :: l => by
    rw [List.cons_append, valN_cons, valN_app k d k' l, valN_cons]
    by_cases z : p.1 = k' <;> simp [z]
theorem valN_put (l : List (NestedKey × D)) (k : NestedKey) (d : D) (k' : NestedKey) : valN (putN l k d) k' = if k = k' then some d else valN l k' := by
  unfold putN
  split
  · rename_i z
    rw [valN_map]
    by_cases q : k = k'
    · subst q
      rw [if_pos rfl, if_pos rfl]
      obtain ⟨v, hv⟩ := Option.isSome_iff_exists.mp z
      rw [hv]; rfl
    · rw [if_neg q, if_neg fun w => q w.symm]
  · rename_i z
    rw [valN_app]
    by_cases q : k = k'
    · subst q
      have : valN l k = none := by
        cases hv : valN l k with
        | none => rfl
        | some v => rw [hv] at z; simp at z
      rw [this]
    · rw [if_neg q]
      cases valN l k' <;> simp [q]
theorem valN_fold {k : NestedKey} {v : D} : ∀ (l acc : List (NestedKey × D)), (∀ p ∈ l, p.1 = k → p.2 = v) → (valN acc k = some v ∨ ∃ p ∈ l, p.1 = k) → valN (foldN acc l) k = some v
  | [], acc, _, h => by
    rcases h with h | ⟨p, hp, _⟩
    · exact h
    · simp at hp
  | p :: l, acc, hv, h => by
    show valN (foldN (putN acc p.1 p.2) l) k = some v
    refine valN_fold l _ (fun q hq => hv q (List.mem_cons_of_mem _ hq)) ?_
    rw [valN_put]
    by_cases z : p.1 = k
    · rw [if_pos z, hv p List.mem_cons_self z]; exact .inl rfl
    · rw [if_neg z]
      rcases h with h | ⟨q, hq, e⟩
      · exact .inl h
      · rcases List.mem_cons.mp hq with rfl | hq
        · exact absurd e z
        · exact .inr ⟨q, hq, e⟩
section
variable {F0 K0 : D} {fs nl : List Str} {sv mk : List Int} {T : List D} {m : Int}
theorem plss_mem {pl : List Int} {q : List Int × Int} {c : Doc} : ∀ (l : List Doc) (k i : Nat), l[i]? = some c → q ∈ c.pls nl sv T (pl ++ [((k + i : Nat) : Int)]) → q ∈ Doc.plss nl sv T l pl k
  | [], k, i, h, _ => by simp at h
  | d :: l, k, 0, h, hq => by
    simp at h
    subst h
    rw [Doc.plss]
    exact List.mem_append_left _ hq
  | d :: l, k, i + 1, h, hq => by
    rw [Doc.plss]
    refine List.mem_append_right _ (plss_mem l (k + 1) i (by simpa using h) ?_)
    rw [show k + 1 + i = k + (i + 1) by omega]
    exact hq
theorem pls_mem : ∀ (r : List Int) (d e : Doc) (pl : List Int), d.at r = some e → (pl ++ r, e.stt nl sv T) ∈ d.pls nl sv T pl
  | [], .mk x l, e, pl, h => by
    simp [Doc.at] at h
    subst h
    rw [Doc.pls, List.append_nil]
    exact List.mem_cons_self
  | v :: r, .mk x l, e, pl, h => by
    rw [at_cons] at h
    split at h
    · rename_i h0
      rw [Option.bind_eq_some_iff] at h
      obtain ⟨c, h1, h2⟩ := h
      have ih := pls_mem r c e (pl ++ [v]) h2
      rw [Doc.pls]
      refine List.mem_cons_of_mem _ (plss_mem l 0 v.toNat h1 ?_)
      rw [Nat.zero_add, Int.toNat_of_nonneg h0]
      simpa using ih
    · cases h
abbrev dcN (nl : List Str) (sv : List Int) (T : List D) (d : Doc) : List (NestedKey × D) := foldN [] ((d.pls nl sv T []).map fun q => (nkP q.1, D.int q.2))
theorem dcN_at {d e : Doc} {r : List Int} (h : d.at r = some e) : valN (dcN nl sv T d) (nkP r) = some (.int (stA nl sv T d r)) := by
  rw [stA_of h]
  refine valN_fold _ _ (fun p hp ek => ?_) (.inr ⟨(nkP r, .int (e.stt nl sv T)), List.mem_map.mpr ⟨(r, e.stt nl sv T), by have := pls_mem (nl := nl) (sv := sv) (T := T) r d e [] h; simpa using this, rfl⟩, rfl⟩)
  obtain ⟨q, hq, rfl⟩ := List.mem_map.mp hp
  have := nkP_inj ek
  subst this
  obtain ⟨r', e', h1, h2, h3, _⟩ := pls_at d [] q hq
  rw [List.nil_append] at h1
  rw [h1, h2] at h
  cases h
  show D.int q.2 = _
  rw [h3]
theorem cutD_neg1 (l : List D) : cutD l none (some (-1)) = l.take (l.length - 1) := by
  unfold cutD
  rw [HT.sIx_none, List.drop_zero, Nat.sub_zero]
  have : HT.sIx l.length l.length (some (-1)) = l.length - 1 := by
    show (if (-1 : Int) < 0 then ((-1 : Int) + (l.length : Int)).toNat else min (-1 : Int).toNat l.length) = _
    rw [if_pos (by decide)]
    omega
  rw [this]
theorem k_due {d d' e : Doc} {pl : List Int} {i1 i2 : Nat} {h : MH} (h1 : h[i1]? = some (.dN (dcN nl sv T d))) (h2 : h[i2]? = some (.dN (dcN nl sv T d'))) (he : d.at pl = some e) (hd : ∀ a, a ≤ pl.length → ∃ c, d'.at (pl.take a) = some c) (hpl : pl.length < 900) :
    Sat (m_due_d181f [.tup (pl.map .int), .ref i1, .ref i2] h) (fun y h' => ∃ j, y = .ref j ∧ Own h h' [(j, dueD nl sv T d d' pl (pl.length + 1))]) noX := by
  walk_at "fn"
  refine o_new (Own.nil h) (by simp) fun iL h1' o1 => ?_
  walk_at "go"
  have hfull : dueD nl sv T d d' pl (pl.length + 1) = plT pl pl.length :: if eqA nl sv T d d' pl pl.length = true then [] else dueD nl sv T d d' pl pl.length := by
    unfold dueD
    rw [dueR, List.map_cons]
    split <;> rfl
  generalize dueD nl sv T d d' pl (pl.length + 1) = full at *
  refine w_while (fun mm ρ h' => ∃ (acc : List D), mm ≤ pl.length ∧ ρ = [some (plT pl mm), some (.ref i1), some (.ref i2), some (.ref iL)] ∧ Own h h' [(iL, acc)] ∧ full = (acc ++ if eqA nl sv T d d' pl mm = true then [] else dueD nl sv T d d' pl mm) ∧ acc.length + mm ≤ pl.length + 1) pl.length (by omega) ⟨_, Nat.le_refl _, by simp [plT], o1, by simpa [plT] using hfull, by simp; omega⟩ ?_
  rintro a ρ h' ⟨acc, ha, rfl, o, hf, hal⟩
  have g1 := getN_ref (pre_get o.pre h1)
  have g2 := getN_ref (pre_get o.pre h2)
  obtain ⟨c1, hc1, _⟩ := at_pre he a
  obtain ⟨c2, hc2⟩ := hd a ha
  have v1 := dcN_at (nl := nl) (sv := sv) (T := T) hc1
  have v2 := dcN_at (nl := nl) (sv := sv) (T := T) hc2
  have fin : (eqA nl sv T d d' pl a = true ∨ a = 0) → full = acc := fun z => by
    rcases z with z | z
    · rw [hf, if_pos z, List.append_nil]
    · subst z; rw [hf]; simp [dueD, dueR]
  unfold plT
  walk_at "go"
  refine w_eq (dNe_emp _ _) ?_
  cases a with
  | zero =>
    rw [List.take_zero, List.map_nil, decide_eq_true (rfl : ([] : List D) = [])]
    walk_at "go"
    rw [fin (.inr rfl)]
    exact ⟨iL, rfl, o⟩
  | succ a =>
    have hne : ¬ (pl.take (a + 1)).map D.int = [] := fun z => by
      have := congrArg List.length z
      rw [List.length_map, List.length_take, List.length_nil] at this; omega
    rw [decide_eq_false hne]
    walk_at "go"
    refine w_nIx rfl (nkT_int _) g1 v1 ?_
    walk_at "go"
    refine w_nIx rfl (nkT_int _) g2 v2 ?_
    walk_at "go"
    refine br_d (fun q => ?_) (fun q => ?_)
    · have hq : eqA nl sv T d d' pl (a + 1) = true := decide_eq_true q.symm
      walk_at "go"
      rw [fin (.inl hq)]
      exact ⟨iL, rfl, o⟩
    · have hq : eqA nl sv T d d' pl (a + 1) = false := decide_eq_false fun z => q z.symm
      rw [hq, if_neg (by simp)] at hf
      have hdue : dueD nl sv T d d' pl (a + 1) = plT pl a :: if eqA nl sv T d d' pl a = true then [] else dueD nl sv T d d' pl a := by
        unfold dueD
        rw [dueR, List.map_cons]
        split <;> rfl
      rw [hdue] at hf
      walk_at "go"
      have ecut : cutD ((pl.take (a + 1)).map D.int) none (some (-1)) = (pl.take a).map D.int := by
        rw [cutD_neg1, List.length_map, List.length_take, Nat.min_eq_left ha, ← List.map_take, List.take_take]
        congr 2
        omega
      rw [ecut]
      walk_at "go"
      refine o_app o 0 rfl (by omega) fun h3 o3 => ?_
      exact ⟨a, by omega, acc ++ [plT pl a], by omega, rfl, o3, by rw [hf]; simp, by simp; omega⟩
theorem k_looked62 {h : MH} {i j : Nat} {xs : List Nat} {pl : List Int} (hi : getL h i = some (xs.map (plT pl))) (hj : getL h j = some (xs.map (plT pl))) (hl : xs.length ≤ 1000) (hpl : pl.length ≤ 1000) : Sat (m_looked_c1575 [.ref i, .ref j] h) (fun y h' => h' = h ∧ y = .bl true) noX := by
  walk_at "fn"
  refine w_eq (isi_ref _ _ _ _ hi (b := true) (by decide +kernel)) ?_
  walk_at "go"
  refine w_loop0 (fun k ρ h' => h' = h ∧ ∃ o2 : Option D, ρ = [some (.ref i), some (.ref j), o2]) ⟨rfl, none, rfl⟩ (fun _ _ _ _ => rfl) ?_ ?_
  · rintro k d ρ h' hd ⟨rfl, o2, rfl⟩
    obtain ⟨hk, rfl⟩ := rangeD_get hd
    have hk2 : k < xs.length := by simpa using hk
    have ax : atI (xs.map (plT pl)) (0 + (k : Int)) = some (.tup ((pl.take xs[k]).map .int)) := by rw [Int.zero_add]; exact atI_at (by rw [List.getElem?_map, List.getElem?_eq_getElem hk2]; rfl)
    refine ⟨_, rfl, ?_⟩
    dsimp only [List.set]
    walk_at "go"
    refine (k_place61 (by rw [List.length_take]; omega)).mono ?_
    rintro y h2 ⟨rfl, rfl⟩
    walk_at "go"
    exact ⟨rfl, _, rfl⟩
  · rintro ρ h' ⟨rfl, o2, rfl⟩
    walk_at "go"
    exact ⟨rfl, rfl⟩
theorem k_done {x : Str} : ∀ (n : Nat) (pl : List Int) (d e : Doc) (h : MH), d.at pl = some e → pl.length < n → d.szk ≤ 1000 → Sat (m_done_94800 n [d.toD, .tup (pl.map .int), .str (Str.ofString "name"), .str x] h) (fun y h' => h' = h ∧ y = (Doc.ren pl x d).toD) noX
  | 0, pl, d, e, h, _, hn, _ => by omega
  | n + 1, [], .mk y l, e, h, he, hn, hz => by
    rw [toD_mk, List.map_nil]
    unfold m_done_94800
    walk_at "fn"
    refine w_eq (dEq_emp _ _) ?_
    rw [decide_eq_true (rfl : ([] : List D) = [])]
    walk_at "go"
    refine ⟨rfl, ?_⟩
    show _ = (Doc.mk x l).toD
    rw [toD_mk]
  | n + 1, v :: pl, .mk y l, e, h, he, hn, hz => by
    rw [at_cons] at he
    split at he
    rotate_left
    · cases he
    rename_i hv
    rw [Option.bind_eq_some_iff] at he
    obtain ⟨c, hc, he⟩ := he
    have hc : l[v.toNat]? = some c := hc
    have hlt := (List.getElem?_eq_some_iff.mp hc).1
    have hcs := szks_mem (List.mem_of_getElem? hc)
    have hll := szks_len l
    rw [Doc.szk] at hz
    have hl1 : l.length ≤ 1000 := by omega
    rw [ren_toD (d := .mk y l) hv hc, toD_mk]
    obtain ⟨V, rfl⟩ := Int.eq_ofNat_of_zero_le hv
    rw [Int.toNat_natCast] at *
    have ac : atI (l.map Doc.toD) (V : Int) = some c.toD := atI_at (by rw [List.getElem?_map, hc]; rfl)
    have a0 : atI ((((V : Int) :: pl)).map D.int) 0 = some (.int V) := atI_at (k := 0) rfl
    have hpl := at_szk he
    have hcut : cutD ((((V : Int) :: pl)).map D.int) (some 1) none = pl.map D.int := by
      have := cutD_drop62 ((((V : Int) :: pl)).map D.int) 1
      simpa using this
    have t1 := cutD_take62 (l.map Doc.toD) V
    have t2 := cutD_drop62 (l.map Doc.toD) (V + 1)
    have t2' : cutD (l.map Doc.toD) (some ((V : Int) + 1)) none = (l.map Doc.toD).drop (V + 1) := by rw [← t2]; congr 2
    have nput := neS61 "name" "put"
    have ncut := neS61 "name" "cut"
    have fini : Sat (m_done_94800 n [c.toD, .tup (pl.map .int), .str (Str.ofString "name"), .str x] h) (fun y h' => h' = h ∧ y = (Doc.ren pl x c).toD) noX := k_done n pl c e h he (by simp at hn; omega) (by omega)
    have a0' : atI (D.int (V : Int) :: pl.map D.int) 0 = some (.int V) := a0
    have hcut' : cutD (D.int (V : Int) :: pl.map D.int) (some 1) none = pl.map D.int := hcut
    unfold m_done_94800
    walk_at "fn"
    refine w_eq (dEq_emp _ _) ?_
    simp only [List.map_cons, List.cons_ne_nil, decide_false]
    have fin : ∀ Q : Prop, Q → Q := fun _ q => q
    walk_at "go"
    refine br_d (fun q => ?_) (fun q => ?_)
    all_goals
      walk_at "go"
      rw [hcut']
      refine fini.mono ?_
      rintro y2 h2 ⟨rfl, rfl⟩
      walk_at "go"
      rw [t1, t2']
      exact ⟨rfl, rfl⟩
theorem k_way : ∀ {d : Doc} {n0 : Int} {h : MH}, CellQ n0 → d.szk ≤ 900 → Sat (m_way_05370 [d.toD, .int n0] h) (fun y h' => h' = h ∧ ∃ pl e n', y = .tup [.tup (pl.map .int), e.toD, .int n'] ∧ d.at pl = some e) noX := by
  intro d n0 h hn hz
  walk_at "fn"
  refine w_while (fun mm ρ h' => h' = h ∧ ∃ (pl : List Int) (e : Doc) (n : Int) (o3 : Option D), mm = e.szk ∧ ρ = [some e.toD, some (.int n), some (.tup (pl.map .int)), o3] ∧ d.at pl = some e ∧ CellQ n) d.szk (by omega) ⟨rfl, [], d, n0, none, rfl, rfl, by simp [Doc.at], hn⟩ ?_
  rintro mm ρ h' ⟨rfl, pl, ⟨x, l⟩, n, o3, rfl, rfl, he, hq⟩
  rw [toD_mk]
  have hq0 := hq.2
  have hlm : (l.map Doc.toD).length = l.length := by simp
  have hsz := at_szk he
  have hll := szks_len l
  rw [Doc.szk] at hsz
  walk_at "go"
  refine w_eq (dNe_emp _ _) ?_
  walk_at "go"
  refine br_d (fun q => ?_) (fun q => ?_)
  · walk_at "go"
    refine w_pow (n := 18) (by decide) ?_
    walk_at "go"
    refine br_d (fun q => ?_) (fun q => ?_)
    · walk_at "go"
      exact ⟨rfl, pl, .mk x l, _, by rw [toD_mk], he⟩
    · walk_at "go"
      exact ⟨rfl, pl, .mk x l, _, by rw [toD_mk], he⟩
  walk_at "go"
  refine br_d (fun q2 => ?_) (fun q2 => ?_)
  · walk_at "go"
    refine w_pow (n := 18) (by decide) ?_
    walk_at "go"
    refine br_d (fun q => ?_) (fun q => ?_)
    · walk_at "go"
      exact ⟨rfl, pl, .mk x l, _, by rw [toD_mk], he⟩
    · walk_at "go"
      exact ⟨rfl, pl, .mk x l, _, by rw [toD_mk], he⟩
  have hl0 : 0 < l.length := Nat.pos_of_ne_zero fun z => q (by rw [List.length_eq_zero_iff.mp z]; rfl)
  have hlp : (0 : Int) < (l.length : Int) := by omega
  have hix := mod_in (n / 7) hlp
  obtain ⟨yv, av, ev⟩ := atI_in (l := l.map Doc.toD) (i := n / 7 % (l.length : Int)) hix.1 (by rw [hlm]; exact hix.2)
  rw [List.getElem?_map, Option.map_eq_some_iff] at ev
  obtain ⟨c, ec, rfl⟩ := ev
  have hcs := szks_mem (List.mem_of_getElem? ec)
  walk_at "go"
  have hc2 : d.at (pl ++ [n / 7 % (l.length : Int)]) = some c := by
    rw [at_app, he, Option.bind_some, at_cons, if_pos hix.1]
    show (l[_]?).bind _ = _
    rw [ec]
    simp [Doc.at]
  generalize n / 7 % (l.length : Int) = ii at *
  have epl : pl.map D.int ++ [D.int ii] = (pl ++ [ii]).map D.int := by simp
  rw [epl]
  walk_at "go"
  refine w_pow (n := 18) (by decide) ?_
  walk_at "go"
  refine br_d (fun q => ?_) (fun q => ?_)
  · walk_at "go"
    refine ⟨c.szk, by rw [Doc.szk]; omega, rfl, _, c, _, _, rfl, rfl, hc2, ?_⟩
    have := mod_in (n * 48271 + 11) (n := 2147483647) (by decide)
    exact CellQ.small (by omega) (by omega)
  · walk_at "go"
    exact ⟨c.szk, by rw [Doc.szk]; omega, rfl, _, c, _, _, rfl, rfl, hc2, hq.div (by decide)⟩
end
end Mi

namespace Mi
open PySem L2
local macro_rules | `(tactic| walk_at "gl") => `(tactic| first
  | assumption
  | (refine Own.atL (h0 := ?_) (L := ?_) ?_ 0 ?_; rotate_left; rotate_left; assumption; rfl)
  | (refine Own.atL (h0 := ?_) (L := ?_) ?_ 1 ?_; rotate_left; rotate_left; assumption; rfl)
  | (refine Own.atL (h0 := ?_) (L := ?_) ?_ 2 ?_; rotate_left; rotate_left; assumption; rfl)
  | (refine Own.atL (h0 := ?_) (L := ?_) ?_ 3 ?_; rotate_left; rotate_left; assumption; rfl)
  | (refine Own.atL (h0 := ?_) (L := ?_) ?_ 4 ?_; rotate_left; rotate_left; assumption; rfl)
  | (refine Own.atL (h0 := ?_) (L := ?_) ?_ 5 ?_; rotate_left; rotate_left; assumption; rfl)
  | (refine Own.atL (h0 := ?_) (L := ?_) ?_ 6 ?_; rotate_left; rotate_left; assumption; rfl)
  | (refine Own.atL (h0 := ?_) (L := ?_) ?_ 7 ?_; rotate_left; rotate_left; assumption; rfl)
  | (refine Own.atL (h0 := ?_) (L := ?_) ?_ 8 ?_; rotate_left; rotate_left; assumption; rfl)
  | (refine Own.atL (h0 := ?_) (L := ?_) ?_ 9 ?_; rotate_left; rotate_left; assumption; rfl)
  | (refine Own.getL (h0 := ?_) (L := ?_) ?_ ?_; rotate_left; rotate_left; assumption; assumption))
local macro_rules | `(tactic| walk_at "il") => `(tactic| first
  | (refine Own.isL (h0 := ?_) (L := ?_) (l := ?_) ?_ 0 ?_; rotate_left; rotate_left; rotate_left; assumption; rfl)
  | (refine Own.isL (h0 := ?_) (L := ?_) (l := ?_) ?_ 1 ?_; rotate_left; rotate_left; rotate_left; assumption; rfl)
  | (refine Own.isL (h0 := ?_) (L := ?_) (l := ?_) ?_ 2 ?_; rotate_left; rotate_left; rotate_left; assumption; rfl)
  | (refine Own.isL (h0 := ?_) (L := ?_) (l := ?_) ?_ 3 ?_; rotate_left; rotate_left; rotate_left; assumption; rfl)
  | (refine Own.isL (h0 := ?_) (L := ?_) (l := ?_) ?_ 4 ?_; rotate_left; rotate_left; rotate_left; assumption; rfl)
  | (refine Own.isL (h0 := ?_) (L := ?_) (l := ?_) ?_ 5 ?_; rotate_left; rotate_left; rotate_left; assumption; rfl)
  | (refine Own.isL (h0 := ?_) (L := ?_) (l := ?_) ?_ 6 ?_; rotate_left; rotate_left; rotate_left; assumption; rfl)
  | (refine Own.isL (h0 := ?_) (L := ?_) (l := ?_) ?_ 7 ?_; rotate_left; rotate_left; rotate_left; assumption; rfl)
  | (refine Own.isL (h0 := ?_) (L := ?_) (l := ?_) ?_ 8 ?_; rotate_left; rotate_left; rotate_left; assumption; rfl)
  | (refine Own.isL (h0 := ?_) (L := ?_) (l := ?_) ?_ 9 ?_; rotate_left; rotate_left; rotate_left; assumption; rfl))
local macro_rules | `(tactic| walk_at "bd") => `(tactic| first | assumption | omega | (simp; done) | (simp; omega) | (simp [*]; done) | (simp [*]; omega))
local macro_rules | `(tactic| walk_at "w") => `(tactic| first
  | with_reducible refine w_seq ?_
  | with_reducible refine w_asg ?_
  | with_reducible refine w_cons ?_
  | with_reducible refine w_nil ?_
  | with_reducible refine w_c ?_
  | ((with_reducible refine w_var (d := ?_) ?_ ?_); rotate_left; rfl)
  | with_reducible refine w_bin ?_
  | with_reducible refine w_call ?_
  | with_reducible refine w_if ?_
  | with_reducible refine w_B ?_
  | with_reducible refine w_unB ?_
  | with_reducible refine w_ret ?_
  | with_reducible refine w_drop ?_
  | with_reducible refine w_skip ?_
  | with_reducible refine w_eq (dAdd_int _ _ _) ?_
  | with_reducible refine w_eq (dSub_int _ _ _) ?_
  | with_reducible refine w_eq (dEq_int _ _ _) ?_
  | with_reducible refine w_eq (dEq_str _ _ _) ?_
  | with_reducible refine w_eq (dNe_strs _ _ _) ?_
  | with_reducible refine w_eq (dEq_bls _ _ _) ?_
  | with_reducible refine w_eq (dNe_bls _ _ _) ?_
  | with_reducible refine w_eq (dLt_int _ _ _) ?_
  | with_reducible refine w_eq (dLe_int _ _ _) ?_
  | with_reducible refine w_eq (dGt_int _ _ _) ?_
  | with_reducible refine w_eq (dGe_int _ _ _) ?_
  | with_reducible refine w_eq (dNe_int _ _ _) ?_
  | ((with_reducible refine w_mod ?_ ?_); (first | assumption | decide | omega))
  | ((with_reducible refine w_fdiv ?_ ?_); (first | assumption | decide | omega))
  | ((with_reducible refine w_mulS ?_ ?_); (first | decide | omega))
  | ((with_reducible refine w_addS ?_ ?_); (first | assumption | decide | omega))
  | ((with_reducible refine w_lenS ?_ ?_); (first | assumption | decide | omega))
  | ((with_reducible refine w_slS ?_ ?_); (first | assumption | decide | omega))
  | with_reducible refine w_lenTm ?_
  | with_reducible refine w_eq (dLen_tup _ _) ?_
  | with_reducible refine w_eq (dSl_tup _ _ _ _) ?_
  | with_reducible refine w_eq (dMax_ev _ _ _) ?_
  | with_reducible refine w_eq (dMin_ev _ _ _) ?_
  | with_reducible refine w_eq (dAbs_ev _ _) ?_
  | with_reducible refine w_not ?_
  | with_reducible refine w_and ?_
  | with_reducible refine w_or ?_
  | with_reducible refine br_n ?_
  | with_reducible refine br_tt ?_
  | with_reducible refine br_ff ?_
  | ((with_reducible refine br_dt ?_ ?_); (first | assumption | omega | rfl))
  | ((with_reducible refine br_df ?_ ?_); (first | assumption | omega))
  | with_reducible refine w_tup ?_
  | ((with_reducible refine w_toTup ?_ ?_); exact (by simp))
  | with_reducible refine w_lst ?_
  | with_reducible refine w_lc ?_
  | with_reducible refine w_for ?_
  | with_reducible refine w_range1 ?_
  | with_reducible refine w_range2 ?_
  | ((with_reducible refine w_dR1 ?_ ?_); (first | decide | omega))
  | ((with_reducible refine w_dR2 ?_ ?_); (first | decide | omega))
  | with_reducible refine w_iter ?_
  | with_reducible refine w_eq (iter1_tup _ _) ?_
  | with_reducible refine w_eq (iter1_str _ _) ?_
  | with_reducible refine w_sl ?_
  | with_reducible refine w_no ?_
  | with_reducible refine w_some ?_
  | with_reducible refine w_unI ?_
  | with_reducible refine w_meth ?_
  | with_reducible refine w_isi ?_
  | with_reducible refine w_zip ?_
  | with_reducible refine w_ifE ?_
  | with_reducible refine w_andV ?_
  | with_reducible refine w_orV ?_
  | with_reducible refine w_notV ?_
  | with_reducible refine w_andK ?_
  | with_reducible refine w_orK ?_
  | with_reducible refine w_notK ?_
  | with_reducible refine w_revL ?_
  | with_reducible refine w_listRg1 ?_
  | with_reducible refine w_tindex ?_
  | with_reducible refine w_setIx ?_
  | with_reducible refine w_un ?_
  | with_reducible refine w_rev1 ?_
  | with_reducible refine w_rev2 ?_
  | with_reducible refine w_chain ?_
  | with_reducible refine w_chK ?_
  | with_reducible refine w_retN ?_
  | with_reducible refine w_brk ?_
  | with_reducible refine w_cont ?_
  | with_reducible refine w_asgT ?_
  | with_reducible refine w_eq (isi_str_str _ _) ?_
  | with_reducible refine w_eq (isi_int_int _ _) ?_
  | with_reducible refine w_eq (isi_tup_tup _ _) ?_
  | with_reducible refine w_eq (isi_bool_int _ _) ?_
  | with_reducible refine w_eq (isi_str_int _ _) ?_
  | ((with_reducible refine w_lenLm (α := ?_) (f := ?_) (l := ?_) ?_ ?_); rotate_left; rotate_left; rotate_left; walk_at "gl")
  | ((with_reducible refine w_lenL (l := ?_) ?_ ?_); rotate_left; walk_at "gl")
  | ((with_reducible refine w_iterL (l := ?_) ?_ ?_); rotate_left; walk_at "gl"; dsimp only)
  | ((with_reducible refine w_tupL (l := ?_) ?_ ?_); rotate_left; walk_at "gl")
  | ((with_reducible refine w_ixT (d := ?_) ?_ ?_); rotate_left; (first | with_reducible assumption | rfl))
  | ((with_reducible refine w_ixL (l := ?_) (d := ?_) ?_ ?_ ?_); rotate_left; rotate_left; walk_at "gl"; (first | with_reducible assumption | rfl))
  | ((with_reducible refine w_addT ?_ ?_); walk_at "bd")
  | ((with_reducible refine ⟨?_, ?_⟩); (with_reducible (show isListD (.ref _) _ = true)); walk_at "il")
  | with_reducible refine w_tryK ?_
  | with_reducible refine w_raise ?_
  | with_reducible refine w_raise0 ?_
  | with_reducible refine w_isX ?_
  | ((with_reducible refine w_isXK (k := ?_) ?_ ?_); rotate_left; (first | with_reducible exact lkA | (apply lkB; decide +kernel; exact lkA) | (apply lkB; decide +kernel; apply lkB; decide +kernel; exact lkA) | (apply lkB; decide +kernel; apply lkB; decide +kernel; apply lkB; decide +kernel; exact lkA)))
  | with_reducible refine w_xf ?_
  | ((with_reducible refine w_xfK ?_ ?_ ?_); (exact List.mem_cons_self); (decide))
  | with_reducible refine w_eq (isN_xo _) ?_
  | with_reducible refine w_eq (dNeg_int _ _) ?_)
local macro_rules | `(tactic| walk_at "go") => `(tactic| (repeat (walk_at "w")); try dsimp only [List.set])
local macro_rules | `(tactic| walk_at "fn") => `(tactic| ((refine w_fun ?_); simp only [startD, List.map_cons, List.map_nil, List.reduceReplicate, Nat.reduceSub, List.cons_append, List.nil_append]; walk_at "go"))
local macro_rules | `(tactic| walk_at "lk") => `(tactic| first | with_reducible exact lkA | (apply lkB; decide +kernel; walk_at "lk"))
local macro_rules | `(tactic| walk_at "mk") => `(tactic| first | with_reducible exact mkA | (apply mkB; decide +kernel; walk_at "mk"))
local macro_rules | `(tactic| walk_at "fk") => `(tactic| first | with_reducible exact fkA | exact fkN | (apply fkB; decide +kernel; walk_at "fk"))
local macro_rules | `(tactic| walk_at "cs") => `(tactic| first | exact List.mem_cons_self | (apply List.mem_cons_of_mem; walk_at "cs"))
local macro_rules | `(tactic| walk_at "w") => `(tactic| first
  | with_reducible refine w_fld ?_
  | ((with_reducible refine w_fldK (c := ?_) (fs := ?_) (v := ?_) ?_ ?_ ?_ ?_); rotate_left; rotate_left; rotate_left; (with_reducible assumption); (walk_at "cs"); (walk_at "fk"))
  | with_reducible refine w_setFld ?_
  | with_reducible refine w_new ?_
  | with_reducible refine w_methI ?_
  | ((with_reducible refine w_methK (c := ?_) (fs := ?_) (F := ?_) ?_ ?_ ?_ ?_); rotate_left; rotate_left; rotate_left; (with_reducible assumption); (walk_at "mk"); (walk_at "fk"))
  | with_reducible refine w_isC ?_
  | ((with_reducible refine w_isCK (c := ?_) (fs := ?_) (k := ?_) ?_ ?_ ?_); rotate_left; rotate_left; rotate_left; (with_reducible assumption); (walk_at "lk"))
  | with_reducible refine w_callD ?_
  | with_reducible refine w_mDSet ?_
  | with_reducible refine w_eq (nN_non _) ?_
  | with_reducible refine w_eq (nN_int _ _) ?_
  | with_reducible refine w_eq (nN_tup _ _) ?_
  | with_reducible refine w_eq (nN_ref _ _) ?_
  | with_reducible refine w_eq (iN_non _) ?_
  | with_reducible refine w_eq (iN_int _ _) ?_
  | with_reducible refine w_eq (iN_tup _ _) ?_
  | with_reducible refine w_eq (iN_ref _ _) ?_)
section
variable {fs nl : List Str} {sv mk : List Int} {T : List D} {m : Int}
theorem k_lookedm {h : MH} {ik : Nat} {d : Doc} {Ls : List D} (kp : KpL fs nl sv mk T h ik d Ls) : Sat (m_Kept_looked_024ca [.ref ik] h) (fun r h' => ∃ j, r = .ref j ∧ Own h h' [(j, Ls)]) noX := by
  obtain ⟨I, J, jl, hi, hk, hl, f⟩ := kp
  have gl := getL_of hl
  walk_at "fn"
  refine o_list (Own.nil h) gl fun j h' o => ?_
  exact ⟨j, rfl, o⟩
theorem k_nowm {h : MH} {ik : Nat} {d : Doc} {Ls : List D} (kp : KpL fs nl sv mk T h ik d Ls) (hd : d.ok 100) : Sat (m_Kept_now_9db09 [.ref ik] h) (fun r h' => h <+: h' ∧ r = d.toD) noX := by
  obtain ⟨I, J, jl, hi, hk, hl, f⟩ := kp
  have x := f.spd
  walk_at "fn"
  exact (k_docof 100 d _ 0 h x hd)
theorem k_allm (M : Mc nl sv T m) (f : Fm fs mk m) {h : MH} {ik : Nat} {d : Doc} {Ls : List D} (kp : KpL fs nl sv mk T h ik d Ls) (hd : d.ok 100) (hz : d.szk ≤ 1000) : Sat (m_Kept_all_forms_cad78 [.ref ik] h) (fun r h' => ∃ (j : Nat) (es : List D), r = .ref j ∧ Own h h' [(j, es)] ∧ FbL fs mk h.length j h' (d.pls nl sv T []) es) noX := by
  obtain ⟨I, J, jl, hi, hk, hl, fl⟩ := kp
  have x := fl.spd
  walk_at "fn"
  exact (k_formsbelow M f 100 d _ 0 [] h x hd hz (by simp; omega))
end
theorem at_good : ∀ {r : List Int} {d e : Doc}, d.good → d.at r = some e → e.good
  | [], d, e, g, h => by simp [Doc.at] at h; subst h; exact g
  | v :: r, .mk x l, e, g, h => by
    rw [at_cons] at h
    split at h
    · rw [Option.bind_eq_some_iff] at h
      obtain ⟨c, h1, h2⟩ := h
      have h1 : l[v.toNat]? = some c := h1
      exact at_good (goods_iff.mp g.2 c (List.mem_of_getElem? h1)) h2
    · cases h
def St62 (fs nl : List Str) (st mk : List Int) (T : List D) (jf jN ik : Nat) (h0 : MH) (ρ : Slots) (h' : MH) : Prop := ∃ (d : Doc) (Ls : List D) (c : D) (o7 o8 o9 o10 o11 o12 o13 o14 o15 o16 : Option D), ρ = [some (.ref 0), some (.ref jf), some (.ref jN), some (tab61 fs nl st T mk), some c, some d.toD, some (.ref ik), o7, o8, o9, o10, o11, o12, o13, o14, o15, o16] ∧ Fz h0 h' ∧ KpL fs nl st mk T h' ik d Ls ∧ d.good ∧ d.szk ≤ 40
def cA62 : MS :=
 (mSeq (mAsg 13 (mMethI (Str.ofString "looked") [((Str.ofString "Kept"), (m_Kept_looked_024ca))] (mVar 6) (mNil)))
 (mSeq (mIf (mNot (mB (mCall (m_looked_c1575) (mCons (mVar 13) (mCons (mVar 12) (mNil))))))
 (mRet (mC (.bl false)))
 (mSkip))
 (mSeq (mDrop (mMeth isListD dAppend (mVar 13) (mCons (mTup (mNil)) (mNil))))
 (mSeq (mIf (mOr (mNot (mB (mCall (m_same_49f62 100) (mCons (mMethI (Str.ofString "now") [((Str.ofString "Kept"), (m_Kept_now_9db09))] (mVar 6) (mNil)) (mCons (mVar 5) (mNil)))))) (mNot (mB (mCall (m_all_22e5f) (mCons (mMethI (Str.ofString "all_forms") [((Str.ofString "Kept"), (m_Kept_all_forms_cad78))] (mVar 6) (mNil)) (mCons (mVar 3) (mCons (mVar 11) (mNil))))))))
 (mRet (mC (.bl false)))
 (mSkip))
 (mIf (mNot (mB (mCall (m_looked_c1575) (mCons (mMethI (Str.ofString "looked") [((Str.ofString "Kept"), (m_Kept_looked_024ca))] (mVar 6) (mNil)) (mCons (mVar 12) (mNil))))))
 (mRet (mC (.bl false)))
 (mSkip))))))
def cB62 : MS :=
 (mSeq (mAsg 10 (mCall dDictP (mCons (mCall (m_states_ee0d6 100) (mCons (mVar 3) (mCons (mVar 5) (mCons (mTup (mNil)) (mNil))))) (mNil))))
 (mSeq (mDrop (mMethI (Str.ofString "rename") [((Str.ofString "Kept"), (m_Kept_rename_e8d43))] (mVar 6) (mCons (mVar 14) (mCons (mVar 9) (mNil)))))
 (mSeq (mAsg 5 (mCall (m_done_94800 100) (mCons (mVar 5) (mCons (mVar 14) (mCons (mC (.str (Str.ofString "name"))) (mCons (mVar 9) (mNil)))))))
 (mSeq (mAsg 11 (mCall (m_states_ee0d6 100) (mCons (mVar 3) (mCons (mVar 5) (mCons (mTup (mNil)) (mNil))))))
 (mSeq (mAsg 12 (mCall (m_due_d181f) (mCons (mVar 14) (mCons (mVar 10) (mCons (mCall dDictP (mCons (mVar 11) (mNil))) (mNil))))))
 cA62)))))
theorem tail62 {fs nl : List Str} {st mk : List Int} {T : List D} {m : Int} {jf jN ik js2 jd : Nat} {h10 h18 : MH} {d dn : Doc} {pl : List Int} {c : D} {q7 q8 q9 q10 q13 q14 q15 q16 : Option D} {P : D → MH → Prop} {B C : SP} {E : SX} (M : Mc nl st T m) (f : Fm fs mk m) (kp18 : KpL fs nl st mk T h18 ik dn (dueD nl st T d dn pl (pl.length + 1))) (gS : getL h18 js2 = some ((dn.pls nl st T []).map plD)) (gd : getL h18 jd = some (dueD nl st T d dn pl (pl.length + 1))) (hps : pl.length ≤ 40) (hg' : dn.good) (hz' : dn.szk ≤ 40) (fz18 : Fz h10 h18) :
    OS (cA62 [some (.ref 0), some (.ref jf), some (.ref jN), some (tab61 fs nl st T mk), some c, some dn.toD, some (.ref ik), q7, q8, q9, q10, some (.ref js2), some (.ref jd), q13, q14, q15, q16] h18) (fun ρ h' => St62 fs nl st mk T jf jN ik h10 ρ h') P B C E := by
  have hok' : dn.ok 100 := ok_good 100 dn hg' (by omega) (by omega)
  have hpl' := pls_len (nl := nl) (sv := st) (T := T) dn []
  have hq : ∀ q ∈ dn.pls nl st T [], (0 ≤ q.2 ∧ q.2 < m) ∧ q.1.length ≤ 1000 := fun q hm => by
    obtain ⟨r, e, h1, h2, h3, h4⟩ := pls_at dn [] q hm
    rw [← h3, h1]
    exact ⟨stt_in M e, by simp; omega⟩
  obtain ⟨I2, J2, jl2, hi2, hk18, _, _⟩ := id kp18
  have hdl := dueR_len (eqA nl st T d dn pl) (pl.length + 1)
  have hdl2 : (dueD nl st T d dn pl (pl.length + 1)).length ≤ pl.length + 1 := by unfold dueD; rw [List.length_map]; exact hdl
  unfold cA62
  walk_at "go"
  refine (k_lookedm kp18).mono ?_
  rintro y h19 ⟨jk, rfl, o19⟩
  walk_at "go"
  refine (k_looked62 (o19.atL 0 rfl) (pre_getL o19.pre gd) (by omega) (by omega)).mono ?_
  rintro y h19' ⟨rfl, rfl⟩
  walk_at "go"
  refine o_app o19 0 rfl (by omega) fun h20 o20 => ?_
  have kp20 := kp18.mono o20.pre
  obtain ⟨_, _, _, _, hk20, _, _⟩ := id kp20
  have gS20 := pre_getL o20.pre gS
  have gd20 := pre_getL o20.pre gd
  have fz20 := fz18.trans (Fz.pre o20.pre)
  clear kp18 gS gd fz18 hk18 o20 o19
  walk_at "go"
  refine (k_nowm kp20 hok').mono ?_
  rintro y h21 ⟨p21, rfl⟩
  walk_at "go"
  refine (cc_same 100 dn h21 hok').mono ?_
  rintro y h21' ⟨rfl, rfl⟩
  have kp21 := kp20.mono p21
  have hk21 := pre_get p21 hk20
  walk_at "go"
  refine (k_allm M f kp21 hok' (by omega)).mono ?_
  rintro y h22 ⟨ja, es, rfl, o22, fb⟩
  have p22 := p21.trans o22.pre
  walk_at "go"
  refine (k_all61 f (o22.atL 0 rfl) (pre_getL p22 gS20) fb hq (by omega)).mono ?_
  rintro y h23 ⟨p23, rfl⟩
  have p03 := p22.trans p23
  have kp23 := kp20.mono p03
  have hk23 := pre_get p03 hk20
  have gd23 := pre_getL p03 gd20
  have fz23 := fz20.trans (Fz.pre p03)
  clear fb hq o22 p22 p21 p23 p03 kp21 hk21 kp20 hk20 gS20 gd20 fz20
  walk_at "go"
  refine (k_lookedm kp23).mono ?_
  rintro y h24 ⟨jk2, rfl, o24⟩
  walk_at "go"
  refine (k_looked62 (o24.atL 0 rfl) (pre_getL o24.pre gd23) (by omega) (by omega)).mono ?_
  rintro y h24' ⟨rfl, rfl⟩
  walk_at "go"
  exact ⟨dn, _, _, _, _, _, _, _, _, _, _, _, _, rfl, fz23.trans (Fz.pre o24.pre), kp23.mono o24.pre, hg', hz'⟩
theorem mid62 {fs nl : List Str} {st mk : List Int} {T : List D} {m : Int} {jf jN ik : Nat} {h10 h12' : MH} {d e : Doc} {Ls : List D} {pl : List Int} {x : Str} {c : D} {q7 q8 q9 q10 q11 q12 q13 q14 q15 q16 : Option D} {P : D → MH → Prop} {B C : SP} (M : Mc nl st T m) (f : Fm fs mk m) (hnd4 : nl.Nodup) (hnl4 : nl.length ≤ 1000) (kp12 : KpL fs nl st mk T h12' ik d Ls) (fz12 : Fz h10 h12') (hg : d.good) (hz : d.szk ≤ 40) (he : d.at pl = some e) (hps : pl.length + e.szk ≤ d.szk) (hx : Nm x) (e9 : q9 = some (.str x)) (e14 : q14 = some (.tup (pl.map .int))) :
    OS (cB62 [some (.ref 0), some (.ref jf), some (.ref jN), some (tab61 fs nl st T mk), some c, some d.toD, some (.ref ik), q7, q8, q9, q10, q11, q12, q13, q14, q15, q16] h12') (fun ρ h' => St62 fs nl st mk T jf jN ik h10 ρ h') P B C (fun x fs _ h => noX x fs h) := by
  subst e9 e14
  have hok : d.ok 100 := ok_good 100 d hg (by omega) (by omega)
  have hpl := pls_len (nl := nl) (sv := st) (T := T) d []
  unfold cB62
  walk_at "go"
  refine (k_states M hnd4 (by omega) 100 d [] h12' hok (by omega) (by simp; omega)).mono ?_
  rintro y h13 ⟨js, rfl, o13⟩
  walk_at "go"
  refine w_dictP (o13.atL 0 rfl) (pairsN_pls _) (by rw [List.length_map]; omega) ?_
  have pD : h13 <+: h13 ++ [MO.dN (dcN nl st T d)] := List.prefix_append _ _
  have cD : (h13 ++ [MO.dN (dcN nl st T d)])[h13.length]? = some (.dN (dcN nl st T d)) := get_new61
  have kp14 := kp12.mono (o13.pre.trans pD)
  have fz14 := fz12.trans (Fz.pre (o13.pre.trans pD))
  generalize (h13 ++ [MO.dN (dcN nl st T d)]) = h14 at *
  generalize h13.length = iD at *
  obtain ⟨I, J, jl, hi, hk14, _, _⟩ := id kp14
  walk_at "go"
  refine (k_rename M kp14 he (by omega) hx).mono ?_
  rintro y h15 ⟨rfl, fz15, kp15⟩
  have cD15 := fz15.2 _ _ cD fun _ _ => by simp
  have hg' := ren_good hx pl d hg
  have hz' : (Doc.ren pl x d).szk ≤ 40 := by rw [ren_szk]; exact hz
  have hat' : ∀ a, a ≤ pl.length → ∃ c, (Doc.ren pl x d).at (pl.take a) = some c := fun a _ => by
    obtain ⟨c, hc, _⟩ := at_pre he a
    obtain ⟨c', hc', _⟩ := ren_sp (x := x) he hc
    exact ⟨c', hc'⟩
  walk_at "go"
  refine (k_done 100 pl d e h15 he (by omega) (by omega)).mono ?_
  rintro y h15' ⟨rfl, rfl⟩
  generalize hdn : Doc.ren pl x d = dn at *
  have hok' : dn.ok 100 := ok_good 100 dn hg' (by omega) (by omega)
  have hpl' := pls_len (nl := nl) (sv := st) (T := T) dn []
  walk_at "go"
  refine (k_states M hnd4 (by omega) 100 dn [] h15' hok' (by omega) (by simp; omega)).mono ?_
  rintro y h16 ⟨js2, rfl, o16⟩
  walk_at "go"
  refine w_dictP (o16.atL 0 rfl) (pairsN_pls _) (by rw [List.length_map]; omega) ?_
  have pE : h16 <+: h16 ++ [MO.dN (dcN nl st T dn)] := List.prefix_append _ _
  have cE : (h16 ++ [MO.dN (dcN nl st T dn)])[h16.length]? = some (.dN (dcN nl st T dn)) := get_new61
  have cD17 := pre_get (o16.pre.trans pE) cD15
  have cS17 := pre_get pE (o16.at 0 rfl)
  have kp17 := kp15.mono (o16.pre.trans pE)
  have fz17 := (fz14.trans fz15).trans (Fz.pre (o16.pre.trans pE))
  generalize (h16 ++ [MO.dN (dcN nl st T dn)]) = h17 at *
  generalize h16.length = iE at *
  walk_at "go"
  refine (k_due cD17 cE he hat' (by omega)).mono ?_
  rintro y h18 ⟨jd, rfl, o18⟩
  walk_at "go"
  exact tail62 M f (kp17.mono o18.pre) (pre_getL o18.pre (getL_of cS17)) (o18.atL 0 rfl) (by omega) hg' hz' (fz17.trans (Fz.pre o18.pre))
end Mi

namespace Mi
open PySem L2
local macro_rules | `(tactic| walk_at "gl") => `(tactic| first
  | assumption
  | (refine Own.atL (h0 := ?_) (L := ?_) ?_ 0 ?_; rotate_left; rotate_left; assumption; rfl)
  | (refine Own.atL (h0 := ?_) (L := ?_) ?_ 1 ?_; rotate_left; rotate_left; assumption; rfl)
  | (refine Own.atL (h0 := ?_) (L := ?_) ?_ 2 ?_; rotate_left; rotate_left; assumption; rfl)
  | (refine Own.atL (h0 := ?_) (L := ?_) ?_ 3 ?_; rotate_left; rotate_left; assumption; rfl)
  | (refine Own.atL (h0 := ?_) (L := ?_) ?_ 4 ?_; rotate_left; rotate_left; assumption; rfl)
  | (refine Own.atL (h0 := ?_) (L := ?_) ?_ 5 ?_; rotate_left; rotate_left; assumption; rfl)
  | (refine Own.atL (h0 := ?_) (L := ?_) ?_ 6 ?_; rotate_left; rotate_left; assumption; rfl)
  | (refine Own.atL (h0 := ?_) (L := ?_) ?_ 7 ?_; rotate_left; rotate_left; assumption; rfl)
  | (refine Own.atL (h0 := ?_) (L := ?_) ?_ 8 ?_; rotate_left; rotate_left; assumption; rfl)
  | (refine Own.atL (h0 := ?_) (L := ?_) ?_ 9 ?_; rotate_left; rotate_left; assumption; rfl)
  | (refine Own.getL (h0 := ?_) (L := ?_) ?_ ?_; rotate_left; rotate_left; assumption; assumption))
local macro_rules | `(tactic| walk_at "il") => `(tactic| first
  | (refine Own.isL (h0 := ?_) (L := ?_) (l := ?_) ?_ 0 ?_; rotate_left; rotate_left; rotate_left; assumption; rfl)
  | (refine Own.isL (h0 := ?_) (L := ?_) (l := ?_) ?_ 1 ?_; rotate_left; rotate_left; rotate_left; assumption; rfl)
  | (refine Own.isL (h0 := ?_) (L := ?_) (l := ?_) ?_ 2 ?_; rotate_left; rotate_left; rotate_left; assumption; rfl)
  | (refine Own.isL (h0 := ?_) (L := ?_) (l := ?_) ?_ 3 ?_; rotate_left; rotate_left; rotate_left; assumption; rfl)
  | (refine Own.isL (h0 := ?_) (L := ?_) (l := ?_) ?_ 4 ?_; rotate_left; rotate_left; rotate_left; assumption; rfl)
  | (refine Own.isL (h0 := ?_) (L := ?_) (l := ?_) ?_ 5 ?_; rotate_left; rotate_left; rotate_left; assumption; rfl)
  | (refine Own.isL (h0 := ?_) (L := ?_) (l := ?_) ?_ 6 ?_; rotate_left; rotate_left; rotate_left; assumption; rfl)
  | (refine Own.isL (h0 := ?_) (L := ?_) (l := ?_) ?_ 7 ?_; rotate_left; rotate_left; rotate_left; assumption; rfl)
  | (refine Own.isL (h0 := ?_) (L := ?_) (l := ?_) ?_ 8 ?_; rotate_left; rotate_left; rotate_left; assumption; rfl)
  | (refine Own.isL (h0 := ?_) (L := ?_) (l := ?_) ?_ 9 ?_; rotate_left; rotate_left; rotate_left; assumption; rfl))
local macro_rules | `(tactic| walk_at "bd") => `(tactic| first | assumption | omega | (simp; done) | (simp; omega) | (simp [*]; done) | (simp [*]; omega))
local macro_rules | `(tactic| walk_at "w") => `(tactic| first
  | with_reducible refine w_seq ?_
  | with_reducible refine w_asg ?_
  | with_reducible refine w_cons ?_
  | with_reducible refine w_nil ?_
  | with_reducible refine w_c ?_
  | ((with_reducible refine w_var (d := ?_) ?_ ?_); rotate_left; rfl)
  | with_reducible refine w_bin ?_
  | with_reducible refine w_call ?_
  | with_reducible refine w_if ?_
  | with_reducible refine w_B ?_
  | with_reducible refine w_unB ?_
  | with_reducible refine w_ret ?_
  | with_reducible refine w_drop ?_
  | with_reducible refine w_skip ?_
  | with_reducible refine w_eq (dAdd_int _ _ _) ?_
  | with_reducible refine w_eq (dSub_int _ _ _) ?_
  | with_reducible refine w_eq (dEq_int _ _ _) ?_
  | with_reducible refine w_eq (dEq_str _ _ _) ?_
  | with_reducible refine w_eq (dNe_strs _ _ _) ?_
  | with_reducible refine w_eq (dEq_bls _ _ _) ?_
  | with_reducible refine w_eq (dNe_bls _ _ _) ?_
  | with_reducible refine w_eq (dLt_int _ _ _) ?_
  | with_reducible refine w_eq (dLe_int _ _ _) ?_
  | with_reducible refine w_eq (dGt_int _ _ _) ?_
  | with_reducible refine w_eq (dGe_int _ _ _) ?_
  | with_reducible refine w_eq (dNe_int _ _ _) ?_
  | ((with_reducible refine w_mod ?_ ?_); (first | assumption | decide | omega))
  | ((with_reducible refine w_fdiv ?_ ?_); (first | assumption | decide | omega))
  | ((with_reducible refine w_mulS ?_ ?_); (first | decide | omega))
  | ((with_reducible refine w_addS ?_ ?_); (first | assumption | decide | omega))
  | ((with_reducible refine w_lenS ?_ ?_); (first | assumption | decide | omega))
  | ((with_reducible refine w_slS ?_ ?_); (first | assumption | decide | omega))
  | with_reducible refine w_lenTm ?_
  | with_reducible refine w_eq (dLen_tup _ _) ?_
  | with_reducible refine w_eq (dSl_tup _ _ _ _) ?_
  | with_reducible refine w_eq (dMax_ev _ _ _) ?_
  | with_reducible refine w_eq (dMin_ev _ _ _) ?_
  | with_reducible refine w_eq (dAbs_ev _ _) ?_
  | with_reducible refine w_not ?_
  | with_reducible refine w_and ?_
  | with_reducible refine w_or ?_
  | with_reducible refine br_n ?_
  | with_reducible refine br_tt ?_
  | with_reducible refine br_ff ?_
  | ((with_reducible refine br_dt ?_ ?_); (first | assumption | omega | rfl))
  | ((with_reducible refine br_df ?_ ?_); (first | assumption | omega))
  | with_reducible refine w_tup ?_
  | ((with_reducible refine w_toTup ?_ ?_); exact (by simp))
  | with_reducible refine w_lst ?_
  | with_reducible refine w_lc ?_
  | with_reducible refine w_for ?_
  | with_reducible refine w_range1 ?_
  | with_reducible refine w_range2 ?_
  | ((with_reducible refine w_dR1 ?_ ?_); (first | decide | omega))
  | ((with_reducible refine w_dR2 ?_ ?_); (first | decide | omega))
  | with_reducible refine w_iter ?_
  | with_reducible refine w_eq (iter1_tup _ _) ?_
  | with_reducible refine w_eq (iter1_str _ _) ?_
  | with_reducible refine w_sl ?_
  | with_reducible refine w_no ?_
  | with_reducible refine w_some ?_
  | with_reducible refine w_unI ?_
  | with_reducible refine w_meth ?_
  | with_reducible refine w_isi ?_
  | with_reducible refine w_zip ?_
  | with_reducible refine w_ifE ?_
  | with_reducible refine w_andV ?_
  | with_reducible refine w_orV ?_
  | with_reducible refine w_notV ?_
  | with_reducible refine w_andK ?_
  | with_reducible refine w_orK ?_
  | with_reducible refine w_notK ?_
  | with_reducible refine w_revL ?_
  | with_reducible refine w_listRg1 ?_
  | with_reducible refine w_tindex ?_
  | with_reducible refine w_setIx ?_
  | with_reducible refine w_un ?_
  | with_reducible refine w_rev1 ?_
  | with_reducible refine w_rev2 ?_
  | with_reducible refine w_chain ?_
  | with_reducible refine w_chK ?_
  | with_reducible refine w_retN ?_
  | with_reducible refine w_brk ?_
  | with_reducible refine w_cont ?_
  | with_reducible refine w_asgT ?_
  | with_reducible refine w_eq (isi_str_str _ _) ?_
  | with_reducible refine w_eq (isi_int_int _ _) ?_
  | with_reducible refine w_eq (isi_tup_tup _ _) ?_
  | with_reducible refine w_eq (isi_bool_int _ _) ?_
  | with_reducible refine w_eq (isi_str_int _ _) ?_
  | ((with_reducible refine w_lenLm (α := ?_) (f := ?_) (l := ?_) ?_ ?_); rotate_left; rotate_left; rotate_left; walk_at "gl")
  | ((with_reducible refine w_lenL (l := ?_) ?_ ?_); rotate_left; walk_at "gl")
  | ((with_reducible refine w_iterL (l := ?_) ?_ ?_); rotate_left; walk_at "gl"; dsimp only)
  | ((with_reducible refine w_tupL (l := ?_) ?_ ?_); rotate_left; walk_at "gl")
  | ((with_reducible refine w_ixT (d := ?_) ?_ ?_); rotate_left; (first | with_reducible assumption | rfl))
  | ((with_reducible refine w_ixL (l := ?_) (d := ?_) ?_ ?_ ?_); rotate_left; rotate_left; walk_at "gl"; (first | with_reducible assumption | rfl))
  | ((with_reducible refine w_addT ?_ ?_); walk_at "bd")
  | ((with_reducible refine ⟨?_, ?_⟩); (with_reducible (show isListD (.ref _) _ = true)); walk_at "il")
  | with_reducible refine w_tryK ?_
  | with_reducible refine w_raise ?_
  | with_reducible refine w_raise0 ?_
  | with_reducible refine w_isX ?_
  | ((with_reducible refine w_isXK (k := ?_) ?_ ?_); rotate_left; (first | with_reducible exact lkA | (apply lkB; decide +kernel; exact lkA) | (apply lkB; decide +kernel; apply lkB; decide +kernel; exact lkA) | (apply lkB; decide +kernel; apply lkB; decide +kernel; apply lkB; decide +kernel; exact lkA)))
  | with_reducible refine w_xf ?_
  | ((with_reducible refine w_xfK ?_ ?_ ?_); (exact List.mem_cons_self); (decide))
  | with_reducible refine w_eq (isN_xo _) ?_
  | with_reducible refine w_eq (dNeg_int _ _) ?_)
local macro_rules | `(tactic| walk_at "go") => `(tactic| (repeat (walk_at "w")); try dsimp only [List.set])
local macro_rules | `(tactic| walk_at "fn") => `(tactic| ((refine w_fun ?_); simp only [startD, List.map_cons, List.map_nil, List.reduceReplicate, Nat.reduceSub, List.cons_append, List.nil_append]; walk_at "go"))
local macro_rules | `(tactic| walk_at "lk") => `(tactic| first | with_reducible exact lkA | (apply lkB; decide +kernel; walk_at "lk"))
local macro_rules | `(tactic| walk_at "mk") => `(tactic| first | with_reducible exact mkA | (apply mkB; decide +kernel; walk_at "mk"))
local macro_rules | `(tactic| walk_at "fk") => `(tactic| first | with_reducible exact fkA | exact fkN | (apply fkB; decide +kernel; walk_at "fk"))
local macro_rules | `(tactic| walk_at "cs") => `(tactic| first | exact List.mem_cons_self | (apply List.mem_cons_of_mem; walk_at "cs"))
local macro_rules | `(tactic| walk_at "w") => `(tactic| first
  | with_reducible refine w_fld ?_
  | ((with_reducible refine w_fldK (c := ?_) (fs := ?_) (v := ?_) ?_ ?_ ?_ ?_); rotate_left; rotate_left; rotate_left; (with_reducible assumption); (walk_at "cs"); (walk_at "fk"))
  | with_reducible refine w_setFld ?_
  | with_reducible refine w_new ?_
  | with_reducible refine w_methI ?_
  | ((with_reducible refine w_methK (c := ?_) (fs := ?_) (F := ?_) ?_ ?_ ?_ ?_); rotate_left; rotate_left; rotate_left; (with_reducible assumption); (walk_at "mk"); (walk_at "fk"))
  | with_reducible refine w_isC ?_
  | ((with_reducible refine w_isCK (c := ?_) (fs := ?_) (k := ?_) ?_ ?_ ?_); rotate_left; rotate_left; rotate_left; (with_reducible assumption); (walk_at "lk"))
  | with_reducible refine w_callD ?_
  | with_reducible refine w_mDSet ?_
  | with_reducible refine w_eq (nN_non _) ?_
  | with_reducible refine w_eq (nN_int _ _) ?_
  | with_reducible refine w_eq (nN_tup _ _) ?_
  | with_reducible refine w_eq (nN_ref _ _) ?_
  | with_reducible refine w_eq (iN_non _) ?_
  | with_reducible refine w_eq (iN_int _ _) ?_
  | with_reducible refine w_eq (iN_tup _ _) ?_
  | with_reducible refine w_eq (iN_ref _ _) ?_)
theorem main_k62 (ns : List Int) (hn : ns.length ≤ 63) (hb : ∀ z ∈ ns, Cell z) : ∃ h', m_law_7b532 [.ref 0] [.rol (ns.map D.int)] = .ok (.bl true) h' := by
  have hl0 : getL [.rol (ns.map D.int)] 0 = some (ns.map D.int) := rfl
  generalize ([.rol (ns.map D.int)] : MH) = h0 at hl0
  suffices s : Sat (m_law_7b532 [.ref 0] h0) (fun d _ => d = .bl true) noX by
    obtain ⟨d, h, e, rfl⟩ := s.get
    exact ⟨h, e⟩
  walk_at "fn"
  refine (cc_at hb hl0 (by decide)).mono ?_
  rintro d h1 ⟨rfl, c0, rfl, hc0⟩
  walk_at "go"
  refine (cc_at hb hl0 (by decide)).mono ?_
  rintro d h1' ⟨rfl, c1, rfl, hc1⟩
  have hm6 := mod_in c1 (n := 6) (by decide)
  walk_at "go"
  refine (cc_pool hc0.q (by omega)).mono ?_
  rintro d h2 ⟨jf, fs, rfl, o2, hfn, hfd, hfl, _⟩
  have hl2 := pre_getL o2.pre hl0
  walk_at "go"
  refine (cc_at hb hl2 (by decide)).mono ?_
  rintro d h2' ⟨rfl, c2, rfl, hc2⟩
  walk_at "go"
  refine (cc_at hb hl2 (by decide)).mono ?_
  rintro d h2'' ⟨rfl, c1', rfl, _⟩
  have hm5 := mod_in (c1' / 6) (n := 5) (by decide)
  walk_at "go"
  refine (cc_pool hc2.q (by omega)).mono ?_
  rintro d h3 ⟨jn, ns1, rfl, o3, hnn, hnd, hnl, _⟩
  walk_at "go"
  refine o_sortS (o2.trans o3) ((o2.trans o3).atL 0 rfl) (by omega) fun jN h4 o4 => ?_
  have hnl4 := sortS_len (l := ns1)
  have hnn4 : ∀ x ∈ sortS ns1, Nm x := fun x hx => hnn x (sortS_mem.mp hx)
  have hnd4 : (sortS ns1).Nodup := (List.mergeSort_perm ns1 leS).nodup_iff.mpr hnd
  generalize sortS ns1 = nl at *
  have hl4 := pre_getL o4.pre hl0
  have gN4 : getL h4 jN = some (nl.map D.str) := o4.atL 0 rfl
  have cN4 := o4.at 0 rfl
  walk_at "go"
  refine (cc_machine hb hl4 (by decide) (by decide) (o4.atL 2 rfl) gN4 (by omega) (by omega)).mono ?_
  rintro d h5 ⟨p5, st, sp, mk, rfl, g⟩
  have M := mc_of g
  have f := fm_of g hfn (by omega) (by decide)
  have etab : gmD fs nl st sp mk = tab61 fs nl st (sp.map fun r => D.tup (r.map .int)) mk := rfl
  rw [etab]
  clear etab
  generalize (sp.map fun r => D.tup (r.map .int)) = T at *
  generalize (sp.length : Int) = m at *
  have hl5 := pre_getL p5 hl4
  have cN5 := pre_get p5 cN4
  walk_at "go"
  refine (cc_at hb hl5 (by decide)).mono ?_
  rintro d h5' ⟨rfl, ca, rfl, hca⟩
  have h40 := mod_in ca (n := 40) (by decide)
  walk_at "go"
  refine o_new (Own.nil h5') (by simp) fun iZ h7 o7 => ?_
  walk_at "go"
  refine o_add o7 (pre_get o7.pre cN5) (o7.at 0 rfl) (by simp; omega) fun iA h8 o8 => ?_
  have eA : nl.map D.str ++ [D.str (Str.ofString "zz")] = (nl ++ [Str.ofString "zz"]).map D.str := by simp
  rw [eA] at o8
  have hnz : ∀ x ∈ nl ++ [Str.ofString "zz"], Nm x := mem_app hnn4 nm_zz61
  walk_at "go"
  refine (cc_doc61 (hca.q.div (by decide)) (by omega) (o8.atL 0 rfl) hnz (by simp; omega)).mono ?_
  rintro y h9 ⟨p9, d0, rfl, hg0, hz0⟩
  have hl9 := pre_getL (o8.pre.trans p9) hl5
  have cN9 := pre_get (o8.pre.trans p9) cN5
  walk_at "go"
  refine (k_keptnewF M (ok_good 100 d0 hg0 (by omega) (by omega))).mono ?_
  rintro y h10 ⟨rfl, p10, kp10⟩
  have hl10 := pre_getL p10 hl9
  have cN10 := pre_get p10 cN9
  generalize h9.length = ik at *
  have hrl : (ns.map D.int).length = ns.length := by simp
  refine ⟨by trivial, ?_⟩
  walk_at "go"
  refine w_loop0 (fun k ρ h' => St62 fs nl st mk T jf jN ik h10 ρ h') ⟨d0, [], _, none, none, none, none, none, none, none, none, none, none, rfl, Fz.refl _, kp10, hg0, hz0⟩ (fun _ _ _ _ => rfl) ?_ ?_
  rotate_left
  · rintro ρ h' ⟨d, Ls, cc, q7, q8, q9, q10, q11, q12, q13, q14, q15, q16, rfl, fz, kp, hg, hz⟩
    walk_at "go"
  · rintro k dd ρ h' hdd ⟨d, Ls, cc, q7, q8, q9, q10, q11, q12, q13, q14, q15, q16, rfl, fz, kp, hg, hz⟩
    obtain ⟨hk, rfl⟩ := rangeD_get hdd
    have hlA := fz.getL hl10
    have cN := fz.lst cN10
    refine ⟨_, rfl, ?_⟩
    dsimp only [List.set]
    walk_at "go"
    refine (cc_at hb hlA (by omega)).mono ?_
    rintro y hA ⟨rfl, c, rfl, hc⟩
    have hc0' := hc.q.2
    walk_at "go"
    refine w_pow (n := 18) (by decide) ?_
    walk_at "go"
    refine br_mid (fun ρ h2 => h2 = hA ∧ ∃ n : Int, CellQ n ∧ ρ = [some (.ref 0), some (.ref jf), some (.ref jN), some (tab61 fs nl st T mk), some (.int c), some d.toD, some (.ref ik), some (.int (4 + (k : Int))), some (.int n), q9, q10, q11, q12, q13, q14, q15, q16]) ?_ ?_
    · refine br_d (fun q => ?_) (fun q => ?_)
      · walk_at "go"
        have := mod_in (c * 16807) (n := 2147483629) (by decide)
        exact ⟨rfl, _, CellQ.small this.1 (by omega), rfl⟩
      · walk_at "go"
        exact ⟨rfl, _, hc.q.div (by decide), rfl⟩
    rintro ρ h2 ⟨rfl, n, hnq, rfl⟩
    walk_at "go"
    refine (k_way hnq (by omega)).mono ?_
    rintro y h3' ⟨rfl, pl, e, n', rfl, he⟩
    have hps := at_szk he
    walk_at "go"
    refine ⟨_, rfl, ?_⟩
    dsimp only [List.set]
    walk_at "go"
    refine o_new (Own.nil _) (by simp) fun iZ h11 o11 => ?_
    walk_at "go"
    refine o_add o11 (pre_get o11.pre cN) (o11.at 0 rfl) (by simp; omega) fun iA h12 o12 => ?_
    rw [eA] at o12
    have gA := o12.atL 0 rfl
    have gN12 : getL h12 jN = some (nl.map D.str) := getL_of (pre_get o12.pre cN)
    have hix := mod_in n' (n := (nl.length : Int) + 1) (by omega)
    obtain ⟨yv, av, ev⟩ := atI_in (l := (nl ++ [Str.ofString "zz"]).map D.str) (i := n' % ((nl.length : Int) + 1)) hix.1 (by simp; omega)
    rw [List.getElem?_map, Option.map_eq_some_iff] at ev
    obtain ⟨x0, ex0, rfl⟩ := ev
    have hx0 := hnz x0 (List.mem_of_getElem? ex0)
    walk_at "go"
    refine br_mid (fun ρ h2 => h2 = h12 ∧ ∃ x : Str, Nm x ∧ ρ = [some (.ref 0), some (.ref jf), some (.ref jN), some (tab61 fs nl st T mk), some (.int c), some d.toD, some (.ref ik), some (.int (4 + (k : Int))), some (.int n), some (.str x), q10, q11, q12, q13, some (.tup (pl.map .int)), some e.toD, some (.int n')]) ?_ ?_
    · refine br_d (fun q => ?_) (fun q => ?_)
      · have hge := at_good hg he
        obtain ⟨xe, le⟩ := e
        rw [toD_mk]
        walk_at "go"
        exact ⟨rfl, xe, hge.1, rfl⟩
      · walk_at "go"
        exact ⟨rfl, x0, hx0, rfl⟩
    rintro ρ h12' ⟨rfl, x, hx, rfl⟩
    exact mid62 M f hnd4 (by omega) (kp.mono o12.pre) (fz.trans (Fz.pre o12.pre)) hg hz he hps hx rfl rfl
end Mi

namespace Sk62
open PySem L2 Mi
def top (i : Nat) : Stmt := PySem.Challenge.pw_graftform_k62_a_name_given.main.body.getD i (.Pass ⟨0, 0, 0, 0⟩)
/-- what the top leaves: names of built-ins that are not bound, constants -/
structure Txt (K : PySem.W.Frag) (mg : Str → Option Value) : Prop where
  b_abs : mg "abs" = none
  b_bool : mg "bool" = none
  b_dict : mg "dict" = none
  b_int : mg "int" = none
  b_isinstance : mg "isinstance" = none
  b_len : mg "len" = none
  b_list : mg "list" = none
  b_max : mg "max" = none
  b_min : mg "min" = none
  b_range : mg "range" = none
  b_reversed : mg "reversed" = none
  b_sorted : mg "sorted" = none
  b_str : mg "str" = none
  b_tuple : mg "tuple" = none
  g_LETTERS : ∃ t, mg "LETTERS" = some (.str (Str.ofString "abcdefghijklmnopqrstuvwxyz") t)
  ct_below : CT K "below" [(Str.ofString "Spot")]
  ct_last : CT K "last" [(Str.ofString "Kept")]
  ct_machine : CT K "machine" [(Str.ofString "Kept")]
  ct_name : CT K "name" [(Str.ofString "Spot")]
  ct_state : CT K "state" [(Str.ofString "Spot")]
  ct_top : CT K "top" [(Str.ofString "Kept")]
theorem sc_init_NoName : FnScope ["self", "name"] ["self", "name"] (defScope (inner (top 5) 0)) := ⟨rfl, rfl, rfl, by decide +kernel, rfl, by decide +kernel, by decide +kernel⟩
theorem sc_init_NoPlace : FnScope ["self", "place"] ["self", "place"] (defScope (inner (top 4) 0)) := ⟨rfl, rfl, rfl, by decide +kernel, rfl, by decide +kernel, by decide +kernel⟩
section
variable {P : Program} {w : World} {K : PySem.W.Frag} {mg : Str → Option Value} {base : Heap}
theorem sc__law_numbers : FnScope ["_law_cell", "_law_many", "_law_found", "_law_rest", "_law_number", "_law_k"] ["_law_cell", "_law_many"] (defScope (top 25)) := ⟨rfl, rfl, rfl, by decide +kernel, rfl, by decide +kernel, by decide +kernel⟩
theorem sim__law_numbers (T : Txt K mg) (d : Df K mg "_law_numbers" (top 25) ["_law_cell", "_law_many"]) : Cal P w K mg base "_law_numbers" 1 (m_numbers_207ed) := by
  exact cal_mk (k := 0) d sc__law_numbers fun f cdv A outer s H E hr => by
   have tk : Takes (cxOf (L2.CX P w) P w K mg base ["_law_cell", "_law_many", "_law_found", "_law_rest", "_law_number", "_law_k"] "_law_numbers" (defScope (top 25)) f cdv A outer s H E) (fun c d _ H' => E c d H') := takes_of rfl rfl rfl rfl
   have hu : (A.deeper (PyProof.Rows.envOfC "_law_numbers" (defScope (top 25)) s.heap.objs.size f cdv)).units + 65 < cLine := by have := hr.un; omega
   have S := sc__law_numbers
   exact ss_cons (sx_set (i := 2) (se_lst (sa_nil)) S.nd)
      (ss_cons (sx_set (i := 3) (se_bin op_mulA s2_mul (mv 0) (se_callTy call_int1 sn_int (by rfl) T.b_int (by decide +kernel) (sa_cons (se_cmp op_ge s2_ge (mv 0) (se_bin op_pow s2_pow (se_int) (se_int)) (nomark _)) (sa_nil)))) S.nd)
      (ss_cons (sx_set (i := 4) (se_bin op_mod s2_mod (se_bin op_mulA s2_mul (mv 0) (se_int)) (se_int)) S.nd)
      (ss_cons (sx_for (passes_of rfl) (si_range1 T.b_range (mv 1)) (sg_name (i := 5) S.nd)
      (ss_one (sx_if (st_cmp op_gt s2_gt (mv 3) (se_int) (nomark _))
      (ss_cons (sx_expr (se_bm PySem.F.plainAttrs_list PySem.F.slot_list_append PySem.F.type_list_append mt_append sty_list sm_append (mv 2) (sa_cons (se_bin op_mod s2_mod (mv 3) (se_bin op_pow s2_pow (se_int) (se_int))) (sa_nil))))
      (ss_one (sx_set (i := 3) (se_bin op_fdivW s2_fdiv (mv 3) (se_bin op_pow s2_pow (se_int) (se_int))) S.nd)))
      (ss_cons (sx_set (i := 4) (se_bin op_mod s2_mod (se_bin op_addA s2_add (se_bin op_addA s2_add (se_bin op_mulA s2_mul (mv 4) (se_int)) (se_int)) (mv 5)) (se_int)) S.nd)
      (ss_one (sx_expr (se_bm PySem.F.plainAttrs_list PySem.F.slot_list_append PySem.F.type_list_append mt_append sty_list sm_append (mv 2) (sa_cons (se_bin op_fdivW s2_fdiv (mv 4) (se_int)) (sa_nil)))))))))
      (ss_one (sx_ret (mv 2))))))
theorem sc__law_spelled : FnScope ["_law_rest", "_law_long", "_law_word", "_law_k"] ["_law_rest", "_law_long"] (defScope (top 26)) := ⟨rfl, rfl, rfl, by decide +kernel, rfl, by decide +kernel, by decide +kernel⟩
theorem sim__law_spelled (T : Txt K mg) (d : Df K mg "_law_spelled" (top 26) ["_law_rest", "_law_long"]) : Cal P w K mg base "_law_spelled" 1 (m_spelled_7a0ca) := by
  exact cal_mk (k := 0) d sc__law_spelled fun f cdv A outer s H E hr => by
   have tk : Takes (cxOf (L2.CX P w) P w K mg base ["_law_rest", "_law_long", "_law_word", "_law_k"] "_law_spelled" (defScope (top 26)) f cdv A outer s H E) (fun c d _ H' => E c d H') := takes_of rfl rfl rfl rfl
   have hu : (A.deeper (PyProof.Rows.envOfC "_law_spelled" (defScope (top 26)) s.heap.objs.size f cdv)).units + 65 < cLine := by have := hr.un; omega
   have S := sc__law_spelled
   exact ss_cons (sx_set (i := 2) (se_str) S.nd)
      (ss_cons (sx_for (passes_of rfl) (si_range1 T.b_range (mv 1)) (sg_name (i := 3) S.nd)
      (ss_cons (sx_set (i := 2) (se_bin op_addA s2_add (mv 2) (se_ix ix_seq s2_ix (se_str) (se_bin op_mod s2_mod (mv 0) (se_int)) (fun _ _ => rfl))) S.nd)
      (ss_one (sx_set (i := 0) (se_bin op_fdivW s2_fdiv (mv 0) (se_int)) S.nd))))
      (ss_one (sx_ret (mv 2))))
theorem sc__law_name : FnScope ["_law_cell", "_law_letters", "_law_long", "_law_word", "_law_number", "_law_at"] ["_law_cell"] (defScope (top 27)) := ⟨rfl, rfl, rfl, by decide +kernel, rfl, by decide +kernel, by decide +kernel⟩
theorem sim__law_name (T : Txt K mg) (d : Df K mg "_law_name" (top 27) ["_law_cell"]) (c__law_spelled : Cal P w K mg base "_law_spelled" 1 (m_spelled_7a0ca)) (c__law_numbers : Cal P w K mg base "_law_numbers" 1 (m_numbers_207ed)) : Cal P w K mg base "_law_name" 2 (m_name_81bef) := by
  exact cal_mk (k := 1) d sc__law_name fun f cdv A outer s H E hr => by
   have tk : Takes (cxOf (L2.CX P w) P w K mg base ["_law_cell", "_law_letters", "_law_long", "_law_word", "_law_number", "_law_at"] "_law_name" (defScope (top 27)) f cdv A outer s H E) (fun c d _ H' => E c d H') := takes_of rfl rfl rfl rfl
   have hu : (A.deeper (PyProof.Rows.envOfC "_law_name" (defScope (top 27)) s.heap.objs.size f cdv)).units + 65 < cLine := by have := hr.un; omega
   have S := sc__law_name
   exact ss_cons (sx_set (i := 1) (se_str) S.nd)
      (ss_cons (sx_set (i := 2) (se_bin op_addA s2_add (se_int) (se_bin op_mod s2_mod (mv 0) (se_int))) S.nd)
      (ss_cons (sx_if (st_cmp op_ge s2_ge (mv 0) (se_bin op_pow s2_pow (se_int) (se_int)) (nomark _))
      (ss_one (sx_ret (se_callC c__law_spelled (hr.mono (by omega)) tk (sa_cons (se_bin op_fdivW s2_fdiv (mv 0) (se_int)) (sa_cons (mv 2) (sa_nil))))))
      (ss_nil))
      (ss_cons (sx_if (st_cmp (op_eqA hu) s2_eq (se_bin op_mod s2_mod (se_bin op_fdivW s2_fdiv (mv 0) (se_int)) (se_int)) (se_int) (nomark _))
      (ss_cons (sx_set (i := 5) (se_bin op_mod s2_mod (se_bin op_fdivW s2_fdiv (mv 0) (se_int)) (mv 2)) S.nd)
      (ss_one (sx_ret (se_bin op_addA s2_add (se_bin op_addA s2_add (se_bin op_mulA s2_mul (se_str) (mv 5)) (se_ix ix_seq s2_ix (mv 1) (se_bin op_mod s2_mod (se_bin op_fdivW s2_fdiv (mv 0) (se_int)) (se_int)) (fun _ _ => rfl))) (se_bin op_mulA s2_mul (se_str) (se_bin op_sub s2_sub (se_bin op_sub s2_sub (mv 2) (se_int)) (mv 5)))))))
      (ss_nil))
      (ss_cons (sx_set (i := 3) (se_str) S.nd)
      (ss_cons (sx_for (passes_of rfl) (si_iter (se_callC c__law_numbers (hr.mono (by omega)) tk (sa_cons (mv 0) (sa_cons (mv 2) (sa_nil))))) (sg_name (i := 4) S.nd)
      (ss_one (sx_set (i := 3) (se_bin op_addA s2_add (mv 3) (se_ix ix_seq s2_ix (mv 1) (se_bin op_mod s2_mod (mv 4) (se_int)) (fun _ _ => rfl))) S.nd)))
      (ss_one (sx_ret (mv 3))))))))
theorem sc__law_pool : FnScope ["_law_cell", "_law_many", "_law_found", "_law_number", "_law_name_here"] ["_law_cell", "_law_many"] (defScope (top 28)) := ⟨rfl, rfl, rfl, by decide +kernel, rfl, by decide +kernel, by decide +kernel⟩
theorem sim__law_pool (T : Txt K mg) (d : Df K mg "_law_pool" (top 28) ["_law_cell", "_law_many"]) (c__law_numbers : Cal P w K mg base "_law_numbers" 1 (m_numbers_207ed)) (c__law_name : Cal P w K mg base "_law_name" 2 (m_name_81bef)) : Cal P w K mg base "_law_pool" 3 (m_pool_0b659) := by
  exact cal_mk (k := 2) d sc__law_pool fun f cdv A outer s H E hr => by
   have tk : Takes (cxOf (L2.CX P w) P w K mg base ["_law_cell", "_law_many", "_law_found", "_law_number", "_law_name_here"] "_law_pool" (defScope (top 28)) f cdv A outer s H E) (fun c d _ H' => E c d H') := takes_of rfl rfl rfl rfl
   have hu : (A.deeper (PyProof.Rows.envOfC "_law_pool" (defScope (top 28)) s.heap.objs.size f cdv)).units + 65 < cLine := by have := hr.un; omega
   have S := sc__law_pool
   exact ss_cons (sx_set (i := 2) (se_lst (sa_nil)) S.nd)
      (ss_cons (sx_for (passes_of rfl) (si_iter (se_callC c__law_numbers (hr.mono (by omega)) tk (sa_cons (mv 0) (sa_cons (mv 1) (sa_nil))))) (sg_name (i := 3) S.nd)
      (ss_cons (sx_set (i := 4) (se_callC c__law_name (hr.mono (by omega)) tk (sa_cons (mv 3) (sa_nil))) S.nd)
      (ss_cons (sx_if (st_cmp op_ge s2_ge (mv 0) (se_bin op_pow s2_pow (se_int) (se_int)) (nomark _))
      (ss_cons (sx_set (i := 4) (se_callC c__law_name (hr.mono (by omega)) tk (sa_cons (mv 0) (sa_nil))) S.nd)
      (ss_one (sx_set (i := 0) (se_bin op_fdivW s2_fdiv (mv 0) (se_bin op_mulA s2_mul (se_int) (se_bin op_pow s2_pow (se_int) (se_int)))) S.nd)))
      (ss_nil))
      (ss_one (sx_if (st_cmp (op_notInA hu) s2_notIn (mv 4) (mv 2) rfl)
      (ss_one (sx_expr (se_bm PySem.F.plainAttrs_list PySem.F.slot_list_append PySem.F.type_list_append mt_append sty_list sm_append (mv 2) (sa_cons (mv 4) (sa_nil)))))
      (ss_nil))))))
      (ss_one (sx_ret (mv 2))))
theorem sc__law_cell_at : FnScope ["_law_script", "_law_k", "_law_cell"] ["_law_script", "_law_k"] (defScope (top 24)) := ⟨rfl, rfl, rfl, by decide +kernel, rfl, by decide +kernel, by decide +kernel⟩
theorem sim__law_cell_at (T : Txt K mg) (d : Df K mg "_law_cell_at" (top 24) ["_law_script", "_law_k"]) : Cal P w K mg base "_law_cell_at" 1 (m_cell_at_5ae90) := by
  exact cal_mk (k := 0) d sc__law_cell_at fun f cdv A outer s H E hr => by
   have tk : Takes (cxOf (L2.CX P w) P w K mg base ["_law_script", "_law_k", "_law_cell"] "_law_cell_at" (defScope (top 24)) f cdv A outer s H E) (fun c d _ H' => E c d H') := takes_of rfl rfl rfl rfl
   have hu : (A.deeper (PyProof.Rows.envOfC "_law_cell_at" (defScope (top 24)) s.heap.objs.size f cdv)).units + 65 < cLine := by have := hr.un; omega
   have S := sc__law_cell_at
   exact ss_cons (sx_set (i := 2) (se_int) S.nd)
      (ss_cons (sx_if (st_cmp op_lt s2_lt (mv 1) (se_callB call_len sn_len (by rfl) T.b_len (by decide +kernel) (sa_cons (mv 0) (sa_nil))) (nomark _))
      (ss_one (sx_set (i := 2) (se_callB call_abs sn_abs (by rfl) T.b_abs (by decide +kernel) (sa_cons (se_ix ix_seq s2_ix (mv 0) (mv 1) (fun _ _ => rfl)) (sa_nil))) S.nd))
      (ss_nil))
      (ss_cons (sx_if (st_cmp op_lt s2_lt (mv 2) (se_bin op_pow s2_pow (se_int) (se_int)) (nomark _))
      (ss_one (sx_ret (se_bin op_mod s2_mod (mv 2) (se_int))))
      (ss_nil))
      (ss_one (sx_ret (mv 2)))))
theorem sc__law_step : FnScope ["_law_way_here", "_law_p", "_law_q", "_law_many", "_law_number"] ["_law_way_here", "_law_p", "_law_q", "_law_many", "_law_number"] (defScope (top 29)) := ⟨rfl, rfl, rfl, by decide +kernel, rfl, by decide +kernel, by decide +kernel⟩
theorem sim__law_step (T : Txt K mg) (d : Df K mg "_law_step" (top 29) ["_law_way_here", "_law_p", "_law_q", "_law_many", "_law_number"]) : Cal P w K mg base "_law_step" 1 (m_step_08124) := by
  exact cal_mk (k := 0) d sc__law_step fun f cdv A outer s H E hr => by
   have tk : Takes (cxOf (L2.CX P w) P w K mg base ["_law_way_here", "_law_p", "_law_q", "_law_many", "_law_number"] "_law_step" (defScope (top 29)) f cdv A outer s H E) (fun c d _ H' => E c d H') := takes_of rfl rfl rfl rfl
   have hu : (A.deeper (PyProof.Rows.envOfC "_law_step" (defScope (top 29)) s.heap.objs.size f cdv)).units + 65 < cLine := by have := hr.un; omega
   have S := sc__law_step
   exact ss_cons (sx_if (st_cmp (op_eqA hu) s2_eq (mv 0) (se_int) (nomark _))
      (ss_one (sx_ret (se_bin op_mod s2_mod (mv 4) (se_callB (call_max2 rfl) sn_max (by rfl) T.b_max (by decide +kernel) (sa_cons (se_int) (sa_cons (se_bin op_sub s2_sub (mv 3) (se_int)) (sa_nil)))))))
      (ss_nil))
      (ss_cons (sx_if ((sw_and (st_cmp (op_eqA hu) s2_eq (mv 0) (se_int) (nomark _)) (sw_and1 (st_cmp (op_eqA hu) s2_eq (mv 1) (mv 2) (nomark _)))).pt)
      (ss_one (sx_ret (se_callB (call_min2 rfl) sn_min (by rfl) T.b_min (by decide +kernel) (sa_cons (se_bin op_sub s2_sub (mv 3) (se_int)) (sa_cons (se_bin op_addA s2_add (mv 1) (se_int)) (sa_nil))))))
      (ss_nil))
      (ss_cons (sx_if (st_cmp (op_eqA hu) s2_eq (mv 0) (se_int) (nomark _))
      (ss_one (sx_ret (se_bin op_mod s2_mod (mv 4) (se_bin op_addA s2_add (se_callB (call_min2 rfl) sn_min (by rfl) T.b_min (by decide +kernel) (sa_cons (mv 1) (sa_cons (mv 2) (sa_nil)))) (se_int)))))
      (ss_nil))
      (ss_cons (sx_if (st_cmp (op_eqA hu) s2_eq (mv 0) (se_int) (nomark _))
      (ss_one (sx_ret (se_callB (call_min2 rfl) sn_min (by rfl) T.b_min (by decide +kernel) (sa_cons (se_bin op_sub s2_sub (mv 3) (se_int)) (sa_cons (se_bin op_addA s2_add (se_callB (call_max2 rfl) sn_max (by rfl) T.b_max (by decide +kernel) (sa_cons (mv 1) (sa_cons (mv 2) (sa_nil)))) (se_bin op_mod s2_mod (mv 4) (se_int))) (sa_nil))))))
      (ss_nil))
      (ss_one (sx_ret (se_bin op_mod s2_mod (mv 4) (mv 3)))))))
theorem sc__law_machine : FnScope ["_law_script", "_law_start", "_law_forms_here", "_law_names", "_law_most", "_law_first", "_law_many", "_law_way_here", "_law_blend", "_law_drawn", "_law_steps", "_law_p", "_law_rest", "_law_marks", "_law_low", "_law_starts", "_law_k", "_law_number", "_law_q"] ["_law_script", "_law_start", "_law_forms_here", "_law_names", "_law_most"] (defScope (top 30)) := ⟨rfl, rfl, rfl, by decide +kernel, rfl, by decide +kernel, by decide +kernel⟩
theorem sim__law_machine (T : Txt K mg) (d : Df K mg "_law_machine" (top 30) ["_law_script", "_law_start", "_law_forms_here", "_law_names", "_law_most"]) (c__law_cell_at : Cal P w K mg base "_law_cell_at" 1 (m_cell_at_5ae90)) (c__law_numbers : Cal P w K mg base "_law_numbers" 1 (m_numbers_207ed)) (c__law_step : Cal P w K mg base "_law_step" 1 (m_step_08124)) : Cal P w K mg base "_law_machine" 2 (m_machine_128e4) := by
  exact cal_mk (k := 1) d sc__law_machine fun f cdv A outer s H E hr => by
   have tk : Takes (cxOf (L2.CX P w) P w K mg base ["_law_script", "_law_start", "_law_forms_here", "_law_names", "_law_most", "_law_first", "_law_many", "_law_way_here", "_law_blend", "_law_drawn", "_law_steps", "_law_p", "_law_rest", "_law_marks", "_law_low", "_law_starts", "_law_k", "_law_number", "_law_q"] "_law_machine" (defScope (top 30)) f cdv A outer s H E) (fun c d _ H' => E c d H') := takes_of rfl rfl rfl rfl
   have hu : (A.deeper (PyProof.Rows.envOfC "_law_machine" (defScope (top 30)) s.heap.objs.size f cdv)).units + 65 < cLine := by have := hr.un; omega
   have S := sc__law_machine
   exact ss_cons (sx_set (i := 5) (se_callC c__law_cell_at (hr.mono (by omega)) tk (sa_cons (mv 0) (sa_cons (mv 1) (sa_nil)))) S.nd)
      (ss_cons (sx_set (i := 6) (se_bin op_addA s2_add (se_int) (se_bin op_mod s2_mod (mv 5) (mv 4))) S.nd)
      (ss_cons (sx_set (i := 7) (se_bin op_mod s2_mod (se_bin op_fdivW s2_fdiv (mv 5) (mv 4)) (se_int)) S.nd)
      (ss_cons (sx_set (i := 8) (se_callC c__law_numbers (hr.mono (by omega)) tk (sa_cons (se_bin op_fdivW s2_fdiv (mv 5) (se_bin op_mulA s2_mul (se_int) (mv 4))) (sa_cons (se_bin op_addA s2_add (se_bin op_addA s2_add (se_bin op_addA s2_add (se_bin op_mulA s2_mul (mv 6) (mv 6)) (mv 6)) (se_callB call_len sn_len (by rfl) T.b_len (by decide +kernel) (sa_cons (mv 3) (sa_nil)))) (se_int)) (sa_nil)))) S.nd)
      (ss_cons ((by first | exact sx_setLc (own := [("_law_k", 16)]) (i := 9) S.nd (si_range1 T.b_range (se_callB call_len sn_len (by rfl) T.b_len (by decide +kernel) (sa_cons (mv 8) (sa_nil)))) (blkOk_by (N := ["_law_script", "_law_start", "_law_forms_here", "_law_names", "_law_most", "_law_first", "_law_many", "_law_way_here", "_law_blend", "_law_drawn", "_law_steps", "_law_p", "_law_rest", "_law_marks", "_law_low", "_law_starts", "_law_k", "_law_number", "_law_q"]) (sc := defScope (top 30)) (by decide +kernel)) (tg_name 16) (fun _ _ _ _ _ => pg_name (i := 16) S.nd rfl (Or.inl rfl)) (fun _ _ _ _ _ => st_nil) (fun _ _ _ _ _ => se_bin op_addA s2_add (se_ix ix_seq s2_ix (mv 8) (mv 16) (fun _ _ => rfl)) (se_callC c__law_cell_at (hr.mono (by omega)) takes0 (sa_cons (mv 0) (sa_cons (se_bin op_addA s2_add (se_bin op_addA s2_add (mv 1) (se_int)) (mv 16)) (sa_nil))))) | exact sx_set (i := 9) (se_lc (own := [("_law_k", 16)]) S.nd (si_range1 T.b_range (se_callB call_len sn_len (by rfl) T.b_len (by decide +kernel) (sa_cons (mv 8) (sa_nil)))) (blkOk_by (N := ["_law_script", "_law_start", "_law_forms_here", "_law_names", "_law_most", "_law_first", "_law_many", "_law_way_here", "_law_blend", "_law_drawn", "_law_steps", "_law_p", "_law_rest", "_law_marks", "_law_low", "_law_starts", "_law_k", "_law_number", "_law_q"]) (sc := defScope (top 30)) (by decide +kernel)) (tg_name 16) (fun _ _ _ _ _ => pg_name (i := 16) S.nd rfl (Or.inl rfl)) (fun _ _ _ _ _ => st_nil) (fun _ _ _ _ _ => se_bin op_addA s2_add (se_ix ix_seq s2_ix (mv 8) (mv 16) (fun _ _ => rfl)) (se_callC c__law_cell_at (hr.mono (by omega)) takes0 (sa_cons (mv 0) (sa_cons (se_bin op_addA s2_add (se_bin op_addA s2_add (mv 1) (se_int)) (mv 16)) (sa_nil)))))) S.nd))
      (ss_cons (sx_set (i := 10) (se_lst (sa_nil)) S.nd)
      (ss_cons (sx_for (passes_of rfl) (si_range1 T.b_range (mv 6)) (sg_name (i := 11) S.nd)
      (ss_one (sx_expr (se_bm PySem.F.plainAttrs_list PySem.F.slot_list_append PySem.F.type_list_append mt_append sty_list sm_append (mv 10) (sa_cons (se_callTy call_tupF sn_tuple (by rfl) T.b_tuple (by decide +kernel) (sa_cons (se_lc (own := [("_law_q", 18)]) S.nd (si_range1 T.b_range (mv 6)) (blkOk_by (N := ["_law_script", "_law_start", "_law_forms_here", "_law_names", "_law_most", "_law_first", "_law_many", "_law_way_here", "_law_blend", "_law_drawn", "_law_steps", "_law_p", "_law_rest", "_law_marks", "_law_low", "_law_starts", "_law_k", "_law_number", "_law_q"]) (sc := defScope (top 30)) (by decide +kernel)) (tg_name 18) (fun _ _ _ _ _ => pg_name (i := 18) S.nd rfl (Or.inl rfl)) (fun _ _ _ _ _ => st_nil) (fun _ _ _ _ _ => se_callC c__law_step (hr.mono (by omega)) takes0 (sa_cons (mv 7) (sa_cons (mv 11) (sa_cons (mv 18) (sa_cons (mv 6) (sa_cons (se_ix ix_seq s2_ix (mv 9) (se_bin op_addA s2_add (se_bin op_mulA s2_mul (mv 11) (mv 6)) (mv 18)) (fun _ _ => rfl)) (sa_nil)))))))) (sa_nil))) (sa_nil))))))
      (ss_cons (sx_set (i := 12) (se_slice (mv 9) (sp_some (se_bin op_mulA s2_mul (mv 6) (mv 6))) (sp_none)) S.nd)
      (ss_cons (sx_set (i := 13) (se_callTy call_tupF sn_tuple (by rfl) T.b_tuple (by decide +kernel) (sa_cons (se_lc (own := [("_law_number", 17)]) S.nd (si_iter (se_slice (mv 12) (sp_none) (sp_some (mv 6)))) (blkOk_by (N := ["_law_script", "_law_start", "_law_forms_here", "_law_names", "_law_most", "_law_first", "_law_many", "_law_way_here", "_law_blend", "_law_drawn", "_law_steps", "_law_p", "_law_rest", "_law_marks", "_law_low", "_law_starts", "_law_k", "_law_number", "_law_q"]) (sc := defScope (top 30)) (by decide +kernel)) (tg_name 17) (fun _ _ _ _ _ => pg_name (i := 17) S.nd rfl (Or.inl rfl)) (fun _ _ _ _ _ => st_nil) (fun _ _ _ _ _ => se_bin op_mod s2_mod (se_bin op_fdivW s2_fdiv (mv 17) (se_int)) (se_bin op_shl s2_shl (se_int) (se_callB call_len sn_len (by rfl) T.b_len (by decide +kernel) (sa_cons (mv 2) (sa_nil)))))) (sa_nil))) S.nd)
      (ss_cons (sx_set (i := 14) (se_ix ix_seq s2_ix (se_lst (sa_cons (mv 6) (sa_cons (se_callB (call_max2 rfl) sn_max (by rfl) T.b_max (by decide +kernel) (sa_cons (se_int) (sa_cons (se_bin op_sub s2_sub (mv 6) (se_int)) (sa_nil)))) (sa_cons (se_int) (sa_cons (se_callB (call_max2 rfl) sn_max (by rfl) T.b_max (by decide +kernel) (sa_cons (se_int) (sa_cons (se_bin op_fdivW s2_fdiv (mv 6) (se_int)) (sa_nil)))) (sa_cons (mv 6) (sa_nil))))))) (mv 7) (fun _ _ => rfl)) S.nd)
      (ss_cons (sx_set (i := 15) (se_callTy call_tupF sn_tuple (by rfl) T.b_tuple (by decide +kernel) (sa_cons (se_lc (own := [("_law_number", 17)]) S.nd (si_iter (se_slice (mv 12) (sp_some (mv 6)) (sp_none))) (blkOk_by (N := ["_law_script", "_law_start", "_law_forms_here", "_law_names", "_law_most", "_law_first", "_law_many", "_law_way_here", "_law_blend", "_law_drawn", "_law_steps", "_law_p", "_law_rest", "_law_marks", "_law_low", "_law_starts", "_law_k", "_law_number", "_law_q"]) (sc := defScope (top 30)) (by decide +kernel)) (tg_name 17) (fun _ _ _ _ _ => pg_name (i := 17) S.nd rfl (Or.inl rfl)) (fun _ _ _ _ _ => st_nil) (fun _ _ _ _ _ => se_bin op_mod s2_mod (se_bin op_fdivW s2_fdiv (mv 17) (se_int)) (mv 14))) (sa_nil))) S.nd)
      (ss_one (sx_ret (se_tup (sa_cons (se_callTy call_tupF sn_tuple (by rfl) T.b_tuple (by decide +kernel) (sa_cons (mv 2) (sa_nil))) (sa_cons (se_callTy call_tupF sn_tuple (by rfl) T.b_tuple (by decide +kernel) (sa_cons (mv 3) (sa_nil))) (sa_cons (mv 15) (sa_cons (se_callTy call_tupF sn_tuple (by rfl) T.b_tuple (by decide +kernel) (sa_cons (mv 10) (sa_nil))) (sa_cons (mv 13) (sa_nil)))))))))))))))))))
theorem sc__law_doc : FnScope ["_law_cell", "_law_many", "_law_names", "_law_numbers_here", "_law_rows", "_law_made", "_law_k", "_law_upper"] ["_law_cell", "_law_many", "_law_names"] (defScope (top 37)) := ⟨rfl, rfl, rfl, by decide +kernel, rfl, by decide +kernel, by decide +kernel⟩
theorem sim__law_doc (T : Txt K mg) (d : Df K mg "_law_doc" (top 37) ["_law_cell", "_law_many", "_law_names"]) (c__law_numbers : Cal P w K mg base "_law_numbers" 1 (m_numbers_207ed)) : Cal P w K mg base "_law_doc" 2 (m_doc_3ac0d) := by
  exact cal_mk (k := 1) d sc__law_doc fun f cdv A outer s H E hr => by
   have tk : Takes (cxOf (L2.CX P w) P w K mg base ["_law_cell", "_law_many", "_law_names", "_law_numbers_here", "_law_rows", "_law_made", "_law_k", "_law_upper"] "_law_doc" (defScope (top 37)) f cdv A outer s H E) (fun c d _ H' => E c d H') := takes_of rfl rfl rfl rfl
   have hu : (A.deeper (PyProof.Rows.envOfC "_law_doc" (defScope (top 37)) s.heap.objs.size f cdv)).units + 65 < cLine := by have := hr.un; omega
   have S := sc__law_doc
   exact ss_cons (sx_set (i := 3) (se_callC c__law_numbers (hr.mono (by omega)) tk (sa_cons (mv 0) (sa_cons (se_bin op_addA s2_add (mv 1) (se_int)) (sa_nil)))) S.nd)
      (ss_cons ((by first | exact sx_setLc (own := [("_law_k", 6)]) (i := 4) S.nd (si_range1 T.b_range (mv 1)) (blkOk_by (N := ["_law_cell", "_law_many", "_law_names", "_law_numbers_here", "_law_rows", "_law_made", "_law_k", "_law_upper"]) (sc := defScope (top 37)) (by decide +kernel)) (tg_name 6) (fun _ _ _ _ _ => pg_name (i := 6) S.nd rfl (Or.inl rfl)) (fun _ _ _ _ _ => st_nil) (fun _ _ _ _ _ => se_tup (sa_nil)) | exact sx_set (i := 4) (se_lc (own := [("_law_k", 6)]) S.nd (si_range1 T.b_range (mv 1)) (blkOk_by (N := ["_law_cell", "_law_many", "_law_names", "_law_numbers_here", "_law_rows", "_law_made", "_law_k", "_law_upper"]) (sc := defScope (top 37)) (by decide +kernel)) (tg_name 6) (fun _ _ _ _ _ => pg_name (i := 6) S.nd rfl (Or.inl rfl)) (fun _ _ _ _ _ => st_nil) (fun _ _ _ _ _ => se_tup (sa_nil))) S.nd))
      (ss_cons (sx_set (i := 5) (se_non) S.nd)
      (ss_cons (sx_for (passes_of rfl) (si_rev1 T.b_reversed T.b_range (mv 1)) (sg_name (i := 6) S.nd)
      (ss_cons (sx_set (i := 5) (se_tup (sa_cons (se_ix ix_seq s2_ix (mv 2) (se_bin op_mod s2_mod (se_ix ix_seq s2_ix (mv 3) (mv 6) (fun _ _ => rfl)) (se_callB call_len sn_len (by rfl) T.b_len (by decide +kernel) (sa_cons (mv 2) (sa_nil)))) (fun _ _ => rfl)) (sa_cons (se_ix ix_seq s2_ix (mv 4) (mv 6) (fun _ _ => rfl)) (sa_nil)))) S.nd)
      (ss_one (sx_if (st_cmp op_gt s2_gt (mv 6) (se_int) (nomark _))
      (ss_cons (sx_set (i := 7) (se_bin op_sub s2_sub (se_bin op_sub s2_sub (mv 6) (se_int)) (se_bin op_mod s2_mod (se_bin op_fdivW s2_fdiv (se_ix ix_seq s2_ix (mv 3) (mv 6) (fun _ _ => rfl)) (se_int)) (se_ix ix_seq s2_ix (se_lst (sa_cons (mv 6) (sa_cons (se_callB (call_min2 rfl) sn_min (by rfl) T.b_min (by decide +kernel) (sa_cons (mv 6) (sa_cons (se_int) (sa_nil)))) (sa_cons (se_callB (call_min2 rfl) sn_min (by rfl) T.b_min (by decide +kernel) (sa_cons (mv 6) (sa_cons (se_int) (sa_nil)))) (sa_nil))))) (se_bin op_mod s2_mod (se_ix ix_seq s2_ix (mv 3) (mv 1) (fun _ _ => rfl)) (se_int)) (fun _ _ => rfl)))) S.nd)
      (ss_one (sx_setIx (mv 4) (mv 7) (se_bin op_addA s2_add (se_tup (sa_cons (mv 5) (sa_nil))) (se_ix ix_seq s2_ix (mv 4) (mv 7) (fun _ _ => rfl))))))
      (ss_nil)))))
      (ss_one (sx_ret (mv 5))))))
theorem sc_Spot___init__ : FnScope ["self", "name", "state", "below"] ["self", "name", "state", "below"] (defScope (inner (top 16) 0)) := ⟨rfl, rfl, rfl, by decide +kernel, rfl, by decide +kernel, by decide +kernel⟩
theorem sim_Spot___init__ (T : Txt K mg) (d : Di K mg "Spot" "Spot.__init__" (inner (top 16) 0) ["self", "name", "state", "below"]) : MkOf P w K mg base "Spot" 1 (m_Spot___init___64891) := by
  exact mkof_mk (k := 0) d sc_Spot___init__ fun f cdv A outer s H E hr => by
   have tk : Takes (cxOf (L2.CX P w) P w K mg base ["self", "name", "state", "below"] "Spot.__init__" (defScope (inner (top 16) 0)) f cdv A outer s H E) (fun c d _ H' => E c d H') := takes_of rfl rfl rfl rfl
   have hu : (A.deeper (PyProof.Rows.envOfC "Spot.__init__" (defScope (inner (top 16) 0)) s.heap.objs.size f cdv)).units + 65 < cLine := by have := hr.un; omega
   have S := sc_Spot___init__
   exact ss_cons (sx_setFld T.ct_name (mv 0) (mv 1))
      (ss_cons (sx_setFld T.ct_state (mv 0) (mv 2))
      (ss_one (sx_setFld T.ct_below (mv 0) (mv 3))))
theorem sc_start_of : FnScope ["machine", "name"] ["machine", "name"] (defScope (top 12)) := ⟨rfl, rfl, rfl, by decide +kernel, rfl, by decide +kernel, by decide +kernel⟩
theorem sim_start_of (T : Txt K mg) (d : Df K mg "start_of" (top 12) ["machine", "name"]) : Cal P w K mg base "start_of" 1 (m_start_of_78275) := by
  exact cal_mk (k := 0) d sc_start_of fun f cdv A outer s H E hr => by
   have tk : Takes (cxOf (L2.CX P w) P w K mg base ["machine", "name"] "start_of" (defScope (top 12)) f cdv A outer s H E) (fun c d _ H' => E c d H') := takes_of rfl rfl rfl rfl
   have hu : (A.deeper (PyProof.Rows.envOfC "start_of" (defScope (top 12)) s.heap.objs.size f cdv)).units + 65 < cLine := by have := hr.un; omega
   have S := sc_start_of
   exact ss_cons (sx_if (st_cmp (op_inA hu) s2_in (mv 1) (se_ix ix_seq s2_ix (mv 0) (se_int) (fun _ _ => rfl)) rfl)
      (ss_one (sx_ret (se_ix ix_seq s2_ix (se_ix ix_seq s2_ix (mv 0) (se_int) (fun _ _ => rfl)) (se_tindex (se_ix ix_seq s2_ix (mv 0) (se_int) (fun _ _ => rfl)) (mv 1)) (fun _ _ => rfl))))
      (ss_nil))
      (ss_one (sx_ret (se_ix ix_seq s2_ix (se_ix ix_seq s2_ix (mv 0) (se_int) (fun _ _ => rfl)) (se_un un_neg s1_neg (se_int)) (fun _ _ => rfl))))
theorem sc_state_by : FnScope ["machine", "name", "below", "state", "spot"] ["machine", "name", "below"] (defScope (top 17)) := ⟨rfl, rfl, rfl, by decide +kernel, rfl, by decide +kernel, by decide +kernel⟩
theorem sim_state_by (T : Txt K mg) (d : Df K mg "state_by" (top 17) ["machine", "name", "below"]) (c_start_of : Cal P w K mg base "start_of" 1 (m_start_of_78275)) : Cal P w K mg base "state_by" 2 (m_state_by_14b94) := by
  exact cal_mk (k := 1) d sc_state_by fun f cdv A outer s H E hr => by
   have tk : Takes (cxOf (L2.CX P w) P w K mg base ["machine", "name", "below", "state", "spot"] "state_by" (defScope (top 17)) f cdv A outer s H E) (fun c d _ H' => E c d H') := takes_of rfl rfl rfl rfl
   have hu : (A.deeper (PyProof.Rows.envOfC "state_by" (defScope (top 17)) s.heap.objs.size f cdv)).units + 65 < cLine := by have := hr.un; omega
   have S := sc_state_by
   exact ss_cons (sx_set (i := 3) (se_callC c_start_of (hr.mono (by omega)) tk (sa_cons (mv 0) (sa_cons (mv 1) (sa_nil)))) S.nd)
      (ss_cons (sx_for (passes_of rfl) (si_iter (mv 2)) (sg_name (i := 4) S.nd)
      (ss_one (sx_set (i := 3) (se_ix ix_seq s2_ix (se_ix ix_seq s2_ix (se_ix ix_seq s2_ix (mv 0) (se_int) (fun _ _ => rfl)) (mv 3) (fun _ _ => rfl)) (se_fld T.ct_state (mv 4)) (fun _ _ => rfl)) S.nd)))
      (ss_one (sx_ret (mv 3))))
theorem sc_spot_of : FnScope ["machine", "doc", "below", "child"] ["machine", "doc"] (defScope (top 18)) := ⟨rfl, rfl, rfl, by decide +kernel, rfl, by decide +kernel, by decide +kernel⟩
theorem sim_spot_of (T : Txt K mg) (d : Df K mg "spot_of" (top 18) ["machine", "doc"]) (c_Spot___init__ : MkOf P w K mg base "Spot" 1 (m_Spot___init___64891)) (c_state_by : Cal P w K mg base "state_by" 2 (m_state_by_14b94)) : ∀ n, Cal P w K mg base "spot_of" (n + 2) (m_spot_of_63ba3 n)
 | 0 => cal_none d (fun _ _ => rfl)
 | n + 1 => by
  have c_self := sim_spot_of T d c_Spot___init__ c_state_by n
  have e : n + 1 + 2 = (n + 2) + 1 := by omega
  rw [e]
  exact cal_mk (k := n + 2) d sc_spot_of fun f cdv A outer s H E hr => by
   have tk : Takes (cxOf (L2.CX P w) P w K mg base ["machine", "doc", "below", "child"] "spot_of" (defScope (top 18)) f cdv A outer s H E) (fun c d _ H' => E c d H') := takes_of rfl rfl rfl rfl
   have hu : (A.deeper (PyProof.Rows.envOfC "spot_of" (defScope (top 18)) s.heap.objs.size f cdv)).units + 65 < cLine := by have := hr.un; omega
   have S := sc_spot_of
   exact ss_cons ((by first | exact sx_setLc (own := [("child", 3)]) (i := 2) S.nd (si_iter (se_ix ix_seq s2_ix (mv 1) (se_int) (fun _ _ => rfl))) (blkOk_by (N := ["machine", "doc", "below", "child"]) (sc := defScope (top 18)) (by decide +kernel)) (tg_name 3) (fun _ _ _ _ _ => pg_name (i := 3) S.nd rfl (Or.inl rfl)) (fun _ _ _ _ _ => st_nil) (fun _ _ _ _ _ => se_callC c_self (hr.mono (by omega)) takes0 (sa_cons (mv 0) (sa_cons (mv 3) (sa_nil)))) | exact sx_set (i := 2) (se_lc (own := [("child", 3)]) S.nd (si_iter (se_ix ix_seq s2_ix (mv 1) (se_int) (fun _ _ => rfl))) (blkOk_by (N := ["machine", "doc", "below", "child"]) (sc := defScope (top 18)) (by decide +kernel)) (tg_name 3) (fun _ _ _ _ _ => pg_name (i := 3) S.nd rfl (Or.inl rfl)) (fun _ _ _ _ _ => st_nil) (fun _ _ _ _ _ => se_callC c_self (hr.mono (by omega)) takes0 (sa_cons (mv 0) (sa_cons (mv 3) (sa_nil))))) S.nd))
      (ss_one (sx_ret (se_new c_Spot___init__ (hr.mono (by omega)) tk (sa_cons (se_ix ix_seq s2_ix (mv 1) (se_int) (fun _ _ => rfl)) (sa_cons (se_callC c_state_by (hr.mono (by omega)) tk (sa_cons (mv 0) (sa_cons (se_ix ix_seq s2_ix (mv 1) (se_int) (fun _ _ => rfl)) (sa_cons (mv 2) (sa_nil))))) (sa_cons (mv 2) (sa_nil)))))))
theorem sc_Kept___init__ : FnScope ["self", "machine", "doc"] ["self", "machine", "doc"] (defScope (inner (top 22) 0)) := ⟨rfl, rfl, rfl, by decide +kernel, rfl, by decide +kernel, by decide +kernel⟩
theorem sim_Kept___init__ (T : Txt K mg) (d : Di K mg "Kept" "Kept.__init__" (inner (top 22) 0) ["self", "machine", "doc"]) (c_spot_of : Cal P w K mg base "spot_of" 102 (m_spot_of_63ba3 100)) : MkOf P w K mg base "Kept" 103 (m_Kept___init___3777c) := by
  exact mkof_mk (k := 102) d sc_Kept___init__ fun f cdv A outer s H E hr => by
   have tk : Takes (cxOf (L2.CX P w) P w K mg base ["self", "machine", "doc"] "Kept.__init__" (defScope (inner (top 22) 0)) f cdv A outer s H E) (fun c d _ H' => E c d H') := takes_of rfl rfl rfl rfl
   have hu : (A.deeper (PyProof.Rows.envOfC "Kept.__init__" (defScope (inner (top 22) 0)) s.heap.objs.size f cdv)).units + 65 < cLine := by have := hr.un; omega
   have S := sc_Kept___init__
   exact ss_cons (sx_setFld T.ct_machine (mv 0) (mv 1))
      (ss_cons (sx_setFld T.ct_top (mv 0) (se_callC c_spot_of (hr.mono (by omega)) tk (sa_cons (mv 1) (sa_cons (mv 2) (sa_nil)))))
      (ss_one (sx_setFld T.ct_last (mv 0) (se_lst (sa_nil)))))
theorem sc__law_way : FnScope ["_law_doc_here", "_law_number", "_law_place_here", "_law_k"] ["_law_doc_here", "_law_number"] (defScope (top 38)) := ⟨rfl, rfl, rfl, by decide +kernel, rfl, by decide +kernel, by decide +kernel⟩
theorem sim__law_way (T : Txt K mg) (d : Df K mg "_law_way" (top 38) ["_law_doc_here", "_law_number"]) : Cal P w K mg base "_law_way" 1 (m_way_05370) := by
  exact cal_mk (k := 0) d sc__law_way fun f cdv A outer s H E hr => by
   have tk : Takes (cxOf (L2.CX P w) P w K mg base ["_law_doc_here", "_law_number", "_law_place_here", "_law_k"] "_law_way" (defScope (top 38)) f cdv A outer s H E) (fun c d _ H' => E c d H') := takes_of rfl rfl rfl rfl
   have hu : (A.deeper (PyProof.Rows.envOfC "_law_way" (defScope (top 38)) s.heap.objs.size f cdv)).units + 65 < cLine := by have := hr.un; omega
   have S := sc__law_way
   exact ss_cons (sx_set (i := 2) (se_tup (sa_nil)) S.nd)
      (ss_cons (sx_while 1000 (passes_of rfl) ((sw_and (st_cmp (op_neA hu) s2_ne (se_ix ix_seq s2_ix (mv 0) (se_int) (fun _ _ => rfl)) (se_tup (sa_nil)) (nomark _)) (sw_and1 (st_cmp (op_neA hu) s2_ne (se_bin op_mod s2_mod (mv 1) (se_int)) (se_int) (nomark _)))).pt)
      (ss_cons (sx_set (i := 3) (se_bin op_mod s2_mod (se_bin op_fdivW s2_fdiv (mv 1) (se_int)) (se_callB call_len sn_len (by rfl) T.b_len (by decide +kernel) (sa_cons (se_ix ix_seq s2_ix (mv 0) (se_int) (fun _ _ => rfl)) (sa_nil)))) S.nd)
      (ss_cons (sx_set (i := 2) (se_bin op_addA s2_add (mv 2) (se_tup (sa_cons (mv 3) (sa_nil)))) S.nd)
      (ss_cons (sx_set (i := 0) (se_ix ix_seq s2_ix (se_ix ix_seq s2_ix (mv 0) (se_int) (fun _ _ => rfl)) (mv 3) (fun _ _ => rfl)) S.nd)
      (ss_one (sx_if (st_cmp op_lt s2_lt (mv 1) (se_bin op_pow s2_pow (se_int) (se_int)) (nomark _))
      (ss_one (sx_set (i := 1) (se_bin op_mod s2_mod (se_bin op_addA s2_add (se_bin op_mulA s2_mul (mv 1) (se_int)) (se_int)) (se_int)) S.nd))
      (ss_one (sx_set (i := 1) (se_bin op_fdivW s2_fdiv (mv 1) (se_int)) S.nd))))))))
      (ss_cons (sx_if (st_cmp op_lt s2_lt (mv 1) (se_bin op_pow s2_pow (se_int) (se_int)) (nomark _))
      (ss_one (sx_ret (se_tup (sa_cons (mv 2) (sa_cons (mv 0) (sa_cons (se_bin op_mod s2_mod (se_bin op_addA s2_add (se_bin op_mulA s2_mul (mv 1) (se_int)) (se_int)) (se_int)) (sa_nil)))))))
      (ss_nil))
      (ss_one (sx_ret (se_tup (sa_cons (mv 2) (sa_cons (mv 0) (sa_cons (se_bin op_fdivW s2_fdiv (mv 1) (se_int)) (sa_nil)))))))))
theorem sc_Kept_spots : FnScope ["self", "place", "asked", "found", "k"] ["self", "place", "asked"] (defScope (inner (top 22) 2)) := ⟨rfl, rfl, rfl, by decide +kernel, rfl, by decide +kernel, by decide +kernel⟩
theorem sim_Kept_spots (T : Txt K mg) (d : Dm K "Kept" "spots" "Kept.spots" (inner (top 22) 2) ["self", "place", "asked"]) (xi_NoPlace : XI P w K mg base "NoPlace" "place") : MtOf P w K mg base "Kept" "spots" 3 (m_Kept_spots_cf332) := by
  exact mtof_mk (k := 2) d sc_Kept_spots fun f cdv A outer s H E hr => by
   have tk : Takes (cxOf (L2.CX P w) P w K mg base ["self", "place", "asked", "found", "k"] "Kept.spots" (defScope (inner (top 22) 2)) f cdv A outer s H E) (fun c d _ H' => E c d H') := takes_of rfl rfl rfl rfl
   have hu : (A.deeper (PyProof.Rows.envOfC "Kept.spots" (defScope (inner (top 22) 2)) s.heap.objs.size f cdv)).units + 65 < cLine := by have := hr.un; omega
   have S := sc_Kept_spots
   exact ss_cons (sx_set (i := 3) (se_lst (sa_cons (se_fld T.ct_top (mv 0)) (sa_nil))) S.nd)
      (ss_cons (sx_for (passes_of rfl) (si_iter (mv 1)) (sg_name (i := 4) S.nd)
      (ss_cons (sx_if ((sw_or (st_cmp op_lt s2_lt (mv 4) (se_int) (nomark _)) (sw_or1 (st_cmp op_ge s2_ge (mv 4) (se_callB call_len sn_len (by rfl) T.b_len (by decide +kernel) (sa_cons (se_fld T.ct_below (se_ix ix_seq s2_ix (mv 3) (se_un un_neg s1_neg (se_int)) (fun _ _ => rfl))) (sa_nil))) (nomark _)))).pt)
      (ss_one (sx_raise (f := "place") xi_NoPlace (hr.mono (by omega)) tk (mv 2)))
      (ss_nil))
      (ss_one (sx_expr (se_bm PySem.F.plainAttrs_list PySem.F.slot_list_append PySem.F.type_list_append mt_append sty_list sm_append (mv 3) (sa_cons (se_ix ix_seq s2_ix (se_fld T.ct_below (se_ix ix_seq s2_ix (mv 3) (se_un un_neg s1_neg (se_int)) (fun _ _ => rfl))) (mv 4) (fun _ _ => rfl)) (sa_nil)))))))
      (ss_one (sx_ret (mv 3))))
theorem sc_Kept_look : FnScope ["self", "spots", "place", "told", "k", "spot", "state"] ["self", "spots", "place"] (defScope (inner (top 22) 3)) := ⟨rfl, rfl, rfl, by decide +kernel, rfl, by decide +kernel, by decide +kernel⟩
theorem sim_Kept_look (T : Txt K mg) (d : Dm K "Kept" "look" "Kept.look" (inner (top 22) 3) ["self", "spots", "place"]) (c_state_by : Cal P w K mg base "state_by" 2 (m_state_by_14b94)) : MtOf P w K mg base "Kept" "look" 3 (m_Kept_look_1e813) := by
  exact mtof_mk (k := 2) d sc_Kept_look fun f cdv A outer s H E hr => by
   have tk : Takes (cxOf (L2.CX P w) P w K mg base ["self", "spots", "place", "told", "k", "spot", "state"] "Kept.look" (defScope (inner (top 22) 3)) f cdv A outer s H E) (fun c d _ H' => E c d H') := takes_of rfl rfl rfl rfl
   have hu : (A.deeper (PyProof.Rows.envOfC "Kept.look" (defScope (inner (top 22) 3)) s.heap.objs.size f cdv)).units + 65 < cLine := by have := hr.un; omega
   have S := sc_Kept_look
   exact ss_cons (sx_set (i := 3) (se_lst (sa_nil)) S.nd)
      (ss_cons (sx_for (passes_of rfl) (si_rev1 T.b_reversed T.b_range (se_callB call_len sn_len (by rfl) T.b_len (by decide +kernel) (sa_cons (mv 1) (sa_nil)))) (sg_name (i := 4) S.nd)
      (ss_cons (sx_set (i := 5) (se_ix ix_seq s2_ix (mv 1) (mv 4) (fun _ _ => rfl)) S.nd)
      (ss_cons (sx_set (i := 6) (se_callC c_state_by (hr.mono (by omega)) tk (sa_cons (se_fld T.ct_machine (mv 0)) (sa_cons (se_fld T.ct_name (mv 5)) (sa_cons (se_fld T.ct_below (mv 5)) (sa_nil))))) S.nd)
      (ss_cons (sx_expr (se_bm PySem.F.plainAttrs_list PySem.F.slot_list_append PySem.F.type_list_append mt_append sty_list sm_append (mv 3) (sa_cons (se_slice (mv 2) (sp_none) (sp_some (mv 4))) (sa_nil))))
      (ss_cons (sx_if (st_cmp (op_eqA hu) s2_eq (mv 6) (se_fld T.ct_state (mv 5)) (nomark _))
      (ss_one (sx_ret (mv 3)))
      (ss_nil))
      (ss_one (sx_setFld T.ct_state (mv 5) (mv 6))))))))
      (ss_one (sx_ret (mv 3))))
theorem sc_is_name : FnScope ["thing", "sign"] ["thing"] (defScope (top 9)) := ⟨rfl, rfl, rfl, by decide +kernel, rfl, by decide +kernel, by decide +kernel⟩
theorem sim_is_name (T : Txt K mg) (d : Df K mg "is_name" (top 9) ["thing"]) : Cal P w K mg base "is_name" 1 (m_is_name_50395) := by
  obtain ⟨t_LETTERS, g_LETTERS⟩ := T.g_LETTERS
  exact cal_mk (k := 0) d sc_is_name fun f cdv A outer s H E hr => by
   have tk : Takes (cxOf (L2.CX P w) P w K mg base ["thing", "sign"] "is_name" (defScope (top 9)) f cdv A outer s H E) (fun c d _ H' => E c d H') := takes_of rfl rfl rfl rfl
   have hu : (A.deeper (PyProof.Rows.envOfC "is_name" (defScope (top 9)) s.heap.objs.size f cdv)).units + 65 < cLine := by have := hr.un; omega
   have S := sc_is_name
   exact ss_cons (sx_if ((sw_or (st_not (st_val (se_isi (mv 0) T.b_isinstance T.b_str (by decide +kernel)))) (sw_or (st_cmp op_lt s2_lt (se_callB call_len sn_len (by rfl) T.b_len (by decide +kernel) (sa_cons (mv 0) (sa_nil))) (se_int) (nomark _)) (sw_or1 (st_cmp op_gt s2_gt (se_callB call_len sn_len (by rfl) T.b_len (by decide +kernel) (sa_cons (mv 0) (sa_nil))) (se_int) (nomark _))))).pt)
      (ss_one (sx_ret (se_bl)))
      (ss_nil))
      (ss_cons (sx_for (passes_of rfl) (si_iter (mv 0)) (sg_name (i := 1) S.nd)
      (ss_one (sx_if (st_cmp (op_notInA hu) s2_notIn (mv 1) (se_globS (by rfl) g_LETTERS) rfl)
      (ss_one (sx_ret (se_bl)))
      (ss_nil))))
      (ss_one (sx_ret (se_bl))))
theorem sc_Kept_rename : FnScope ["self", "place", "name", "spots"] ["self", "place", "name"] (defScope (inner (top 22) 6)) := ⟨rfl, rfl, rfl, by decide +kernel, rfl, by decide +kernel, by decide +kernel⟩
theorem sim_Kept_rename (T : Txt K mg) (d : Dm K "Kept" "rename" "Kept.rename" (inner (top 22) 6) ["self", "place", "name"]) (c_Kept_spots : MtOf P w K mg base "Kept" "spots" 3 (m_Kept_spots_cf332)) (c_is_name : Cal P w K mg base "is_name" 1 (m_is_name_50395)) (c_Kept_look : MtOf P w K mg base "Kept" "look" 3 (m_Kept_look_1e813)) (xi_NoName : XI P w K mg base "NoName" "name") : MtOf P w K mg base "Kept" "rename" 4 (m_Kept_rename_e8d43) := by
  exact mtof_mk (k := 3) d sc_Kept_rename fun f cdv A outer s H E hr => by
   have tk : Takes (cxOf (L2.CX P w) P w K mg base ["self", "place", "name", "spots"] "Kept.rename" (defScope (inner (top 22) 6)) f cdv A outer s H E) (fun c d _ H' => E c d H') := takes_of rfl rfl rfl rfl
   have hu : (A.deeper (PyProof.Rows.envOfC "Kept.rename" (defScope (inner (top 22) 6)) s.heap.objs.size f cdv)).units + 65 < cLine := by have := hr.un; omega
   have S := sc_Kept_rename
   exact ss_cons (sx_set (i := 3) (se_meth (k := 3) (mt_cons (MtOf.mono c_Kept_spots (by omega)) (mt_nil)) (hr.mono (by omega)) tk (mv 0) (sa_cons (mv 1) (sa_cons (mv 1) (sa_nil)))) S.nd)
      (ss_cons (sx_if (st_not (st_val (se_callC c_is_name (hr.mono (by omega)) tk (sa_cons (mv 2) (sa_nil)))))
      (ss_one (sx_raise (f := "name") xi_NoName (hr.mono (by omega)) tk (mv 2)))
      (ss_nil))
      (ss_cons (sx_setFld T.ct_name (se_ix ix_seq s2_ix (mv 3) (se_un un_neg s1_neg (se_int)) (fun _ _ => rfl)) (mv 2))
      (ss_one (sx_setFld T.ct_last (mv 0) (se_meth (k := 3) (mt_cons (MtOf.mono c_Kept_look (by omega)) (mt_nil)) (hr.mono (by omega)) tk (mv 0) (sa_cons (mv 3) (sa_cons (mv 1) (sa_nil))))))))
theorem sc__law_done : FnScope ["_law_doc_here", "_law_place_here", "_law_word", "_law_new", "_law_k", "_law_some"] ["_law_doc_here", "_law_place_here", "_law_word", "_law_new"] (defScope (top 39)) := ⟨rfl, rfl, rfl, by decide +kernel, rfl, by decide +kernel, by decide +kernel⟩
theorem sim__law_done (T : Txt K mg) (d : Df K mg "_law_done" (top 39) ["_law_doc_here", "_law_place_here", "_law_word", "_law_new"]) : ∀ n, Cal P w K mg base "_law_done" (n + 1) (m_done_94800 n)
 | 0 => cal_none d (fun _ _ => rfl)
 | n + 1 => by
  have c_self := sim__law_done T d n
  have e : n + 1 + 1 = (n + 1) + 1 := by omega
  rw [e]
  exact cal_mk (k := n + 1) d sc__law_done fun f cdv A outer s H E hr => by
   have tk : Takes (cxOf (L2.CX P w) P w K mg base ["_law_doc_here", "_law_place_here", "_law_word", "_law_new", "_law_k", "_law_some"] "_law_done" (defScope (top 39)) f cdv A outer s H E) (fun c d _ H' => E c d H') := takes_of rfl rfl rfl rfl
   have hu : (A.deeper (PyProof.Rows.envOfC "_law_done" (defScope (top 39)) s.heap.objs.size f cdv)).units + 65 < cLine := by have := hr.un; omega
   have S := sc__law_done
   exact ss_cons (sx_if (st_cmp (op_eqA hu) s2_eq (mv 1) (se_tup (sa_nil)) (nomark _))
      (ss_one (sx_ret (se_tup (sa_cons (mv 3) (sa_cons (se_ix ix_seq s2_ix (mv 0) (se_int) (fun _ _ => rfl)) (sa_nil))))))
      (ss_nil))
      (ss_cons (sx_set (i := 4) (se_ix ix_seq s2_ix (mv 1) (se_int) (fun _ _ => rfl)) S.nd)
      (ss_cons (sx_set (i := 5) (se_ix ix_seq s2_ix (mv 0) (se_int) (fun _ _ => rfl)) S.nd)
      (ss_cons (sx_if ((sw_and (st_cmp (op_eqA hu) s2_eq (se_callB call_len sn_len (by rfl) T.b_len (by decide +kernel) (sa_cons (mv 1) (sa_nil))) (se_int) (nomark _)) (sw_and1 (st_cmp (op_eqA hu) s2_eq (mv 2) (se_str) (nomark _)))).pt)
      (ss_one (sx_ret (se_tup (sa_cons (se_ix ix_seq s2_ix (mv 0) (se_int) (fun _ _ => rfl)) (sa_cons (se_bin op_addA s2_add (se_bin op_addA s2_add (se_slice (mv 5) (sp_none) (sp_some (mv 4))) (se_tup (sa_cons (mv 3) (sa_nil)))) (se_slice (mv 5) (sp_some (mv 4)) (sp_none))) (sa_nil))))))
      (ss_nil))
      (ss_cons (sx_if ((sw_and (st_cmp (op_eqA hu) s2_eq (se_callB call_len sn_len (by rfl) T.b_len (by decide +kernel) (sa_cons (mv 1) (sa_nil))) (se_int) (nomark _)) (sw_and1 (st_cmp (op_eqA hu) s2_eq (mv 2) (se_str) (nomark _)))).pt)
      (ss_one (sx_ret (se_tup (sa_cons (se_ix ix_seq s2_ix (mv 0) (se_int) (fun _ _ => rfl)) (sa_cons (se_bin op_addA s2_add (se_slice (mv 5) (sp_none) (sp_some (mv 4))) (se_slice (mv 5) (sp_some (se_bin op_addA s2_add (mv 4) (se_int))) (sp_none))) (sa_nil))))))
      (ss_nil))
      (ss_one (sx_ret (se_tup (sa_cons (se_ix ix_seq s2_ix (mv 0) (se_int) (fun _ _ => rfl)) (sa_cons (se_bin op_addA s2_add (se_bin op_addA s2_add (se_slice (mv 5) (sp_none) (sp_some (mv 4))) (se_tup (sa_cons (se_callC c_self (hr.mono (by omega)) tk (sa_cons (se_ix ix_seq s2_ix (mv 5) (mv 4) (fun _ _ => rfl)) (sa_cons (se_slice (mv 1) (sp_some (se_int)) (sp_none)) (sa_cons (mv 2) (sa_cons (mv 3) (sa_nil)))))) (sa_nil)))) (se_slice (mv 5) (sp_some (se_bin op_addA s2_add (mv 4) (se_int))) (sp_none))) (sa_nil))))))))))
theorem sc__law_states : FnScope ["_law_machine_here", "_law_doc_here", "_law_place_here", "_law_state", "_law_k", "_law_found", "_law_below"] ["_law_machine_here", "_law_doc_here", "_law_place_here"] (defScope (top 32)) := ⟨rfl, rfl, rfl, by decide +kernel, rfl, by decide +kernel, by decide +kernel⟩
theorem sim__law_states (T : Txt K mg) (d : Df K mg "_law_states" (top 32) ["_law_machine_here", "_law_doc_here", "_law_place_here"]) : ∀ n, Cal P w K mg base "_law_states" (n + 1) (m_states_ee0d6 n)
 | 0 => cal_none d (fun _ _ => rfl)
 | n + 1 => by
  have c_self := sim__law_states T d n
  have e : n + 1 + 1 = (n + 1) + 1 := by omega
  rw [e]
  exact cal_mk (k := n + 1) d sc__law_states fun f cdv A outer s H E hr => by
   have tk : Takes (cxOf (L2.CX P w) P w K mg base ["_law_machine_here", "_law_doc_here", "_law_place_here", "_law_state", "_law_k", "_law_found", "_law_below"] "_law_states" (defScope (top 32)) f cdv A outer s H E) (fun c d _ H' => E c d H') := takes_of rfl rfl rfl rfl
   have hu : (A.deeper (PyProof.Rows.envOfC "_law_states" (defScope (top 32)) s.heap.objs.size f cdv)).units + 65 < cLine := by have := hr.un; omega
   have S := sc__law_states
   exact ss_cons (sx_set (i := 3) (se_ix ix_seq s2_ix (se_ix ix_seq s2_ix (mv 0) (se_int) (fun _ _ => rfl)) (se_un un_neg s1_neg (se_int)) (fun _ _ => rfl)) S.nd)
      (ss_cons (sx_for (passes_of rfl) (si_range1 T.b_range (se_callB call_len sn_len (by rfl) T.b_len (by decide +kernel) (sa_cons (se_ix ix_seq s2_ix (mv 0) (se_int) (fun _ _ => rfl)) (sa_nil)))) (sg_name (i := 4) S.nd)
      (ss_one (sx_if (st_cmp (op_eqA hu) s2_eq (se_ix ix_seq s2_ix (se_ix ix_seq s2_ix (mv 0) (se_int) (fun _ _ => rfl)) (mv 4) (fun _ _ => rfl)) (se_ix ix_seq s2_ix (mv 1) (se_int) (fun _ _ => rfl)) (nomark _))
      (ss_one (sx_set (i := 3) (se_ix ix_seq s2_ix (se_ix ix_seq s2_ix (mv 0) (se_int) (fun _ _ => rfl)) (mv 4) (fun _ _ => rfl)) S.nd))
      (ss_nil))))
      (ss_cons (sx_set (i := 5) (se_lst (sa_nil)) S.nd)
      (ss_cons (sx_for (passes_of rfl) (si_range1 T.b_range (se_callB call_len sn_len (by rfl) T.b_len (by decide +kernel) (sa_cons (se_ix ix_seq s2_ix (mv 1) (se_int) (fun _ _ => rfl)) (sa_nil)))) (sg_name (i := 4) S.nd)
      (ss_cons (sx_set (i := 6) (se_callC c_self (hr.mono (by omega)) tk (sa_cons (mv 0) (sa_cons (se_ix ix_seq s2_ix (se_ix ix_seq s2_ix (mv 1) (se_int) (fun _ _ => rfl)) (mv 4) (fun _ _ => rfl)) (sa_cons (se_bin op_addA s2_add (mv 2) (se_tup (sa_cons (mv 4) (sa_nil)))) (sa_nil))))) S.nd)
      (ss_cons (sx_set (i := 3) (se_ix ix_seq s2_ix (se_ix ix_seq s2_ix (se_ix ix_seq s2_ix (mv 0) (se_int) (fun _ _ => rfl)) (mv 3) (fun _ _ => rfl)) (se_ix ix_seq s2_ix (se_ix ix_seq s2_ix (mv 6) (se_int) (fun _ _ => rfl)) (se_int) (fun _ _ => rfl)) (fun _ _ => rfl)) S.nd)
      (ss_one (sx_set (i := 5) (se_bin op_addA s2_add (mv 5) (mv 6)) S.nd)))))
      (ss_one (sx_ret (se_bin op_addA s2_add (se_lst (sa_cons (se_tup (sa_cons (mv 2) (sa_cons (mv 3) (sa_nil)))) (sa_nil))) (mv 5)))))))
theorem sc__law_due : FnScope ["_law_place_here", "_law_before", "_law_behind", "_law_due_here"] ["_law_place_here", "_law_before", "_law_behind"] (defScope (top 40)) := ⟨rfl, rfl, rfl, by decide +kernel, rfl, by decide +kernel, by decide +kernel⟩
theorem sim__law_due (T : Txt K mg) (d : Df K mg "_law_due" (top 40) ["_law_place_here", "_law_before", "_law_behind"]) : Cal P w K mg base "_law_due" 1 (m_due_d181f) := by
  exact cal_mk (k := 0) d sc__law_due fun f cdv A outer s H E hr => by
   have tk : Takes (cxOf (L2.CX P w) P w K mg base ["_law_place_here", "_law_before", "_law_behind", "_law_due_here"] "_law_due" (defScope (top 40)) f cdv A outer s H E) (fun c d _ H' => E c d H') := takes_of rfl rfl rfl rfl
   have hu : (A.deeper (PyProof.Rows.envOfC "_law_due" (defScope (top 40)) s.heap.objs.size f cdv)).units + 65 < cLine := by have := hr.un; omega
   have S := sc__law_due
   exact ss_cons (sx_set (i := 3) (se_lst (sa_cons (mv 0) (sa_nil))) S.nd)
      (ss_cons (sx_while 1000 (passes_of rfl) ((sw_and (st_cmp (op_neA hu) s2_ne (mv 0) (se_tup (sa_nil)) (nomark _)) (sw_and1 (st_cmp (op_neA hu) s2_ne (se_aix hu (mv 1) (mv 0) (fun _ _ => rfl)) (se_aix hu (mv 2) (mv 0) (fun _ _ => rfl)) (nomark _)))).pt)
      (ss_cons (sx_set (i := 0) (se_slice (mv 0) (sp_none) (sp_some (se_un un_neg s1_neg (se_int)))) S.nd)
      (ss_one (sx_expr (se_bm PySem.F.plainAttrs_list PySem.F.slot_list_append PySem.F.type_list_append mt_append sty_list sm_append (mv 3) (sa_cons (mv 0) (sa_nil)))))))
      (ss_one (sx_ret (mv 3))))
theorem sc_Kept_looked : FnScope ["self"] ["self"] (defScope (inner (top 22) 9)) := ⟨rfl, rfl, rfl, by decide +kernel, rfl, by decide +kernel, by decide +kernel⟩
theorem sim_Kept_looked (T : Txt K mg) (d : Dm K "Kept" "looked" "Kept.looked" (inner (top 22) 9) ["self"]) : MtOf P w K mg base "Kept" "looked" 1 (m_Kept_looked_024ca) := by
  exact mtof_mk (k := 0) d sc_Kept_looked fun f cdv A outer s H E hr => by
   have tk : Takes (cxOf (L2.CX P w) P w K mg base ["self"] "Kept.looked" (defScope (inner (top 22) 9)) f cdv A outer s H E) (fun c d _ H' => E c d H') := takes_of rfl rfl rfl rfl
   have hu : (A.deeper (PyProof.Rows.envOfC "Kept.looked" (defScope (inner (top 22) 9)) s.heap.objs.size f cdv)).units + 65 < cLine := by have := hr.un; omega
   have S := sc_Kept_looked
   exact ss_one (sx_ret (se_callTy call_list_of sn_list (by rfl) T.b_list (by decide +kernel) (sa_cons (se_fld T.ct_last (mv 0)) (sa_nil))))
theorem sc__law_place : FnScope ["_law_found", "_law_due_here", "_law_k"] ["_law_found", "_law_due_here"] (defScope (top 34)) := ⟨rfl, rfl, rfl, by decide +kernel, rfl, by decide +kernel, by decide +kernel⟩
theorem sim__law_place (T : Txt K mg) (d : Df K mg "_law_place" (top 34) ["_law_found", "_law_due_here"]) : Cal P w K mg base "_law_place" 1 (m_place_2af87) := by
  exact cal_mk (k := 0) d sc__law_place fun f cdv A outer s H E hr => by
   have tk : Takes (cxOf (L2.CX P w) P w K mg base ["_law_found", "_law_due_here", "_law_k"] "_law_place" (defScope (top 34)) f cdv A outer s H E) (fun c d _ H' => E c d H') := takes_of rfl rfl rfl rfl
   have hu : (A.deeper (PyProof.Rows.envOfC "_law_place" (defScope (top 34)) s.heap.objs.size f cdv)).units + 65 < cLine := by have := hr.un; omega
   have S := sc__law_place
   exact ss_cons (sx_if ((sw_or (st_not (st_val (se_isi (mv 0) T.b_isinstance T.b_tuple (by decide +kernel)))) (sw_or1 (st_cmp (op_neA hu) s2_ne (se_callB call_len sn_len (by rfl) T.b_len (by decide +kernel) (sa_cons (mv 0) (sa_nil))) (se_callB call_len sn_len (by rfl) T.b_len (by decide +kernel) (sa_cons (mv 1) (sa_nil))) (nomark _)))).pt)
      (ss_one (sx_ret (se_bl)))
      (ss_nil))
      (ss_cons (sx_for (passes_of rfl) (si_range1 T.b_range (se_callB call_len sn_len (by rfl) T.b_len (by decide +kernel) (sa_cons (mv 1) (sa_nil)))) (sg_name (i := 2) S.nd)
      (ss_one (sx_if ((sw_or (st_not (st_val (se_isi (se_ix ix_seq s2_ix (mv 0) (mv 2) (fun _ _ => rfl)) T.b_isinstance T.b_int (by decide +kernel)))) (sw_or (st_val (se_isi (se_ix ix_seq s2_ix (mv 0) (mv 2) (fun _ _ => rfl)) T.b_isinstance T.b_bool (by decide +kernel))) (sw_or1 (st_cmp (op_neA hu) s2_ne (se_ix ix_seq s2_ix (mv 0) (mv 2) (fun _ _ => rfl)) (se_ix ix_seq s2_ix (mv 1) (mv 2) (fun _ _ => rfl)) (nomark _))))).pt)
      (ss_one (sx_ret (se_bl)))
      (ss_nil))))
      (ss_one (sx_ret (se_bl))))
theorem sc__law_looked : FnScope ["_law_found", "_law_due_here", "_law_k"] ["_law_found", "_law_due_here"] (defScope (top 41)) := ⟨rfl, rfl, rfl, by decide +kernel, rfl, by decide +kernel, by decide +kernel⟩
theorem sim__law_looked (T : Txt K mg) (d : Df K mg "_law_looked" (top 41) ["_law_found", "_law_due_here"]) (c__law_place : Cal P w K mg base "_law_place" 1 (m_place_2af87)) : Cal P w K mg base "_law_looked" 2 (m_looked_c1575) := by
  exact cal_mk (k := 1) d sc__law_looked fun f cdv A outer s H E hr => by
   have tk : Takes (cxOf (L2.CX P w) P w K mg base ["_law_found", "_law_due_here", "_law_k"] "_law_looked" (defScope (top 41)) f cdv A outer s H E) (fun c d _ H' => E c d H') := takes_of rfl rfl rfl rfl
   have hu : (A.deeper (PyProof.Rows.envOfC "_law_looked" (defScope (top 41)) s.heap.objs.size f cdv)).units + 65 < cLine := by have := hr.un; omega
   have S := sc__law_looked
   exact ss_cons (sx_if ((sw_or (st_not (st_val (se_isi (mv 0) T.b_isinstance T.b_list (by decide +kernel)))) (sw_or1 (st_cmp (op_neA hu) s2_ne (se_callB call_len sn_len (by rfl) T.b_len (by decide +kernel) (sa_cons (mv 0) (sa_nil))) (se_callB call_len sn_len (by rfl) T.b_len (by decide +kernel) (sa_cons (mv 1) (sa_nil))) (nomark _)))).pt)
      (ss_one (sx_ret (se_bl)))
      (ss_nil))
      (ss_cons (sx_for (passes_of rfl) (si_range1 T.b_range (se_callB call_len sn_len (by rfl) T.b_len (by decide +kernel) (sa_cons (mv 1) (sa_nil)))) (sg_name (i := 2) S.nd)
      (ss_one (sx_if (st_not (st_val (se_callC c__law_place (hr.mono (by omega)) tk (sa_cons (se_ix ix_seq s2_ix (mv 0) (mv 2) (fun _ _ => rfl)) (sa_cons (se_ix ix_seq s2_ix (mv 1) (mv 2) (fun _ _ => rfl)) (sa_nil))))))
      (ss_one (sx_ret (se_bl)))
      (ss_nil))))
      (ss_one (sx_ret (se_bl))))
theorem sc__law_same : FnScope ["_law_found", "_law_due_here", "_law_k"] ["_law_found", "_law_due_here"] (defScope (top 31)) := ⟨rfl, rfl, rfl, by decide +kernel, rfl, by decide +kernel, by decide +kernel⟩
theorem sim__law_same (T : Txt K mg) (d : Df K mg "_law_same" (top 31) ["_law_found", "_law_due_here"]) : ∀ n, Cal P w K mg base "_law_same" (n + 1) (m_same_49f62 n)
 | 0 => cal_none d (fun _ _ => rfl)
 | n + 1 => by
  have c_self := sim__law_same T d n
  have e : n + 1 + 1 = (n + 1) + 1 := by omega
  rw [e]
  exact cal_mk (k := n + 1) d sc__law_same fun f cdv A outer s H E hr => by
   have tk : Takes (cxOf (L2.CX P w) P w K mg base ["_law_found", "_law_due_here", "_law_k"] "_law_same" (defScope (top 31)) f cdv A outer s H E) (fun c d _ H' => E c d H') := takes_of rfl rfl rfl rfl
   have hu : (A.deeper (PyProof.Rows.envOfC "_law_same" (defScope (top 31)) s.heap.objs.size f cdv)).units + 65 < cLine := by have := hr.un; omega
   have S := sc__law_same
   exact ss_cons (sx_if ((sw_or (st_not (st_val (se_isi (mv 0) T.b_isinstance T.b_tuple (by decide +kernel)))) (sw_or (st_cmp (op_neA hu) s2_ne (se_callB call_len sn_len (by rfl) T.b_len (by decide +kernel) (sa_cons (mv 0) (sa_nil))) (se_int) (nomark _)) (sw_or (st_not (st_val (se_isi (se_ix ix_seq s2_ix (mv 0) (se_int) (fun _ _ => rfl)) T.b_isinstance T.b_str (by decide +kernel)))) (sw_or1 (st_cmp (op_neA hu) s2_ne (se_ix ix_seq s2_ix (mv 0) (se_int) (fun _ _ => rfl)) (se_ix ix_seq s2_ix (mv 1) (se_int) (fun _ _ => rfl)) (nomark _)))))).pt)
      (ss_one (sx_ret (se_bl)))
      (ss_nil))
      (ss_cons (sx_if ((sw_or (st_not (st_val (se_isi (se_ix ix_seq s2_ix (mv 0) (se_int) (fun _ _ => rfl)) T.b_isinstance T.b_tuple (by decide +kernel)))) (sw_or1 (st_cmp (op_neA hu) s2_ne (se_callB call_len sn_len (by rfl) T.b_len (by decide +kernel) (sa_cons (se_ix ix_seq s2_ix (mv 0) (se_int) (fun _ _ => rfl)) (sa_nil))) (se_callB call_len sn_len (by rfl) T.b_len (by decide +kernel) (sa_cons (se_ix ix_seq s2_ix (mv 1) (se_int) (fun _ _ => rfl)) (sa_nil))) (nomark _)))).pt)
      (ss_one (sx_ret (se_bl)))
      (ss_nil))
      (ss_cons (sx_for (passes_of rfl) (si_range1 T.b_range (se_callB call_len sn_len (by rfl) T.b_len (by decide +kernel) (sa_cons (se_ix ix_seq s2_ix (mv 1) (se_int) (fun _ _ => rfl)) (sa_nil)))) (sg_name (i := 2) S.nd)
      (ss_one (sx_if (st_not (st_val (se_callC c_self (hr.mono (by omega)) tk (sa_cons (se_ix ix_seq s2_ix (se_ix ix_seq s2_ix (mv 0) (se_int) (fun _ _ => rfl)) (mv 2) (fun _ _ => rfl)) (sa_cons (se_ix ix_seq s2_ix (se_ix ix_seq s2_ix (mv 1) (se_int) (fun _ _ => rfl)) (mv 2) (fun _ _ => rfl)) (sa_nil))))))
      (ss_one (sx_ret (se_bl)))
      (ss_nil))))
      (ss_one (sx_ret (se_bl)))))
theorem sc__law_words : FnScope ["_law_found", "_law_due_here", "_law_k"] ["_law_found", "_law_due_here"] (defScope (top 35)) := ⟨rfl, rfl, rfl, by decide +kernel, rfl, by decide +kernel, by decide +kernel⟩
theorem sim__law_words (T : Txt K mg) (d : Df K mg "_law_words" (top 35) ["_law_found", "_law_due_here"]) : Cal P w K mg base "_law_words" 1 (m_words_27770) := by
  exact cal_mk (k := 0) d sc__law_words fun f cdv A outer s H E hr => by
   have tk : Takes (cxOf (L2.CX P w) P w K mg base ["_law_found", "_law_due_here", "_law_k"] "_law_words" (defScope (top 35)) f cdv A outer s H E) (fun c d _ H' => E c d H') := takes_of rfl rfl rfl rfl
   have hu : (A.deeper (PyProof.Rows.envOfC "_law_words" (defScope (top 35)) s.heap.objs.size f cdv)).units + 65 < cLine := by have := hr.un; omega
   have S := sc__law_words
   exact ss_cons (sx_if ((sw_or (st_not (st_val (se_isi (mv 0) T.b_isinstance T.b_list (by decide +kernel)))) (sw_or1 (st_cmp (op_neA hu) s2_ne (se_callB call_len sn_len (by rfl) T.b_len (by decide +kernel) (sa_cons (mv 0) (sa_nil))) (se_callB call_len sn_len (by rfl) T.b_len (by decide +kernel) (sa_cons (mv 1) (sa_nil))) (nomark _)))).pt)
      (ss_one (sx_ret (se_bl)))
      (ss_nil))
      (ss_cons (sx_for (passes_of rfl) (si_range1 T.b_range (se_callB call_len sn_len (by rfl) T.b_len (by decide +kernel) (sa_cons (mv 1) (sa_nil)))) (sg_name (i := 2) S.nd)
      (ss_one (sx_if ((sw_or (st_not (st_val (se_isi (se_ix ix_seq s2_ix (mv 0) (mv 2) (fun _ _ => rfl)) T.b_isinstance T.b_str (by decide +kernel)))) (sw_or1 (st_cmp (op_neA hu) s2_ne (se_ix ix_seq s2_ix (mv 0) (mv 2) (fun _ _ => rfl)) (se_ix ix_seq s2_ix (mv 1) (mv 2) (fun _ _ => rfl)) (nomark _)))).pt)
      (ss_one (sx_ret (se_bl)))
      (ss_nil))))
      (ss_one (sx_ret (se_bl))))
theorem sc__law_forms : FnScope ["_law_machine_here", "_law_state", "_law_k"] ["_law_machine_here", "_law_state"] (defScope (top 33)) := ⟨rfl, rfl, rfl, by decide +kernel, rfl, by decide +kernel, by decide +kernel⟩
theorem sim__law_forms (T : Txt K mg) (d : Df K mg "_law_forms" (top 33) ["_law_machine_here", "_law_state"]) : Cal P w K mg base "_law_forms" 1 (m_forms_7f580) := by
  exact cal_mk (k := 0) d sc__law_forms fun f cdv A outer s H E hr => by
   have tk : Takes (cxOf (L2.CX P w) P w K mg base ["_law_machine_here", "_law_state", "_law_k"] "_law_forms" (defScope (top 33)) f cdv A outer s H E) (fun c d _ H' => E c d H') := takes_of rfl rfl rfl rfl
   have hu : (A.deeper (PyProof.Rows.envOfC "_law_forms" (defScope (top 33)) s.heap.objs.size f cdv)).units + 65 < cLine := by have := hr.un; omega
   have S := sc__law_forms
   exact ss_one (sx_ret (se_lc (own := [("_law_k", 2)]) S.nd (si_range1 T.b_range (se_callB call_len sn_len (by rfl) T.b_len (by decide +kernel) (sa_cons (se_ix ix_seq s2_ix (mv 0) (se_int) (fun _ _ => rfl)) (sa_nil)))) (blkOk_by (N := ["_law_machine_here", "_law_state", "_law_k"]) (sc := defScope (top 33)) (by decide +kernel)) (tg_name 2) (fun _ _ _ _ _ => pg_name (i := 2) S.nd rfl (Or.inl rfl)) (fun _ _ _ _ _ => st_one (st_cmp (op_eqA hu) s2_eq (se_bin op_mod s2_mod (se_bin op_fdivW s2_fdiv (se_ix ix_seq s2_ix (se_ix ix_seq s2_ix (mv 0) (se_int) (fun _ _ => rfl)) (mv 1) (fun _ _ => rfl)) (se_bin op_shl s2_shl (se_int) (mv 2))) (se_int)) (se_int) (nomark _))) (fun _ _ _ _ _ => se_ix ix_seq s2_ix (se_ix ix_seq s2_ix (mv 0) (se_int) (fun _ _ => rfl)) (mv 2) (fun _ _ => rfl))))
theorem sc__law_all : FnScope ["_law_found", "_law_machine_here", "_law_states_here", "_law_k"] ["_law_found", "_law_machine_here", "_law_states_here"] (defScope (top 36)) := ⟨rfl, rfl, rfl, by decide +kernel, rfl, by decide +kernel, by decide +kernel⟩
theorem sim__law_all (T : Txt K mg) (d : Df K mg "_law_all" (top 36) ["_law_found", "_law_machine_here", "_law_states_here"]) (c__law_place : Cal P w K mg base "_law_place" 1 (m_place_2af87)) (c__law_words : Cal P w K mg base "_law_words" 1 (m_words_27770)) (c__law_forms : Cal P w K mg base "_law_forms" 1 (m_forms_7f580)) : Cal P w K mg base "_law_all" 2 (m_all_22e5f) := by
  exact cal_mk (k := 1) d sc__law_all fun f cdv A outer s H E hr => by
   have tk : Takes (cxOf (L2.CX P w) P w K mg base ["_law_found", "_law_machine_here", "_law_states_here", "_law_k"] "_law_all" (defScope (top 36)) f cdv A outer s H E) (fun c d _ H' => E c d H') := takes_of rfl rfl rfl rfl
   have hu : (A.deeper (PyProof.Rows.envOfC "_law_all" (defScope (top 36)) s.heap.objs.size f cdv)).units + 65 < cLine := by have := hr.un; omega
   have S := sc__law_all
   exact ss_cons (sx_if ((sw_or (st_not (st_val (se_isi (mv 0) T.b_isinstance T.b_list (by decide +kernel)))) (sw_or1 (st_cmp (op_neA hu) s2_ne (se_callB call_len sn_len (by rfl) T.b_len (by decide +kernel) (sa_cons (mv 0) (sa_nil))) (se_callB call_len sn_len (by rfl) T.b_len (by decide +kernel) (sa_cons (mv 2) (sa_nil))) (nomark _)))).pt)
      (ss_one (sx_ret (se_bl)))
      (ss_nil))
      (ss_cons (sx_for (passes_of rfl) (si_range1 T.b_range (se_callB call_len sn_len (by rfl) T.b_len (by decide +kernel) (sa_cons (mv 2) (sa_nil)))) (sg_name (i := 3) S.nd)
      (ss_cons (sx_if ((sw_or (st_not (st_val (se_isi (se_ix ix_seq s2_ix (mv 0) (mv 3) (fun _ _ => rfl)) T.b_isinstance T.b_tuple (by decide +kernel)))) (sw_or (st_cmp (op_neA hu) s2_ne (se_callB call_len sn_len (by rfl) T.b_len (by decide +kernel) (sa_cons (se_ix ix_seq s2_ix (mv 0) (mv 3) (fun _ _ => rfl)) (sa_nil))) (se_int) (nomark _)) (sw_or1 (st_not (st_val (se_callC c__law_place (hr.mono (by omega)) tk (sa_cons (se_ix ix_seq s2_ix (se_ix ix_seq s2_ix (mv 0) (mv 3) (fun _ _ => rfl)) (se_int) (fun _ _ => rfl)) (sa_cons (se_ix ix_seq s2_ix (se_ix ix_seq s2_ix (mv 2) (mv 3) (fun _ _ => rfl)) (se_int) (fun _ _ => rfl)) (sa_nil))))))))).pt)
      (ss_one (sx_ret (se_bl)))
      (ss_nil))
      (ss_one (sx_if (st_not (st_val (se_callC c__law_words (hr.mono (by omega)) tk (sa_cons (se_ix ix_seq s2_ix (se_ix ix_seq s2_ix (mv 0) (mv 3) (fun _ _ => rfl)) (se_int) (fun _ _ => rfl)) (sa_cons (se_callC c__law_forms (hr.mono (by omega)) tk (sa_cons (mv 1) (sa_cons (se_ix ix_seq s2_ix (se_ix ix_seq s2_ix (mv 2) (mv 3) (fun _ _ => rfl)) (se_int) (fun _ _ => rfl)) (sa_nil)))) (sa_nil))))))
      (ss_one (sx_ret (se_bl)))
      (ss_nil)))))
      (ss_one (sx_ret (se_bl))))
theorem sc_doc_of : FnScope ["spot", "child"] ["spot"] (defScope (top 19)) := ⟨rfl, rfl, rfl, by decide +kernel, rfl, by decide +kernel, by decide +kernel⟩
theorem sim_doc_of (T : Txt K mg) (d : Df K mg "doc_of" (top 19) ["spot"]) : ∀ n, Cal P w K mg base "doc_of" (n + 1) (m_doc_of_a1874 n)
 | 0 => cal_none d (fun _ _ => rfl)
 | n + 1 => by
  have c_self := sim_doc_of T d n
  have e : n + 1 + 1 = (n + 1) + 1 := by omega
  rw [e]
  exact cal_mk (k := n + 1) d sc_doc_of fun f cdv A outer s H E hr => by
   have tk : Takes (cxOf (L2.CX P w) P w K mg base ["spot", "child"] "doc_of" (defScope (top 19)) f cdv A outer s H E) (fun c d _ H' => E c d H') := takes_of rfl rfl rfl rfl
   have hu : (A.deeper (PyProof.Rows.envOfC "doc_of" (defScope (top 19)) s.heap.objs.size f cdv)).units + 65 < cLine := by have := hr.un; omega
   have S := sc_doc_of
   exact ss_one (sx_ret (se_tup (sa_cons (se_fld T.ct_name (mv 0)) (sa_cons (se_callTy call_tupF sn_tuple (by rfl) T.b_tuple (by decide +kernel) (sa_cons (se_lc (own := [("child", 1)]) S.nd (si_iter (se_fld T.ct_below (mv 0))) (blkOk_by (N := ["spot", "child"]) (sc := defScope (top 19)) (by decide +kernel)) (tg_name 1) (fun _ _ _ _ _ => pg_name (i := 1) S.nd rfl (Or.inl rfl)) (fun _ _ _ _ _ => st_nil) (fun _ _ _ _ _ => se_callC c_self (hr.mono (by omega)) takes0 (sa_cons (mv 1) (sa_nil)))) (sa_nil))) (sa_nil)))))
theorem sc_Kept_now : FnScope ["self"] ["self"] (defScope (inner (top 22) 1)) := ⟨rfl, rfl, rfl, by decide +kernel, rfl, by decide +kernel, by decide +kernel⟩
theorem sim_Kept_now (T : Txt K mg) (d : Dm K "Kept" "now" "Kept.now" (inner (top 22) 1) ["self"]) (c_doc_of : Cal P w K mg base "doc_of" 101 (m_doc_of_a1874 100)) : MtOf P w K mg base "Kept" "now" 102 (m_Kept_now_9db09) := by
  exact mtof_mk (k := 101) d sc_Kept_now fun f cdv A outer s H E hr => by
   have tk : Takes (cxOf (L2.CX P w) P w K mg base ["self"] "Kept.now" (defScope (inner (top 22) 1)) f cdv A outer s H E) (fun c d _ H' => E c d H') := takes_of rfl rfl rfl rfl
   have hu : (A.deeper (PyProof.Rows.envOfC "Kept.now" (defScope (inner (top 22) 1)) s.heap.objs.size f cdv)).units + 65 < cLine := by have := hr.un; omega
   have S := sc_Kept_now
   exact ss_one (sx_ret (se_callC c_doc_of (hr.mono (by omega)) tk (sa_cons (se_fld T.ct_top (mv 0)) (sa_nil))))
theorem sc_forms_of : FnScope ["machine", "state", "found", "rest", "form"] ["machine", "state"] (defScope (top 14)) := ⟨rfl, rfl, rfl, by decide +kernel, rfl, by decide +kernel, by decide +kernel⟩
theorem sim_forms_of (T : Txt K mg) (d : Df K mg "forms_of" (top 14) ["machine", "state"]) : Cal P w K mg base "forms_of" 1 (m_forms_of_305ad) := by
  exact cal_mk (k := 0) d sc_forms_of fun f cdv A outer s H E hr => by
   have tk : Takes (cxOf (L2.CX P w) P w K mg base ["machine", "state", "found", "rest", "form"] "forms_of" (defScope (top 14)) f cdv A outer s H E) (fun c d _ H' => E c d H') := takes_of rfl rfl rfl rfl
   have hu : (A.deeper (PyProof.Rows.envOfC "forms_of" (defScope (top 14)) s.heap.objs.size f cdv)).units + 65 < cLine := by have := hr.un; omega
   have S := sc_forms_of
   exact ss_cons (sx_set (i := 2) (se_lst (sa_nil)) S.nd)
      (ss_cons (sx_set (i := 3) (se_ix ix_seq s2_ix (se_ix ix_seq s2_ix (mv 0) (se_int) (fun _ _ => rfl)) (mv 1) (fun _ _ => rfl)) S.nd)
      (ss_cons (sx_for (passes_of rfl) (si_iter (se_ix ix_seq s2_ix (mv 0) (se_int) (fun _ _ => rfl))) (sg_name (i := 4) S.nd)
      (ss_cons (sx_if (st_cmp (op_eqA hu) s2_eq (se_bin op_mod s2_mod (mv 3) (se_int)) (se_int) (nomark _))
      (ss_one (sx_expr (se_bm PySem.F.plainAttrs_list PySem.F.slot_list_append PySem.F.type_list_append mt_append sty_list sm_append (mv 2) (sa_cons (mv 4) (sa_nil)))))
      (ss_nil))
      (ss_one (sx_set (i := 3) (se_bin op_fdivW s2_fdiv (mv 3) (se_int)) S.nd))))
      (ss_one (sx_ret (mv 2)))))
theorem sc_forms_below : FnScope ["machine", "spot", "place", "found", "k"] ["machine", "spot", "place"] (defScope (top 21)) := ⟨rfl, rfl, rfl, by decide +kernel, rfl, by decide +kernel, by decide +kernel⟩
theorem sim_forms_below (T : Txt K mg) (d : Df K mg "forms_below" (top 21) ["machine", "spot", "place"]) (c_forms_of : Cal P w K mg base "forms_of" 1 (m_forms_of_305ad)) : ∀ n, Cal P w K mg base "forms_below" (n + 1) (m_forms_below_4f6b1 n)
 | 0 => cal_none d (fun _ _ => rfl)
 | n + 1 => by
  have c_self := sim_forms_below T d c_forms_of n
  have e : n + 1 + 1 = (n + 1) + 1 := by omega
  rw [e]
  exact cal_mk (k := n + 1) d sc_forms_below fun f cdv A outer s H E hr => by
   have tk : Takes (cxOf (L2.CX P w) P w K mg base ["machine", "spot", "place", "found", "k"] "forms_below" (defScope (top 21)) f cdv A outer s H E) (fun c d _ H' => E c d H') := takes_of rfl rfl rfl rfl
   have hu : (A.deeper (PyProof.Rows.envOfC "forms_below" (defScope (top 21)) s.heap.objs.size f cdv)).units + 65 < cLine := by have := hr.un; omega
   have S := sc_forms_below
   exact ss_cons (sx_set (i := 3) (se_lst (sa_cons (se_tup (sa_cons (mv 2) (sa_cons (se_callC c_forms_of (hr.mono (by omega)) tk (sa_cons (mv 0) (sa_cons (se_fld T.ct_state (mv 1)) (sa_nil)))) (sa_nil)))) (sa_nil))) S.nd)
      (ss_cons (sx_for (passes_of rfl) (si_range1 T.b_range (se_callB call_len sn_len (by rfl) T.b_len (by decide +kernel) (sa_cons (se_fld T.ct_below (mv 1)) (sa_nil)))) (sg_name (i := 4) S.nd)
      (ss_one (sx_expr (se_bm PySem.F.plainAttrs_list PySem.F.slot_list_extend PySem.F.type_list_extend mt_extend sty_list sm_extend (mv 3) (sa_cons (se_callC c_self (hr.mono (by omega)) tk (sa_cons (mv 0) (sa_cons (se_ix ix_seq s2_ix (se_fld T.ct_below (mv 1)) (mv 4) (fun _ _ => rfl)) (sa_cons (se_bin op_addA s2_add (mv 2) (se_tup (sa_cons (mv 4) (sa_nil)))) (sa_nil))))) (sa_nil))))))
      (ss_one (sx_ret (mv 3))))
theorem sc_Kept_all_forms : FnScope ["self"] ["self"] (defScope (inner (top 22) 8)) := ⟨rfl, rfl, rfl, by decide +kernel, rfl, by decide +kernel, by decide +kernel⟩
theorem sim_Kept_all_forms (T : Txt K mg) (d : Dm K "Kept" "all_forms" "Kept.all_forms" (inner (top 22) 8) ["self"]) (c_forms_below : Cal P w K mg base "forms_below" 101 (m_forms_below_4f6b1 100)) : MtOf P w K mg base "Kept" "all_forms" 102 (m_Kept_all_forms_cad78) := by
  exact mtof_mk (k := 101) d sc_Kept_all_forms fun f cdv A outer s H E hr => by
   have tk : Takes (cxOf (L2.CX P w) P w K mg base ["self"] "Kept.all_forms" (defScope (inner (top 22) 8)) f cdv A outer s H E) (fun c d _ H' => E c d H') := takes_of rfl rfl rfl rfl
   have hu : (A.deeper (PyProof.Rows.envOfC "Kept.all_forms" (defScope (inner (top 22) 8)) s.heap.objs.size f cdv)).units + 65 < cLine := by have := hr.un; omega
   have S := sc_Kept_all_forms
   exact ss_one (sx_ret (se_callC c_forms_below (hr.mono (by omega)) tk (sa_cons (se_fld T.ct_machine (mv 0)) (sa_cons (se_fld T.ct_top (mv 0)) (sa_cons (se_tup (sa_nil)) (sa_nil))))))
theorem sc_law : FnScope ["_law_script", "_law_forms_here", "_law_names", "_law_machine_here", "_law_cell", "_law_doc_here", "_law_kept", "_law_k", "_law_blend", "_law_name_here", "_law_before", "_law_states_here", "_law_due_here", "_law_told", "_law_place_here", "_law_there", "_law_rest"] ["_law_script"] (defScope (top 42)) := ⟨rfl, rfl, rfl, by decide +kernel, rfl, by decide +kernel, by decide +kernel⟩
theorem sim_law {fa : Addr} {fd : FuncData} (T : Txt K mg) (F : Fun K "law" "law" (top 42) fa fd) (c__law_pool : Cal P w K mg base "_law_pool" 3 (m_pool_0b659)) (c__law_cell_at : Cal P w K mg base "_law_cell_at" 1 (m_cell_at_5ae90)) (c__law_machine : Cal P w K mg base "_law_machine" 2 (m_machine_128e4)) (c__law_doc : Cal P w K mg base "_law_doc" 2 (m_doc_3ac0d)) (c_Kept___init__ : MkOf P w K mg base "Kept" 103 (m_Kept___init___3777c)) (c__law_way : Cal P w K mg base "_law_way" 1 (m_way_05370)) (c__law_states : Cal P w K mg base "_law_states" 101 (m_states_ee0d6 100)) (c_Kept_rename : MtOf P w K mg base "Kept" "rename" 4 (m_Kept_rename_e8d43)) (c__law_done : Cal P w K mg base "_law_done" 101 (m_done_94800 100)) (c__law_due : Cal P w K mg base "_law_due" 1 (m_due_d181f)) (c_Kept_looked : MtOf P w K mg base "Kept" "looked" 1 (m_Kept_looked_024ca)) (c__law_looked : Cal P w K mg base "_law_looked" 2 (m_looked_c1575)) (c__law_all : Cal P w K mg base "_law_all" 2 (m_all_22e5f)) (c_Kept_all_forms : MtOf P w K mg base "Kept" "all_forms" 102 (m_Kept_all_forms_cad78)) (c__law_same : Cal P w K mg base "_law_same" 101 (m_same_49f62 100)) (c_Kept_now : MtOf P w K mg base "Kept" "now" 102 (m_Kept_now_9db09)) : FnOk P w K mg base (L2.CX P w) 105 fa fd ["_law_script"] (spM (gOf w K) m_law_7b532) := by
  exact fn_mk (k := 104) F sc_law fun cdv A outer s H E hr => by
   have tk : Takes (cxOf (L2.CX P w) P w K mg base ["_law_script", "_law_forms_here", "_law_names", "_law_machine_here", "_law_cell", "_law_doc_here", "_law_kept", "_law_k", "_law_blend", "_law_name_here", "_law_before", "_law_states_here", "_law_due_here", "_law_told", "_law_place_here", "_law_there", "_law_rest"] "law" (defScope (top 42)) fa cdv A outer s H E) (fun c d _ H' => E c d H') := takes_of rfl rfl rfl rfl
   have hu : (A.deeper (PyProof.Rows.envOfC "law" (defScope (top 42)) s.heap.objs.size fa cdv)).units + 65 < cLine := by have := hr.un; omega
   have S := sc_law
   exact ss_cons (sx_set (i := 1) (se_callC c__law_pool (hr.mono (by omega)) tk (sa_cons (se_callC c__law_cell_at (hr.mono (by omega)) tk (sa_cons (mv 0) (sa_cons (se_int) (sa_nil)))) (sa_cons (se_bin op_mod s2_mod (se_callC c__law_cell_at (hr.mono (by omega)) tk (sa_cons (mv 0) (sa_cons (se_int) (sa_nil)))) (se_int)) (sa_nil)))) S.nd)
      (ss_cons (sx_set (i := 2) (se_callB op_sorted sn_sorted (by rfl) T.b_sorted (by decide +kernel) (sa_cons (se_callC c__law_pool (hr.mono (by omega)) tk (sa_cons (se_callC c__law_cell_at (hr.mono (by omega)) tk (sa_cons (mv 0) (sa_cons (se_int) (sa_nil)))) (sa_cons (se_bin op_mod s2_mod (se_bin op_fdivW s2_fdiv (se_callC c__law_cell_at (hr.mono (by omega)) tk (sa_cons (mv 0) (sa_cons (se_int) (sa_nil)))) (se_int)) (se_int)) (sa_nil)))) (sa_nil))) S.nd)
      (ss_cons (sx_set (i := 3) (se_callC c__law_machine (hr.mono (by omega)) tk (sa_cons (mv 0) (sa_cons (se_int) (sa_cons (mv 1) (sa_cons (mv 2) (sa_cons (se_int) (sa_nil))))))) S.nd)
      (ss_cons (sx_set (i := 4) (se_callC c__law_cell_at (hr.mono (by omega)) tk (sa_cons (mv 0) (sa_cons (se_int) (sa_nil)))) S.nd)
      (ss_cons (sx_set (i := 5) (se_callC c__law_doc (hr.mono (by omega)) tk (sa_cons (se_bin op_fdivW s2_fdiv (mv 4) (se_int)) (sa_cons (se_bin op_addA s2_add (se_int) (se_bin op_mod s2_mod (mv 4) (se_int))) (sa_cons (se_bin op_addA s2_add (mv 2) (se_lst (sa_cons (se_str) (sa_nil)))) (sa_nil))))) S.nd)
      (ss_cons (sx_set (i := 6) (se_new c_Kept___init__ (hr.mono (by omega)) tk (sa_cons (mv 3) (sa_cons (mv 5) (sa_nil)))) S.nd)
      (ss_cons (sx_for (passes_of rfl) (si_range2 T.b_range (se_int) (se_callB (call_max2 rfl) sn_max (by rfl) T.b_max (by decide +kernel) (sa_cons (se_int) (sa_cons (se_callB (call_min2 rfl) sn_min (by rfl) T.b_min (by decide +kernel) (sa_cons (se_int) (sa_cons (se_callB call_len sn_len (by rfl) T.b_len (by decide +kernel) (sa_cons (mv 0) (sa_nil))) (sa_nil)))) (sa_nil))))) (sg_name (i := 7) S.nd)
      (ss_cons (sx_set (i := 4) (se_callC c__law_cell_at (hr.mono (by omega)) tk (sa_cons (mv 0) (sa_cons (mv 7) (sa_nil)))) S.nd)
      (ss_cons (sx_set (i := 8) (se_bin op_fdivW s2_fdiv (mv 4) (se_int)) S.nd)
      (ss_cons (sx_if (st_cmp op_lt s2_lt (mv 4) (se_bin op_pow s2_pow (se_int) (se_int)) (nomark _))
      (ss_one (sx_set (i := 8) (se_bin op_mod s2_mod (se_bin op_mulA s2_mul (mv 4) (se_int)) (se_int)) S.nd))
      (ss_nil))
      (ss_cons (sx_setT (se_callC c__law_way (hr.mono (by omega)) tk (sa_cons (mv 5) (sa_cons (mv 8) (sa_nil)))) (sg_tup (sgs_cons (sg_name (i := 14) S.nd) (sgs_cons (sg_name (i := 15) S.nd) (sgs_cons (sg_name (i := 16) S.nd) (sgs_nil)))) (many_cons (many_cons (many_cons many_nil)))))
      (ss_cons (sx_set (i := 9) (se_ix ix_seq s2_ix (se_bin op_addA s2_add (mv 2) (se_lst (sa_cons (se_str) (sa_nil)))) (se_bin op_mod s2_mod (mv 16) (se_bin op_addA s2_add (se_callB call_len sn_len (by rfl) T.b_len (by decide +kernel) (sa_cons (mv 2) (sa_nil))) (se_int))) (fun _ _ => rfl)) S.nd)
      (ss_cons (sx_if (st_cmp (op_eqA hu) s2_eq (se_bin op_mod s2_mod (mv 4) (se_int)) (se_int) (nomark _))
      (ss_one (sx_set (i := 9) (se_ix ix_seq s2_ix (mv 15) (se_int) (fun _ _ => rfl)) S.nd))
      (ss_nil))
      (ss_cons (sx_set (i := 10) (se_callTy (cr_dictP rfl hu) sn_dictP (by rfl) T.b_dict (by decide +kernel) (sa_cons (se_callC c__law_states (hr.mono (by omega)) tk (sa_cons (mv 3) (sa_cons (mv 5) (sa_cons (se_tup (sa_nil)) (sa_nil))))) (sa_nil))) S.nd)
      (ss_cons (sx_expr (se_meth (k := 104) (mt_cons (MtOf.mono c_Kept_rename (by omega)) (mt_nil)) (hr.mono (by omega)) tk (mv 6) (sa_cons (mv 14) (sa_cons (mv 9) (sa_nil)))))
      (ss_cons (sx_set (i := 5) (se_callC c__law_done (hr.mono (by omega)) tk (sa_cons (mv 5) (sa_cons (mv 14) (sa_cons (se_str) (sa_cons (mv 9) (sa_nil)))))) S.nd)
      (ss_cons (sx_set (i := 11) (se_callC c__law_states (hr.mono (by omega)) tk (sa_cons (mv 3) (sa_cons (mv 5) (sa_cons (se_tup (sa_nil)) (sa_nil))))) S.nd)
      (ss_cons (sx_set (i := 12) (se_callC c__law_due (hr.mono (by omega)) tk (sa_cons (mv 14) (sa_cons (mv 10) (sa_cons (se_callTy (cr_dictP rfl hu) sn_dictP (by rfl) T.b_dict (by decide +kernel) (sa_cons (mv 11) (sa_nil))) (sa_nil))))) S.nd)
      (ss_cons (sx_set (i := 13) (se_meth0 (k := 104) (mt_cons (MtOf.mono c_Kept_looked (by omega)) (mt_nil)) (hr.mono (by omega)) tk (mv 6)) S.nd)
      (ss_cons (sx_if (st_not (st_val (se_callC c__law_looked (hr.mono (by omega)) tk (sa_cons (mv 13) (sa_cons (mv 12) (sa_nil))))))
      (ss_one (sx_ret (se_bl)))
      (ss_nil))
      (ss_cons (sx_expr (se_bm PySem.F.plainAttrs_list PySem.F.slot_list_append PySem.F.type_list_append mt_append sty_list sm_append (mv 13) (sa_cons (se_tup (sa_nil)) (sa_nil))))
      (ss_cons (sx_if ((sw_or (st_not (st_val (se_callC c__law_same (hr.mono (by omega)) tk (sa_cons (se_meth0 (k := 104) (mt_cons (MtOf.mono c_Kept_now (by omega)) (mt_nil)) (hr.mono (by omega)) tk (mv 6)) (sa_cons (mv 5) (sa_nil)))))) (sw_or1 (st_not (st_val (se_callC c__law_all (hr.mono (by omega)) tk (sa_cons (se_meth0 (k := 104) (mt_cons (MtOf.mono c_Kept_all_forms (by omega)) (mt_nil)) (hr.mono (by omega)) tk (mv 6)) (sa_cons (mv 3) (sa_cons (mv 11) (sa_nil))))))))).pt)
      (ss_one (sx_ret (se_bl)))
      (ss_nil))
      (ss_one (sx_if (st_not (st_val (se_callC c__law_looked (hr.mono (by omega)) tk (sa_cons (se_meth0 (k := 104) (mt_cons (MtOf.mono c_Kept_looked (by omega)) (mt_nil)) (hr.mono (by omega)) tk (mv 6)) (sa_cons (mv 12) (sa_nil))))))
      (ss_one (sx_ret (se_bl)))
      (ss_nil)))))))))))))))))))
      (ss_one (sx_ret (se_bl)))))))))
end
theorem all_mk {l : PySem.W.OpenLaw} {w : World} {K : PySem.W.Frag} {h : Heap} {mg : Str → Option Value} {fa : Addr} (X : K.In h) (G : h.Ns mainGlobals mg) (hfa : mg "law" = some (.ref fa))
    {f0 : Addr} {od0 an0 : Option Addr} {sl0 : Array (Option Value)} {oc0 kV0 dc0 pm0 cd0 ct0 : Value} {f1 : Addr} {od1 an1 : Option Addr} {sl1 : Array (Option Value)} {oc1 kV1 dc1 pm1 cd1 ct1 : Value} {f2 : Addr} {od2 an2 : Option Addr} {sl2 : Array (Option Value)} {oc2 kV2 dc2 pm2 cd2 ct2 : Value} {f3 : Addr} {od3 an3 : Option Addr} {sl3 : Array (Option Value)} {oc3 kV3 dc3 pm3 cd3 ct3 : Value} {f4 : Addr} {od4 an4 : Option Addr} {sl4 : Array (Option Value)} {oc4 kV4 dc4 pm4 cd4 ct4 : Value} {f5 : Addr} {od5 an5 : Option Addr} {sl5 : Array (Option Value)} {oc5 kV5 dc5 pm5 cd5 ct5 : Value} {f6 : Addr} {od6 an6 : Option Addr} {sl6 : Array (Option Value)} {oc6 kV6 dc6 pm6 cd6 ct6 : Value} {f7 : Addr} {od7 an7 : Option Addr} {sl7 : Array (Option Value)} {oc7 kV7 dc7 pm7 cd7 ct7 : Value} {f8 : Addr} {od8 an8 : Option Addr} {sl8 : Array (Option Value)} {oc8 kV8 dc8 pm8 cd8 ct8 : Value} {f9 : Addr} {od9 an9 : Option Addr} {sl9 : Array (Option Value)} {oc9 kV9 dc9 pm9 cd9 ct9 : Value} {f10 : Addr} {od10 an10 : Option Addr} {sl10 : Array (Option Value)} {oc10 kV10 dc10 pm10 cd10 ct10 : Value} {f11 : Addr} {od11 an11 : Option Addr} {sl11 : Array (Option Value)} {oc11 kV11 dc11 pm11 cd11 ct11 : Value} {f12 : Addr} {od12 an12 : Option Addr} {sl12 : Array (Option Value)} {oc12 kV12 dc12 pm12 cd12 ct12 : Value} {f13 : Addr} {od13 an13 : Option Addr} {sl13 : Array (Option Value)} {oc13 kV13 dc13 pm13 cd13 ct13 : Value} {f14 : Addr} {od14 an14 : Option Addr} {sl14 : Array (Option Value)} {oc14 kV14 dc14 pm14 cd14 ct14 : Value} {f15 : Addr} {od15 an15 : Option Addr} {sl15 : Array (Option Value)} {oc15 kV15 dc15 pm15 cd15 ct15 : Value} {f16 : Addr} {od16 an16 : Option Addr} {sl16 : Array (Option Value)} {oc16 kV16 dc16 pm16 cd16 ct16 : Value} {f17 : Addr} {od17 an17 : Option Addr} {sl17 : Array (Option Value)} {oc17 kV17 dc17 pm17 cd17 ct17 : Value} {f18 : Addr} {od18 an18 : Option Addr} {sl18 : Array (Option Value)} {oc18 kV18 dc18 pm18 cd18 ct18 : Value} {f19 : Addr} {od19 an19 : Option Addr} {sl19 : Array (Option Value)} {oc19 kV19 dc19 pm19 cd19 ct19 : Value} {f20 : Addr} {od20 an20 : Option Addr} {sl20 : Array (Option Value)} {oc20 kV20 dc20 pm20 cd20 ct20 : Value} {f21 : Addr} {od21 an21 : Option Addr} {sl21 : Array (Option Value)} {oc21 kV21 dc21 pm21 cd21 ct21 : Value} {f22 : Addr} {od22 an22 : Option Addr} {sl22 : Array (Option Value)} {oc22 kV22 dc22 pm22 cd22 ct22 : Value} {f23 : Addr} {od23 an23 : Option Addr} {sl23 : Array (Option Value)} {oc23 kV23 dc23 pm23 cd23 ct23 : Value} {f24 : Addr} {od24 an24 : Option Addr} {sl24 : Array (Option Value)} {oc24 kV24 dc24 pm24 cd24 ct24 : Value} {f25 : Addr} {od25 an25 : Option Addr} {sl25 : Array (Option Value)} {oc25 kV25 dc25 pm25 cd25 ct25 : Value} {f26 : Addr} {od26 an26 : Option Addr} {sl26 : Array (Option Value)} {oc26 kV26 dc26 pm26 cd26 ct26 : Value} {f27 : Addr} {od27 an27 : Option Addr} {sl27 : Array (Option Value)} {oc27 kV27 dc27 pm27 cd27 ct27 : Value} {f28 : Addr} {od28 an28 : Option Addr} {sl28 : Array (Option Value)} {oc28 kV28 dc28 pm28 cd28 ct28 : Value} {f29 : Addr} {od29 an29 : Option Addr} {sl29 : Array (Option Value)} {oc29 kV29 dc29 pm29 cd29 ct29 : Value} {f30 : Addr} {od30 an30 : Option Addr} {sl30 : Array (Option Value)} {oc30 kV30 dc30 pm30 cd30 ct30 : Value} {f31 : Addr} {od31 an31 : Option Addr} {sl31 : Array (Option Value)} {oc31 kV31 dc31 pm31 cd31 ct31 : Value} {f32 : Addr} {od32 an32 : Option Addr} {sl32 : Array (Option Value)} {oc32 kV32 dc32 pm32 cd32 ct32 : Value} {f33 : Addr} {od33 an33 : Option Addr} {sl33 : Array (Option Value)} {oc33 kV33 dc33 pm33 cd33 ct33 : Value} {C8 : Addr} {C12 : Addr} {C14 : Addr} {C15 : Addr} {C17 : Addr} {C21 : Addr} {C29 : Addr} {C32 : Addr} {tz_LETTERS : Tok} {C_NoName fI_NoName : Addr} {oc_NoName kV_NoName dc_NoName pm_NoName cd_NoName ct_NoName : Value} {od_NoName an_NoName : Option Addr} {sl_NoName : Array (Option Value)} {C_NoPlace fI_NoPlace : Addr} {oc_NoPlace kV_NoPlace dc_NoPlace pm_NoPlace cd_NoPlace ct_NoPlace : Value} {od_NoPlace an_NoPlace : Option Addr} {sl_NoPlace : Array (Option Value)}
    (a0 : PySem.W.nsIn K mainGlobals "_law_numbers" = some (some (.ref f0)))
    (l0 : K.lookup f0 = some ⟨oc0, od0, .func (PySem.W.fnOf "_law_numbers" "_law_numbers" (defArgs (top 25)) (defBody (top 25)) (defScope (top 25)) .none kV0 dc0 pm0 an0 cd0 ct0), sl0⟩) (e0 : PySem.W.codeIn K cd0 "_law_numbers" = true) (k0 : PySem.W.keepIn K (.ref f0) = true)
    (a1 : PySem.W.nsIn K mainGlobals "_law_spelled" = some (some (.ref f1)))
    (l1 : K.lookup f1 = some ⟨oc1, od1, .func (PySem.W.fnOf "_law_spelled" "_law_spelled" (defArgs (top 26)) (defBody (top 26)) (defScope (top 26)) .none kV1 dc1 pm1 an1 cd1 ct1), sl1⟩) (e1 : PySem.W.codeIn K cd1 "_law_spelled" = true) (k1 : PySem.W.keepIn K (.ref f1) = true)
    (a2 : PySem.W.nsIn K mainGlobals "_law_name" = some (some (.ref f2)))
    (l2 : K.lookup f2 = some ⟨oc2, od2, .func (PySem.W.fnOf "_law_name" "_law_name" (defArgs (top 27)) (defBody (top 27)) (defScope (top 27)) .none kV2 dc2 pm2 an2 cd2 ct2), sl2⟩) (e2 : PySem.W.codeIn K cd2 "_law_name" = true) (k2 : PySem.W.keepIn K (.ref f2) = true)
    (a3 : PySem.W.nsIn K mainGlobals "_law_pool" = some (some (.ref f3)))
    (l3 : K.lookup f3 = some ⟨oc3, od3, .func (PySem.W.fnOf "_law_pool" "_law_pool" (defArgs (top 28)) (defBody (top 28)) (defScope (top 28)) .none kV3 dc3 pm3 an3 cd3 ct3), sl3⟩) (e3 : PySem.W.codeIn K cd3 "_law_pool" = true) (k3 : PySem.W.keepIn K (.ref f3) = true)
    (a4 : PySem.W.nsIn K mainGlobals "_law_cell_at" = some (some (.ref f4)))
    (l4 : K.lookup f4 = some ⟨oc4, od4, .func (PySem.W.fnOf "_law_cell_at" "_law_cell_at" (defArgs (top 24)) (defBody (top 24)) (defScope (top 24)) .none kV4 dc4 pm4 an4 cd4 ct4), sl4⟩) (e4 : PySem.W.codeIn K cd4 "_law_cell_at" = true) (k4 : PySem.W.keepIn K (.ref f4) = true)
    (a5 : PySem.W.nsIn K mainGlobals "_law_step" = some (some (.ref f5)))
    (l5 : K.lookup f5 = some ⟨oc5, od5, .func (PySem.W.fnOf "_law_step" "_law_step" (defArgs (top 29)) (defBody (top 29)) (defScope (top 29)) .none kV5 dc5 pm5 an5 cd5 ct5), sl5⟩) (e5 : PySem.W.codeIn K cd5 "_law_step" = true) (k5 : PySem.W.keepIn K (.ref f5) = true)
    (a6 : PySem.W.nsIn K mainGlobals "_law_machine" = some (some (.ref f6)))
    (l6 : K.lookup f6 = some ⟨oc6, od6, .func (PySem.W.fnOf "_law_machine" "_law_machine" (defArgs (top 30)) (defBody (top 30)) (defScope (top 30)) .none kV6 dc6 pm6 an6 cd6 ct6), sl6⟩) (e6 : PySem.W.codeIn K cd6 "_law_machine" = true) (k6 : PySem.W.keepIn K (.ref f6) = true)
    (a7 : PySem.W.nsIn K mainGlobals "_law_doc" = some (some (.ref f7)))
    (l7 : K.lookup f7 = some ⟨oc7, od7, .func (PySem.W.fnOf "_law_doc" "_law_doc" (defArgs (top 37)) (defBody (top 37)) (defScope (top 37)) .none kV7 dc7 pm7 an7 cd7 ct7), sl7⟩) (e7 : PySem.W.codeIn K cd7 "_law_doc" = true) (k7 : PySem.W.keepIn K (.ref f7) = true)
    (ca8 : PySem.W.nsIn K mainGlobals "Spot" = some (some (.ref C8)))
    (cm8 : PySem.W.makesIn K C8 = true) (ck8 : PySem.W.keepIn K (.ref C8) = true)
    (a8 : PySem.W.findIn K (.ref C8) "__init__" = some (some (.ref f8))) (cn8 : PySem.W.isFn K (.ref f8) = true)
    (l8 : K.lookup f8 = some ⟨oc8, od8, .func (PySem.W.fnOf "__init__" "Spot.__init__" (defArgs (inner (top 16) 0)) (defBody (inner (top 16) 0)) (defScope (inner (top 16) 0)) .none kV8 dc8 pm8 an8 cd8 ct8), sl8⟩) (e8 : PySem.W.codeIn K cd8 "Spot.__init__" = true) (k8 : PySem.W.keepIn K (.ref f8) = true)
    (a9 : PySem.W.nsIn K mainGlobals "start_of" = some (some (.ref f9)))
    (l9 : K.lookup f9 = some ⟨oc9, od9, .func (PySem.W.fnOf "start_of" "start_of" (defArgs (top 12)) (defBody (top 12)) (defScope (top 12)) .none kV9 dc9 pm9 an9 cd9 ct9), sl9⟩) (e9 : PySem.W.codeIn K cd9 "start_of" = true) (k9 : PySem.W.keepIn K (.ref f9) = true)
    (a10 : PySem.W.nsIn K mainGlobals "state_by" = some (some (.ref f10)))
    (l10 : K.lookup f10 = some ⟨oc10, od10, .func (PySem.W.fnOf "state_by" "state_by" (defArgs (top 17)) (defBody (top 17)) (defScope (top 17)) .none kV10 dc10 pm10 an10 cd10 ct10), sl10⟩) (e10 : PySem.W.codeIn K cd10 "state_by" = true) (k10 : PySem.W.keepIn K (.ref f10) = true)
    (a11 : PySem.W.nsIn K mainGlobals "spot_of" = some (some (.ref f11)))
    (l11 : K.lookup f11 = some ⟨oc11, od11, .func (PySem.W.fnOf "spot_of" "spot_of" (defArgs (top 18)) (defBody (top 18)) (defScope (top 18)) .none kV11 dc11 pm11 an11 cd11 ct11), sl11⟩) (e11 : PySem.W.codeIn K cd11 "spot_of" = true) (k11 : PySem.W.keepIn K (.ref f11) = true)
    (ca12 : PySem.W.nsIn K mainGlobals "Kept" = some (some (.ref C12)))
    (cm12 : PySem.W.makesIn K C12 = true) (ck12 : PySem.W.keepIn K (.ref C12) = true)
    (a12 : PySem.W.findIn K (.ref C12) "__init__" = some (some (.ref f12))) (cn12 : PySem.W.isFn K (.ref f12) = true)
    (l12 : K.lookup f12 = some ⟨oc12, od12, .func (PySem.W.fnOf "__init__" "Kept.__init__" (defArgs (inner (top 22) 0)) (defBody (inner (top 22) 0)) (defScope (inner (top 22) 0)) .none kV12 dc12 pm12 an12 cd12 ct12), sl12⟩) (e12 : PySem.W.codeIn K cd12 "Kept.__init__" = true) (k12 : PySem.W.keepIn K (.ref f12) = true)
    (a13 : PySem.W.nsIn K mainGlobals "_law_way" = some (some (.ref f13)))
    (l13 : K.lookup f13 = some ⟨oc13, od13, .func (PySem.W.fnOf "_law_way" "_law_way" (defArgs (top 38)) (defBody (top 38)) (defScope (top 38)) .none kV13 dc13 pm13 an13 cd13 ct13), sl13⟩) (e13 : PySem.W.codeIn K cd13 "_law_way" = true) (k13 : PySem.W.keepIn K (.ref f13) = true)
    (ca14 : PySem.W.nsIn K mainGlobals "Kept" = some (some (.ref C14)))
    (zf_cb14 : clsB K C14 = true)
    (a14 : PySem.W.findIn K (.ref C14) "spots" = some (some (.ref f14))) (cn14 : PySem.W.isFn K (.ref f14) = true)
    (l14 : K.lookup f14 = some ⟨oc14, od14, .func (PySem.W.fnOf "spots" "Kept.spots" (defArgs (inner (top 22) 2)) (defBody (inner (top 22) 2)) (defScope (inner (top 22) 2)) .none kV14 dc14 pm14 an14 cd14 ct14), sl14⟩) (e14 : PySem.W.codeIn K cd14 "Kept.spots" = true) (k14 : PySem.W.keepIn K (.ref f14) = true)
    (ca15 : PySem.W.nsIn K mainGlobals "Kept" = some (some (.ref C15)))
    (zf_cb15 : clsB K C15 = true)
    (a15 : PySem.W.findIn K (.ref C15) "look" = some (some (.ref f15))) (cn15 : PySem.W.isFn K (.ref f15) = true)
    (l15 : K.lookup f15 = some ⟨oc15, od15, .func (PySem.W.fnOf "look" "Kept.look" (defArgs (inner (top 22) 3)) (defBody (inner (top 22) 3)) (defScope (inner (top 22) 3)) .none kV15 dc15 pm15 an15 cd15 ct15), sl15⟩) (e15 : PySem.W.codeIn K cd15 "Kept.look" = true) (k15 : PySem.W.keepIn K (.ref f15) = true)
    (a16 : PySem.W.nsIn K mainGlobals "is_name" = some (some (.ref f16)))
    (l16 : K.lookup f16 = some ⟨oc16, od16, .func (PySem.W.fnOf "is_name" "is_name" (defArgs (top 9)) (defBody (top 9)) (defScope (top 9)) .none kV16 dc16 pm16 an16 cd16 ct16), sl16⟩) (e16 : PySem.W.codeIn K cd16 "is_name" = true) (k16 : PySem.W.keepIn K (.ref f16) = true)
    (ca17 : PySem.W.nsIn K mainGlobals "Kept" = some (some (.ref C17)))
    (zf_cb17 : clsB K C17 = true)
    (a17 : PySem.W.findIn K (.ref C17) "rename" = some (some (.ref f17))) (cn17 : PySem.W.isFn K (.ref f17) = true)
    (l17 : K.lookup f17 = some ⟨oc17, od17, .func (PySem.W.fnOf "rename" "Kept.rename" (defArgs (inner (top 22) 6)) (defBody (inner (top 22) 6)) (defScope (inner (top 22) 6)) .none kV17 dc17 pm17 an17 cd17 ct17), sl17⟩) (e17 : PySem.W.codeIn K cd17 "Kept.rename" = true) (k17 : PySem.W.keepIn K (.ref f17) = true)
    (a18 : PySem.W.nsIn K mainGlobals "_law_done" = some (some (.ref f18)))
    (l18 : K.lookup f18 = some ⟨oc18, od18, .func (PySem.W.fnOf "_law_done" "_law_done" (defArgs (top 39)) (defBody (top 39)) (defScope (top 39)) .none kV18 dc18 pm18 an18 cd18 ct18), sl18⟩) (e18 : PySem.W.codeIn K cd18 "_law_done" = true) (k18 : PySem.W.keepIn K (.ref f18) = true)
    (a19 : PySem.W.nsIn K mainGlobals "_law_states" = some (some (.ref f19)))
    (l19 : K.lookup f19 = some ⟨oc19, od19, .func (PySem.W.fnOf "_law_states" "_law_states" (defArgs (top 32)) (defBody (top 32)) (defScope (top 32)) .none kV19 dc19 pm19 an19 cd19 ct19), sl19⟩) (e19 : PySem.W.codeIn K cd19 "_law_states" = true) (k19 : PySem.W.keepIn K (.ref f19) = true)
    (a20 : PySem.W.nsIn K mainGlobals "_law_due" = some (some (.ref f20)))
    (l20 : K.lookup f20 = some ⟨oc20, od20, .func (PySem.W.fnOf "_law_due" "_law_due" (defArgs (top 40)) (defBody (top 40)) (defScope (top 40)) .none kV20 dc20 pm20 an20 cd20 ct20), sl20⟩) (e20 : PySem.W.codeIn K cd20 "_law_due" = true) (k20 : PySem.W.keepIn K (.ref f20) = true)
    (ca21 : PySem.W.nsIn K mainGlobals "Kept" = some (some (.ref C21)))
    (zf_cb21 : clsB K C21 = true)
    (a21 : PySem.W.findIn K (.ref C21) "looked" = some (some (.ref f21))) (cn21 : PySem.W.isFn K (.ref f21) = true)
    (l21 : K.lookup f21 = some ⟨oc21, od21, .func (PySem.W.fnOf "looked" "Kept.looked" (defArgs (inner (top 22) 9)) (defBody (inner (top 22) 9)) (defScope (inner (top 22) 9)) .none kV21 dc21 pm21 an21 cd21 ct21), sl21⟩) (e21 : PySem.W.codeIn K cd21 "Kept.looked" = true) (k21 : PySem.W.keepIn K (.ref f21) = true)
    (a22 : PySem.W.nsIn K mainGlobals "_law_place" = some (some (.ref f22)))
    (l22 : K.lookup f22 = some ⟨oc22, od22, .func (PySem.W.fnOf "_law_place" "_law_place" (defArgs (top 34)) (defBody (top 34)) (defScope (top 34)) .none kV22 dc22 pm22 an22 cd22 ct22), sl22⟩) (e22 : PySem.W.codeIn K cd22 "_law_place" = true) (k22 : PySem.W.keepIn K (.ref f22) = true)
    (a23 : PySem.W.nsIn K mainGlobals "_law_looked" = some (some (.ref f23)))
    (l23 : K.lookup f23 = some ⟨oc23, od23, .func (PySem.W.fnOf "_law_looked" "_law_looked" (defArgs (top 41)) (defBody (top 41)) (defScope (top 41)) .none kV23 dc23 pm23 an23 cd23 ct23), sl23⟩) (e23 : PySem.W.codeIn K cd23 "_law_looked" = true) (k23 : PySem.W.keepIn K (.ref f23) = true)
    (a24 : PySem.W.nsIn K mainGlobals "_law_same" = some (some (.ref f24)))
    (l24 : K.lookup f24 = some ⟨oc24, od24, .func (PySem.W.fnOf "_law_same" "_law_same" (defArgs (top 31)) (defBody (top 31)) (defScope (top 31)) .none kV24 dc24 pm24 an24 cd24 ct24), sl24⟩) (e24 : PySem.W.codeIn K cd24 "_law_same" = true) (k24 : PySem.W.keepIn K (.ref f24) = true)
    (a25 : PySem.W.nsIn K mainGlobals "_law_words" = some (some (.ref f25)))
    (l25 : K.lookup f25 = some ⟨oc25, od25, .func (PySem.W.fnOf "_law_words" "_law_words" (defArgs (top 35)) (defBody (top 35)) (defScope (top 35)) .none kV25 dc25 pm25 an25 cd25 ct25), sl25⟩) (e25 : PySem.W.codeIn K cd25 "_law_words" = true) (k25 : PySem.W.keepIn K (.ref f25) = true)
    (a26 : PySem.W.nsIn K mainGlobals "_law_forms" = some (some (.ref f26)))
    (l26 : K.lookup f26 = some ⟨oc26, od26, .func (PySem.W.fnOf "_law_forms" "_law_forms" (defArgs (top 33)) (defBody (top 33)) (defScope (top 33)) .none kV26 dc26 pm26 an26 cd26 ct26), sl26⟩) (e26 : PySem.W.codeIn K cd26 "_law_forms" = true) (k26 : PySem.W.keepIn K (.ref f26) = true)
    (a27 : PySem.W.nsIn K mainGlobals "_law_all" = some (some (.ref f27)))
    (l27 : K.lookup f27 = some ⟨oc27, od27, .func (PySem.W.fnOf "_law_all" "_law_all" (defArgs (top 36)) (defBody (top 36)) (defScope (top 36)) .none kV27 dc27 pm27 an27 cd27 ct27), sl27⟩) (e27 : PySem.W.codeIn K cd27 "_law_all" = true) (k27 : PySem.W.keepIn K (.ref f27) = true)
    (a28 : PySem.W.nsIn K mainGlobals "doc_of" = some (some (.ref f28)))
    (l28 : K.lookup f28 = some ⟨oc28, od28, .func (PySem.W.fnOf "doc_of" "doc_of" (defArgs (top 19)) (defBody (top 19)) (defScope (top 19)) .none kV28 dc28 pm28 an28 cd28 ct28), sl28⟩) (e28 : PySem.W.codeIn K cd28 "doc_of" = true) (k28 : PySem.W.keepIn K (.ref f28) = true)
    (ca29 : PySem.W.nsIn K mainGlobals "Kept" = some (some (.ref C29)))
    (zf_cb29 : clsB K C29 = true)
    (a29 : PySem.W.findIn K (.ref C29) "now" = some (some (.ref f29))) (cn29 : PySem.W.isFn K (.ref f29) = true)
    (l29 : K.lookup f29 = some ⟨oc29, od29, .func (PySem.W.fnOf "now" "Kept.now" (defArgs (inner (top 22) 1)) (defBody (inner (top 22) 1)) (defScope (inner (top 22) 1)) .none kV29 dc29 pm29 an29 cd29 ct29), sl29⟩) (e29 : PySem.W.codeIn K cd29 "Kept.now" = true) (k29 : PySem.W.keepIn K (.ref f29) = true)
    (a30 : PySem.W.nsIn K mainGlobals "forms_of" = some (some (.ref f30)))
    (l30 : K.lookup f30 = some ⟨oc30, od30, .func (PySem.W.fnOf "forms_of" "forms_of" (defArgs (top 14)) (defBody (top 14)) (defScope (top 14)) .none kV30 dc30 pm30 an30 cd30 ct30), sl30⟩) (e30 : PySem.W.codeIn K cd30 "forms_of" = true) (k30 : PySem.W.keepIn K (.ref f30) = true)
    (a31 : PySem.W.nsIn K mainGlobals "forms_below" = some (some (.ref f31)))
    (l31 : K.lookup f31 = some ⟨oc31, od31, .func (PySem.W.fnOf "forms_below" "forms_below" (defArgs (top 21)) (defBody (top 21)) (defScope (top 21)) .none kV31 dc31 pm31 an31 cd31 ct31), sl31⟩) (e31 : PySem.W.codeIn K cd31 "forms_below" = true) (k31 : PySem.W.keepIn K (.ref f31) = true)
    (ca32 : PySem.W.nsIn K mainGlobals "Kept" = some (some (.ref C32)))
    (zf_cb32 : clsB K C32 = true)
    (a32 : PySem.W.findIn K (.ref C32) "all_forms" = some (some (.ref f32))) (cn32 : PySem.W.isFn K (.ref f32) = true)
    (l32 : K.lookup f32 = some ⟨oc32, od32, .func (PySem.W.fnOf "all_forms" "Kept.all_forms" (defArgs (inner (top 22) 8)) (defBody (inner (top 22) 8)) (defScope (inner (top 22) 8)) .none kV32 dc32 pm32 an32 cd32 ct32), sl32⟩) (e32 : PySem.W.codeIn K cd32 "Kept.all_forms" = true) (k32 : PySem.W.keepIn K (.ref f32) = true)
    (a33 : PySem.W.nsIn K mainGlobals "law" = some (some (.ref f33)))
    (l33 : K.lookup f33 = some ⟨oc33, od33, .func (PySem.W.fnOf "law" "law" (defArgs (top 42)) (defBody (top 42)) (defScope (top 42)) .none kV33 dc33 pm33 an33 cd33 ct33), sl33⟩) (e33 : PySem.W.codeIn K cd33 "law" = true) (k33 : PySem.W.keepIn K (.ref f33) = true)
    (zb_abs : PySem.W.nsIn K mainGlobals "abs" = some none)
    (zb_bool : PySem.W.nsIn K mainGlobals "bool" = some none)
    (zb_dict : PySem.W.nsIn K mainGlobals "dict" = some none)
    (zb_int : PySem.W.nsIn K mainGlobals "int" = some none)
    (zb_isinstance : PySem.W.nsIn K mainGlobals "isinstance" = some none)
    (zb_len : PySem.W.nsIn K mainGlobals "len" = some none)
    (zb_list : PySem.W.nsIn K mainGlobals "list" = some none)
    (zb_max : PySem.W.nsIn K mainGlobals "max" = some none)
    (zb_min : PySem.W.nsIn K mainGlobals "min" = some none)
    (zb_range : PySem.W.nsIn K mainGlobals "range" = some none)
    (zb_reversed : PySem.W.nsIn K mainGlobals "reversed" = some none)
    (zb_sorted : PySem.W.nsIn K mainGlobals "sorted" = some none)
    (zb_str : PySem.W.nsIn K mainGlobals "str" = some none)
    (zb_tuple : PySem.W.nsIn K mainGlobals "tuple" = some none)
    (zg_LETTERS : PySem.W.nsIn K mainGlobals "LETTERS" = some (some (.str (Str.ofString "abcdefghijklmnopqrstuvwxyz") tz_LETTERS)))
    (zf_ct_below : ctB K "below" [(Str.ofString "Spot")] = true)
    (zf_ct_last : ctB K "last" [(Str.ofString "Kept")] = true)
    (zf_ct_machine : ctB K "machine" [(Str.ofString "Kept")] = true)
    (zf_ct_name : ctB K "name" [(Str.ofString "Spot")] = true)
    (zf_ct_state : ctB K "state" [(Str.ofString "Spot")] = true)
    (zf_ct_top : ctB K "top" [(Str.ofString "Kept")] = true)
    (xa_NoName : PySem.W.nsIn K mainGlobals "NoName" = some (some (.ref C_NoName))) (xc_NoName : oexB K C_NoName = true) (xi_NoName : PySem.W.findIn K (.ref C_NoName) "__init__" = some (some (.ref fI_NoName))) (xt_NoName : PySem.W.typeIn K (.ref fI_NoName) = some (.type "function")) (xn_NoName : PySem.W.findIn K (.ref C_NoName) "name" = some none)
    (xl_NoName : K.lookup fI_NoName = some ⟨oc_NoName, od_NoName, .func (PySem.W.fnOf "__init__" "NoName.__init__" (defArgs (inner (top 5) 0)) (defBody (inner (top 5) 0)) (defScope (inner (top 5) 0)) .none kV_NoName dc_NoName pm_NoName an_NoName cd_NoName ct_NoName), sl_NoName⟩) (xe_NoName : PySem.W.codeIn K cd_NoName "NoName.__init__" = true) (xk_NoName : PySem.W.keepIn K (.ref fI_NoName) = true)
    (xa_NoPlace : PySem.W.nsIn K mainGlobals "NoPlace" = some (some (.ref C_NoPlace))) (xc_NoPlace : oexB K C_NoPlace = true) (xi_NoPlace : PySem.W.findIn K (.ref C_NoPlace) "__init__" = some (some (.ref fI_NoPlace))) (xt_NoPlace : PySem.W.typeIn K (.ref fI_NoPlace) = some (.type "function")) (xn_NoPlace : PySem.W.findIn K (.ref C_NoPlace) "place" = some none)
    (xl_NoPlace : K.lookup fI_NoPlace = some ⟨oc_NoPlace, od_NoPlace, .func (PySem.W.fnOf "__init__" "NoPlace.__init__" (defArgs (inner (top 4) 0)) (defBody (inner (top 4) 0)) (defScope (inner (top 4) 0)) .none kV_NoPlace dc_NoPlace pm_NoPlace an_NoPlace cd_NoPlace ct_NoPlace), sl_NoPlace⟩) (xe_NoPlace : PySem.W.codeIn K cd_NoPlace "NoPlace.__init__" = true) (xk_NoPlace : PySem.W.keepIn K (.ref fI_NoPlace) = true) :
    ∃ fd : FuncData, (∀ (s : Shared) (v : Value), BindsTo s fd ⟨[v], []⟩ [("_law_script", v)]) ∧ ∀ base : Heap, K.In base → base.Ns mainGlobals mg → FnOk l.prog w K mg base (L2.CX l.prog w) 105 fa fd ["_law_script"] (spM (gOf w K) m_law_7b532) := by
  have T : Txt K mg := ⟨PySem.W.mg_none_of X G zb_abs, PySem.W.mg_none_of X G zb_bool, PySem.W.mg_none_of X G zb_dict, PySem.W.mg_none_of X G zb_int, PySem.W.mg_none_of X G zb_isinstance, PySem.W.mg_none_of X G zb_len, PySem.W.mg_none_of X G zb_list, PySem.W.mg_none_of X G zb_max, PySem.W.mg_none_of X G zb_min, PySem.W.mg_none_of X G zb_range, PySem.W.mg_none_of X G zb_reversed, PySem.W.mg_none_of X G zb_sorted, PySem.W.mg_none_of X G zb_str, PySem.W.mg_none_of X G zb_tuple, ⟨_, PySem.W.mg_of X G zg_LETTERS⟩, ctB_ok zf_ct_below, ctB_ok zf_ct_last, ctB_ok zf_ct_machine, ctB_ok zf_ct_name, ctB_ok zf_ct_state, ctB_ok zf_ct_top⟩
  have xi_NoName : ∀ base : Heap, XI l.prog w K mg base "NoName" "name" := fun base => xi_mk (f := "name") X G xa_NoName (oexB_ok xc_NoName) xi_NoName xt_NoName xn_NoName xl_NoName xe_NoName xk_NoName sc_init_NoName (fun _ F cdv A outer s H E => pss_one (ps_ost (pv 0) (pv 1))) (fun _ _ _ _ _ _ us hl => match us, hl with | [_, _], _ => rfl)
  have xi_NoPlace : ∀ base : Heap, XI l.prog w K mg base "NoPlace" "place" := fun base => xi_mk (f := "place") X G xa_NoPlace (oexB_ok xc_NoPlace) xi_NoPlace xt_NoPlace xn_NoPlace xl_NoPlace xe_NoPlace xk_NoPlace sc_init_NoPlace (fun _ F cdv A outer s H E => pss_one (ps_ost (pv 0) (pv 1))) (fun _ _ _ _ _ _ us hl => match us, hl with | [_, _], _ => rfl)
  have d0 : Df K mg "_law_numbers" (top 25) ["_law_cell", "_law_many"] := df_mk X G a0 l0 e0 k0 fun _ _ _ _ _ _ us hl => match us, hl with | [_, _], _ => rfl
  have c0 : ∀ base : Heap, Cal l.prog w K mg base "_law_numbers" 1 (m_numbers_207ed) := fun base => sim__law_numbers T d0
  have d1 : Df K mg "_law_spelled" (top 26) ["_law_rest", "_law_long"] := df_mk X G a1 l1 e1 k1 fun _ _ _ _ _ _ us hl => match us, hl with | [_, _], _ => rfl
  have c1 : ∀ base : Heap, Cal l.prog w K mg base "_law_spelled" 1 (m_spelled_7a0ca) := fun base => sim__law_spelled T d1
  have d2 : Df K mg "_law_name" (top 27) ["_law_cell"] := df_mk X G a2 l2 e2 k2 fun _ _ _ _ _ _ us hl => match us, hl with | [_], _ => rfl
  have c2 : ∀ base : Heap, Cal l.prog w K mg base "_law_name" 2 (m_name_81bef) := fun base => sim__law_name T d2 (c1 base) (c0 base)
  have d3 : Df K mg "_law_pool" (top 28) ["_law_cell", "_law_many"] := df_mk X G a3 l3 e3 k3 fun _ _ _ _ _ _ us hl => match us, hl with | [_, _], _ => rfl
  have c3 : ∀ base : Heap, Cal l.prog w K mg base "_law_pool" 3 (m_pool_0b659) := fun base => sim__law_pool T d3 (c0 base) (c2 base)
  have d4 : Df K mg "_law_cell_at" (top 24) ["_law_script", "_law_k"] := df_mk X G a4 l4 e4 k4 fun _ _ _ _ _ _ us hl => match us, hl with | [_, _], _ => rfl
  have c4 : ∀ base : Heap, Cal l.prog w K mg base "_law_cell_at" 1 (m_cell_at_5ae90) := fun base => sim__law_cell_at T d4
  have d5 : Df K mg "_law_step" (top 29) ["_law_way_here", "_law_p", "_law_q", "_law_many", "_law_number"] := df_mk X G a5 l5 e5 k5 fun _ _ _ _ _ _ us hl => match us, hl with | [_, _, _, _, _], _ => rfl
  have c5 : ∀ base : Heap, Cal l.prog w K mg base "_law_step" 1 (m_step_08124) := fun base => sim__law_step T d5
  have d6 : Df K mg "_law_machine" (top 30) ["_law_script", "_law_start", "_law_forms_here", "_law_names", "_law_most"] := df_mk X G a6 l6 e6 k6 fun _ _ _ _ _ _ us hl => match us, hl with | [_, _, _, _, _], _ => rfl
  have c6 : ∀ base : Heap, Cal l.prog w K mg base "_law_machine" 2 (m_machine_128e4) := fun base => sim__law_machine T d6 (c4 base) (c0 base) (c5 base)
  have d7 : Df K mg "_law_doc" (top 37) ["_law_cell", "_law_many", "_law_names"] := df_mk X G a7 l7 e7 k7 fun _ _ _ _ _ _ us hl => match us, hl with | [_, _, _], _ => rfl
  have c7 : ∀ base : Heap, Cal l.prog w K mg base "_law_doc" 2 (m_doc_3ac0d) := fun base => sim__law_doc T d7 (c0 base)
  have d8 : Di K mg "Spot" "Spot.__init__" (inner (top 16) 0) ["self", "name", "state", "below"] := di_mk X G ca8 cm8 a8 cn8 ck8 l8 e8 k8 fun _ _ _ _ _ _ us hl => match us, hl with | [_, _, _, _], _ => rfl
  have c8 : ∀ base : Heap, MkOf l.prog w K mg base "Spot" 1 (m_Spot___init___64891) := fun base => sim_Spot___init__ T d8
  have d9 : Df K mg "start_of" (top 12) ["machine", "name"] := df_mk X G a9 l9 e9 k9 fun _ _ _ _ _ _ us hl => match us, hl with | [_, _], _ => rfl
  have c9 : ∀ base : Heap, Cal l.prog w K mg base "start_of" 1 (m_start_of_78275) := fun base => sim_start_of T d9
  have d10 : Df K mg "state_by" (top 17) ["machine", "name", "below"] := df_mk X G a10 l10 e10 k10 fun _ _ _ _ _ _ us hl => match us, hl with | [_, _, _], _ => rfl
  have c10 : ∀ base : Heap, Cal l.prog w K mg base "state_by" 2 (m_state_by_14b94) := fun base => sim_state_by T d10 (c9 base)
  have d11 : Df K mg "spot_of" (top 18) ["machine", "doc"] := df_mk X G a11 l11 e11 k11 fun _ _ _ _ _ _ us hl => match us, hl with | [_, _], _ => rfl
  have c11 : ∀ base : Heap, Cal l.prog w K mg base "spot_of" 102 (m_spot_of_63ba3 100) := fun base => sim_spot_of T d11 (c8 base) (c10 base) 100
  have d12 : Di K mg "Kept" "Kept.__init__" (inner (top 22) 0) ["self", "machine", "doc"] := di_mk X G ca12 cm12 a12 cn12 ck12 l12 e12 k12 fun _ _ _ _ _ _ us hl => match us, hl with | [_, _, _], _ => rfl
  have c12 : ∀ base : Heap, MkOf l.prog w K mg base "Kept" 103 (m_Kept___init___3777c) := fun base => sim_Kept___init__ T d12 (c11 base)
  have d13 : Df K mg "_law_way" (top 38) ["_law_doc_here", "_law_number"] := df_mk X G a13 l13 e13 k13 fun _ _ _ _ _ _ us hl => match us, hl with | [_, _], _ => rfl
  have c13 : ∀ base : Heap, Cal l.prog w K mg base "_law_way" 1 (m_way_05370) := fun base => sim__law_way T d13
  have d14 : Dm K "Kept" "spots" "Kept.spots" (inner (top 22) 2) ["self", "place", "asked"] := dm_mk ca14 zf_cb14 a14 cn14 l14 e14 k14 fun _ _ _ _ _ _ us hl => match us, hl with | [_, _, _], _ => rfl
  have c14 : ∀ base : Heap, MtOf l.prog w K mg base "Kept" "spots" 3 (m_Kept_spots_cf332) := fun base => sim_Kept_spots T d14 (xi_NoPlace base)
  have d15 : Dm K "Kept" "look" "Kept.look" (inner (top 22) 3) ["self", "spots", "place"] := dm_mk ca15 zf_cb15 a15 cn15 l15 e15 k15 fun _ _ _ _ _ _ us hl => match us, hl with | [_, _, _], _ => rfl
  have c15 : ∀ base : Heap, MtOf l.prog w K mg base "Kept" "look" 3 (m_Kept_look_1e813) := fun base => sim_Kept_look T d15 (c10 base)
  have d16 : Df K mg "is_name" (top 9) ["thing"] := df_mk X G a16 l16 e16 k16 fun _ _ _ _ _ _ us hl => match us, hl with | [_], _ => rfl
  have c16 : ∀ base : Heap, Cal l.prog w K mg base "is_name" 1 (m_is_name_50395) := fun base => sim_is_name T d16
  have d17 : Dm K "Kept" "rename" "Kept.rename" (inner (top 22) 6) ["self", "place", "name"] := dm_mk ca17 zf_cb17 a17 cn17 l17 e17 k17 fun _ _ _ _ _ _ us hl => match us, hl with | [_, _, _], _ => rfl
  have c17 : ∀ base : Heap, MtOf l.prog w K mg base "Kept" "rename" 4 (m_Kept_rename_e8d43) := fun base => sim_Kept_rename T d17 (c14 base) (c16 base) (c15 base) (xi_NoName base)
  have d18 : Df K mg "_law_done" (top 39) ["_law_doc_here", "_law_place_here", "_law_word", "_law_new"] := df_mk X G a18 l18 e18 k18 fun _ _ _ _ _ _ us hl => match us, hl with | [_, _, _, _], _ => rfl
  have c18 : ∀ base : Heap, Cal l.prog w K mg base "_law_done" 101 (m_done_94800 100) := fun base => sim__law_done T d18 100
  have d19 : Df K mg "_law_states" (top 32) ["_law_machine_here", "_law_doc_here", "_law_place_here"] := df_mk X G a19 l19 e19 k19 fun _ _ _ _ _ _ us hl => match us, hl with | [_, _, _], _ => rfl
  have c19 : ∀ base : Heap, Cal l.prog w K mg base "_law_states" 101 (m_states_ee0d6 100) := fun base => sim__law_states T d19 100
  have d20 : Df K mg "_law_due" (top 40) ["_law_place_here", "_law_before", "_law_behind"] := df_mk X G a20 l20 e20 k20 fun _ _ _ _ _ _ us hl => match us, hl with | [_, _, _], _ => rfl
  have c20 : ∀ base : Heap, Cal l.prog w K mg base "_law_due" 1 (m_due_d181f) := fun base => sim__law_due T d20
  have d21 : Dm K "Kept" "looked" "Kept.looked" (inner (top 22) 9) ["self"] := dm_mk ca21 zf_cb21 a21 cn21 l21 e21 k21 fun _ _ _ _ _ _ us hl => match us, hl with | [_], _ => rfl
  have c21 : ∀ base : Heap, MtOf l.prog w K mg base "Kept" "looked" 1 (m_Kept_looked_024ca) := fun base => sim_Kept_looked T d21
  have d22 : Df K mg "_law_place" (top 34) ["_law_found", "_law_due_here"] := df_mk X G a22 l22 e22 k22 fun _ _ _ _ _ _ us hl => match us, hl with | [_, _], _ => rfl
  have c22 : ∀ base : Heap, Cal l.prog w K mg base "_law_place" 1 (m_place_2af87) := fun base => sim__law_place T d22
  have d23 : Df K mg "_law_looked" (top 41) ["_law_found", "_law_due_here"] := df_mk X G a23 l23 e23 k23 fun _ _ _ _ _ _ us hl => match us, hl with | [_, _], _ => rfl
  have c23 : ∀ base : Heap, Cal l.prog w K mg base "_law_looked" 2 (m_looked_c1575) := fun base => sim__law_looked T d23 (c22 base)
  have d24 : Df K mg "_law_same" (top 31) ["_law_found", "_law_due_here"] := df_mk X G a24 l24 e24 k24 fun _ _ _ _ _ _ us hl => match us, hl with | [_, _], _ => rfl
  have c24 : ∀ base : Heap, Cal l.prog w K mg base "_law_same" 101 (m_same_49f62 100) := fun base => sim__law_same T d24 100
  have d25 : Df K mg "_law_words" (top 35) ["_law_found", "_law_due_here"] := df_mk X G a25 l25 e25 k25 fun _ _ _ _ _ _ us hl => match us, hl with | [_, _], _ => rfl
  have c25 : ∀ base : Heap, Cal l.prog w K mg base "_law_words" 1 (m_words_27770) := fun base => sim__law_words T d25
  have d26 : Df K mg "_law_forms" (top 33) ["_law_machine_here", "_law_state"] := df_mk X G a26 l26 e26 k26 fun _ _ _ _ _ _ us hl => match us, hl with | [_, _], _ => rfl
  have c26 : ∀ base : Heap, Cal l.prog w K mg base "_law_forms" 1 (m_forms_7f580) := fun base => sim__law_forms T d26
  have d27 : Df K mg "_law_all" (top 36) ["_law_found", "_law_machine_here", "_law_states_here"] := df_mk X G a27 l27 e27 k27 fun _ _ _ _ _ _ us hl => match us, hl with | [_, _, _], _ => rfl
  have c27 : ∀ base : Heap, Cal l.prog w K mg base "_law_all" 2 (m_all_22e5f) := fun base => sim__law_all T d27 (c22 base) (c25 base) (c26 base)
  have d28 : Df K mg "doc_of" (top 19) ["spot"] := df_mk X G a28 l28 e28 k28 fun _ _ _ _ _ _ us hl => match us, hl with | [_], _ => rfl
  have c28 : ∀ base : Heap, Cal l.prog w K mg base "doc_of" 101 (m_doc_of_a1874 100) := fun base => sim_doc_of T d28 100
  have d29 : Dm K "Kept" "now" "Kept.now" (inner (top 22) 1) ["self"] := dm_mk ca29 zf_cb29 a29 cn29 l29 e29 k29 fun _ _ _ _ _ _ us hl => match us, hl with | [_], _ => rfl
  have c29 : ∀ base : Heap, MtOf l.prog w K mg base "Kept" "now" 102 (m_Kept_now_9db09) := fun base => sim_Kept_now T d29 (c28 base)
  have d30 : Df K mg "forms_of" (top 14) ["machine", "state"] := df_mk X G a30 l30 e30 k30 fun _ _ _ _ _ _ us hl => match us, hl with | [_, _], _ => rfl
  have c30 : ∀ base : Heap, Cal l.prog w K mg base "forms_of" 1 (m_forms_of_305ad) := fun base => sim_forms_of T d30
  have d31 : Df K mg "forms_below" (top 21) ["machine", "spot", "place"] := df_mk X G a31 l31 e31 k31 fun _ _ _ _ _ _ us hl => match us, hl with | [_, _, _], _ => rfl
  have c31 : ∀ base : Heap, Cal l.prog w K mg base "forms_below" 101 (m_forms_below_4f6b1 100) := fun base => sim_forms_below T d31 (c30 base) 100
  have d32 : Dm K "Kept" "all_forms" "Kept.all_forms" (inner (top 22) 8) ["self"] := dm_mk ca32 zf_cb32 a32 cn32 l32 e32 k32 fun _ _ _ _ _ _ us hl => match us, hl with | [_], _ => rfl
  have c32 : ∀ base : Heap, MtOf l.prog w K mg base "Kept" "all_forms" 102 (m_Kept_all_forms_cad78) := fun base => sim_Kept_all_forms T d32 (c31 base)
  have ea := hfa.symm.trans (PySem.W.mg_of X G a33)
  cases ea
  have F := fun_mk (st := top 42) l33 e33 k33
  exact ⟨PySem.W.fnOf "law" "law" (defArgs (top 42)) (defBody (top 42)) (defScope (top 42)) .none kV33 dc33 pm33 an33 cd33 ct33, fun s v => .of_eq rfl, fun base _ _ => sim_law T F (c3 base) (c4 base) (c6 base) (c7 base) (c12 base) (c13 base) (c19 base) (c17 base) (c18 base) (c20 base) (c21 base) (c23 base) (c27 base) (c32 base) (c24 base) (c29 base)⟩
end Sk62

open PySem PySem.W PyProof.Rows
set_option maxRecDepth 100000 in
set_option maxHeartbeats 0 in
theorem PySem.Challenge.cw_graftform_k62_a_name_given_holds : PySem.Challenge.rw_graftform_k62_a_name_given.Holds := by
  w_on; o_law; k_head; (case hw => w_witness2)
  k_fill
  refine Mi.law_end (l := PySem.Challenge.rw_graftform_k62_a_name_given) (k := 105) (x := "_law_script") (F := Mi.m_law_7b532) Mi.main_k62 rfl rfl ⟨rfl, by decide, by decide⟩ (fun w h Y => PySem.W.kIn_of Y) ?F
  case F =>
    intro w mg fa h KX G hmg
    refine' Sk62.all_mk KX G hmg ?a0 ?l0 ?e0 ?k0 ?a1 ?l1 ?e1 ?k1 ?a2 ?l2 ?e2 ?k2 ?a3 ?l3 ?e3 ?k3 ?a4 ?l4 ?e4 ?k4 ?a5 ?l5 ?e5 ?k5 ?a6 ?l6 ?e6 ?k6 ?a7 ?l7 ?e7 ?k7 ?ca8 ?cm8 ?ck8 ?a8 ?cn8 ?l8 ?e8 ?k8 ?a9 ?l9 ?e9 ?k9 ?a10 ?l10 ?e10 ?k10 ?a11 ?l11 ?e11 ?k11 ?ca12 ?cm12 ?ck12 ?a12 ?cn12 ?l12 ?e12 ?k12 ?a13 ?l13 ?e13 ?k13 ?ca14 ?zf_cb14 ?a14 ?cn14 ?l14 ?e14 ?k14 ?ca15 ?zf_cb15 ?a15 ?cn15 ?l15 ?e15 ?k15 ?a16 ?l16 ?e16 ?k16 ?ca17 ?zf_cb17 ?a17 ?cn17 ?l17 ?e17 ?k17 ?a18 ?l18 ?e18 ?k18 ?a19 ?l19 ?e19 ?k19 ?a20 ?l20 ?e20 ?k20 ?ca21 ?zf_cb21 ?a21 ?cn21 ?l21 ?e21 ?k21 ?a22 ?l22 ?e22 ?k22 ?a23 ?l23 ?e23 ?k23 ?a24 ?l24 ?e24 ?k24 ?a25 ?l25 ?e25 ?k25 ?a26 ?l26 ?e26 ?k26 ?a27 ?l27 ?e27 ?k27 ?a28 ?l28 ?e28 ?k28 ?ca29 ?zf_cb29 ?a29 ?cn29 ?l29 ?e29 ?k29 ?a30 ?l30 ?e30 ?k30 ?a31 ?l31 ?e31 ?k31 ?ca32 ?zf_cb32 ?a32 ?cn32 ?l32 ?e32 ?k32 ?a33 ?l33 ?e33 ?k33 ?zb_abs ?zb_bool ?zb_dict ?zb_int ?zb_isinstance ?zb_len ?zb_list ?zb_max ?zb_min ?zb_range ?zb_reversed ?zb_sorted ?zb_str ?zb_tuple ?zg_LETTERS ?zf_ct_below ?zf_ct_last ?zf_ct_machine ?zf_ct_name ?zf_ct_state ?zf_ct_top ?xa_NoName ?xc_NoName ?xi_NoName ?xt_NoName ?xn_NoName ?xl_NoName ?xe_NoName ?xk_NoName ?xa_NoPlace ?xc_NoPlace ?xi_NoPlace ?xt_NoPlace ?xn_NoPlace ?xl_NoPlace ?xe_NoPlace ?xk_NoPlace
    (case a0 => k_is)
    (case l0 => k_is)
    (case e0 => k_is)
    (case k0 => k_is)
    (case a1 => k_is)
    (case l1 => k_is)
    (case e1 => k_is)
    (case k1 => k_is)
    (case a2 => k_is)
    (case l2 => k_is)
    (case e2 => k_is)
    (case k2 => k_is)
    (case a3 => k_is)
    (case l3 => k_is)
    (case e3 => k_is)
    (case k3 => k_is)
    (case a4 => k_is)
    (case l4 => k_is)
    (case e4 => k_is)
    (case k4 => k_is)
    (case a5 => k_is)
    (case l5 => k_is)
    (case e5 => k_is)
    (case k5 => k_is)
    (case a6 => k_is)
    (case l6 => k_is)
    (case e6 => k_is)
    (case k6 => k_is)
    (case a7 => k_is)
    (case l7 => k_is)
    (case e7 => k_is)
    (case k7 => k_is)
    (case ca8 => k_is)
    (case cm8 => k_is)
    (case ck8 => k_is)
    (case a8 => k_is)
    (case cn8 => k_is)
    (case l8 => k_is)
    (case e8 => k_is)
    (case k8 => k_is)
    (case a9 => k_is)
    (case l9 => k_is)
    (case e9 => k_is)
    (case k9 => k_is)
    (case a10 => k_is)
    (case l10 => k_is)
    (case e10 => k_is)
    (case k10 => k_is)
    (case a11 => k_is)
    (case l11 => k_is)
    (case e11 => k_is)
    (case k11 => k_is)
    (case ca12 => k_is)
    (case cm12 => k_is)
    (case ck12 => k_is)
    (case a12 => k_is)
    (case cn12 => k_is)
    (case l12 => k_is)
    (case e12 => k_is)
    (case k12 => k_is)
    (case a13 => k_is)
    (case l13 => k_is)
    (case e13 => k_is)
    (case k13 => k_is)
    (case ca14 => k_is)
    (case zf_cb14 => kernel_rfl)
    (case a14 => k_is)
    (case cn14 => k_is)
    (case l14 => k_is)
    (case e14 => k_is)
    (case k14 => k_is)
    (case ca15 => k_is)
    (case zf_cb15 => kernel_rfl)
    (case a15 => k_is)
    (case cn15 => k_is)
    (case l15 => k_is)
    (case e15 => k_is)
    (case k15 => k_is)
    (case a16 => k_is)
    (case l16 => k_is)
    (case e16 => k_is)
    (case k16 => k_is)
    (case ca17 => k_is)
    (case zf_cb17 => kernel_rfl)
    (case a17 => k_is)
    (case cn17 => k_is)
    (case l17 => k_is)
    (case e17 => k_is)
    (case k17 => k_is)
    (case a18 => k_is)
    (case l18 => k_is)
    (case e18 => k_is)
    (case k18 => k_is)
    (case a19 => k_is)
    (case l19 => k_is)
    (case e19 => k_is)
    (case k19 => k_is)
    (case a20 => k_is)
    (case l20 => k_is)
    (case e20 => k_is)
    (case k20 => k_is)
    (case ca21 => k_is)
    (case zf_cb21 => kernel_rfl)
    (case a21 => k_is)
    (case cn21 => k_is)
    (case l21 => k_is)
    (case e21 => k_is)
    (case k21 => k_is)
    (case a22 => k_is)
    (case l22 => k_is)
    (case e22 => k_is)
    (case k22 => k_is)
    (case a23 => k_is)
    (case l23 => k_is)
    (case e23 => k_is)
    (case k23 => k_is)
    (case a24 => k_is)
    (case l24 => k_is)
    (case e24 => k_is)
    (case k24 => k_is)
    (case a25 => k_is)
    (case l25 => k_is)
    (case e25 => k_is)
    (case k25 => k_is)
    (case a26 => k_is)
    (case l26 => k_is)
    (case e26 => k_is)
    (case k26 => k_is)
    (case a27 => k_is)
    (case l27 => k_is)
    (case e27 => k_is)
    (case k27 => k_is)
    (case a28 => k_is)
    (case l28 => k_is)
    (case e28 => k_is)
    (case k28 => k_is)
    (case ca29 => k_is)
    (case zf_cb29 => kernel_rfl)
    (case a29 => k_is)
    (case cn29 => k_is)
    (case l29 => k_is)
    (case e29 => k_is)
    (case k29 => k_is)
    (case a30 => k_is)
    (case l30 => k_is)
    (case e30 => k_is)
    (case k30 => k_is)
    (case a31 => k_is)
    (case l31 => k_is)
    (case e31 => k_is)
    (case k31 => k_is)
    (case ca32 => k_is)
    (case zf_cb32 => kernel_rfl)
    (case a32 => k_is)
    (case cn32 => k_is)
    (case l32 => k_is)
    (case e32 => k_is)
    (case k32 => k_is)
    (case a33 => k_is)
    (case l33 => k_is)
    (case e33 => k_is)
    (case k33 => k_is)
    (case zb_abs => k_is)
    (case zb_bool => k_is)
    (case zb_dict => k_is)
    (case zb_int => k_is)
    (case zb_isinstance => k_is)
    (case zb_len => k_is)
    (case zb_list => k_is)
    (case zb_max => k_is)
    (case zb_min => k_is)
    (case zb_range => k_is)
    (case zb_reversed => k_is)
    (case zb_sorted => k_is)
    (case zb_str => k_is)
    (case zb_tuple => k_is)
    (case zg_LETTERS => k_is)
    (case zf_ct_below => kernel_rfl)
    (case zf_ct_last => kernel_rfl)
    (case zf_ct_machine => kernel_rfl)
    (case zf_ct_name => kernel_rfl)
    (case zf_ct_state => kernel_rfl)
    (case zf_ct_top => kernel_rfl)
    (case xa_NoName => k_is)
    (case xc_NoName => kernel_rfl)
    (case xi_NoName => k_is)
    (case xt_NoName => k_is)
    (case xn_NoName => k_is)
    (case xl_NoName => k_is)
    (case xe_NoName => k_is)
    (case xk_NoName => k_is)
    (case xa_NoPlace => k_is)
    (case xc_NoPlace => kernel_rfl)
    (case xi_NoPlace => k_is)
    (case xt_NoPlace => k_is)
    (case xn_NoPlace => k_is)
    (case xl_NoPlace => k_is)
    (case xe_NoPlace => k_is)
    (case xk_NoPlace => k_is)

